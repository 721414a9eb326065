import PyProof.Rows.All
import Wide.All
import OpenK.AllK
import Wide.FinOn
import HandS.ForMost
import HandS.DictTup
import HandS.Conv
import KE.KSortTupG
import KE.KDictKeyed
import HandS.Replace
import HandS.FStr
import HandS.IsInst
import HandS.TupLen
import HandS.Wide
import HandS.Flow
import HandS.StrMore
import HandS.Deep
import HandS.More
import PyProof.Rows.SortShellAny
import PyProof.Rows.StrPadFill
import PyProof.Rows.StrPadWhole
import PySem.Challenge.RW_landfall_k41_mended_items_are_sound
import HandS.Walk
import HandS.Evl
set_option Elab.async false
set_option linter.all false
set_option maxRecDepth 100000
set_option maxHeartbeats 4000000
/-! Plain mathematics: sorted lists of items as finite maps. -/
namespace K41

/-- a triple of ints, as the key of an item -/
abbrev K3 := Int × Int × Int
abbrev Val := Int × Int
abbrev Itm := K3 × Val
/-- the order of triples -/
def ltK (a b : K3) : Prop := a.1 < b.1 ∨ (a.1 = b.1 ∧ (a.2.1 < b.2.1 ∨ (a.2.1 = b.2.1 ∧ a.2.2 < b.2.2)))
instance (a b : K3) : Decidable (ltK a b) := by unfold ltK; exact inferInstance
theorem ltK_irrefl (a : K3) : ¬ ltK a a := by unfold ltK; omega
theorem ltK_trans {a b c : K3} (h : ltK a b) (k : ltK b c) : ltK a c := by unfold ltK at *; omega
theorem ltK_asymm {a b : K3} (h : ltK a b) : ¬ ltK b a := by unfold ltK at *; omega
theorem ltK_total {a b : K3} (h : a ≠ b) : ltK a b ∨ ltK b a := by
  obtain ⟨a1, a2, a3⟩ := a
  obtain ⟨b1, b2, b3⟩ := b
  have : ¬ (a1 = b1 ∧ a2 = b2 ∧ a3 = b3) := fun ⟨x, y, z⟩ => h (by subst x; subst y; subst z; rfl)
  unfold ltK
  dsimp only
  omega

def Srt (L : List Itm) : Prop := L.Pairwise fun p q => ltK p.1 q.1
def lk (L : List Itm) (k : K3) : Option Val := (L.find? fun p => decide (p.1 = k)).map (·.2)
def put : List Itm → K3 → Val → List Itm
  | [], k, v => [(k, v)]
  | p :: r, k, v => if p.1 = k then (k, v) :: r else if ltK k p.1 then (k, v) :: p :: r else p :: put r k v
def del (L : List Itm) (k : K3) : List Itm := L.filter fun p => decide (p.1 ≠ k)

theorem lk_nil (k : K3) : lk [] k = none := rfl
theorem lk_cons (p : Itm) (r : List Itm) (k : K3) : lk (p :: r) k = if p.1 = k then some p.2 else lk r k := by
  unfold lk
  by_cases h : p.1 = k <;> simp [h]
theorem lk_none {L : List Itm} {k : K3} : lk L k = none ↔ ∀ p ∈ L, p.1 ≠ k := by
  induction L with
  | nil => simp [lk_nil]
  | cons p r ih => rw [lk_cons]; grind
theorem lk_some_mem {L : List Itm} {k : K3} {v : Val} (h : lk L k = some v) : (k, v) ∈ L := by
  induction L with
  | nil => simp [lk_nil] at h
  | cons p r ih =>
    rw [lk_cons] at h
    by_cases e : p.1 = k
    · rw [if_pos e] at h
      have : p = (k, v) := by
        obtain ⟨a, b⟩ := p
        simp at h e
        rw [h, e]
      rw [this]
      exact List.mem_cons_self
    · rw [if_neg e] at h
      exact List.mem_cons_of_mem _ (ih h)
theorem Srt.nil : Srt [] := List.Pairwise.nil
theorem Srt.tail {p : Itm} {r : List Itm} (h : Srt (p :: r)) : Srt r := (List.pairwise_cons.mp h).2
theorem Srt.head {p : Itm} {r : List Itm} (h : Srt (p :: r)) : ∀ q ∈ r, ltK p.1 q.1 := (List.pairwise_cons.mp h).1
theorem lk_of_mem {L : List Itm} {k : K3} {v : Val} (s : Srt L) (h : (k, v) ∈ L) : lk L k = some v := by
  induction L with
  | nil => cases h
  | cons p r ih =>
    rw [lk_cons]
    rcases List.mem_cons.mp h with e | h
    · subst e; simp
    · have := s.head _ h
      rw [if_neg (fun e => by rw [e] at this; exact ltK_irrefl _ this)]
      exact ih s.tail h
theorem lk_iff {L : List Itm} {k : K3} {v : Val} (s : Srt L) : lk L k = some v ↔ (k, v) ∈ L := ⟨lk_some_mem, lk_of_mem s⟩
theorem mem_one {L : List Itm} (s : Srt L) {k : K3} {v u : Val} (h : (k, v) ∈ L) (h' : (k, u) ∈ L) : v = u := by
  have a := lk_of_mem s h
  have b := lk_of_mem s h'
  rw [a] at b
  exact Option.some.inj b
theorem mem_put {L : List Itm} (s : Srt L) {k : K3} {v : Val} {p : Itm} : p ∈ put L k v ↔ p = (k, v) ∨ (p ∈ L ∧ p.1 ≠ k) := by
  induction L with
  | nil => simp [put]
  | cons q r ih =>
    have hh := s.head
    unfold put
    split
    · rename_i e
      constructor
      · intro h
        rcases List.mem_cons.mp h with h | h
        · exact .inl h
        · refine .inr ⟨List.mem_cons_of_mem _ h, fun z => ?_⟩
          have := hh _ h
          rw [e, z] at this
          exact ltK_irrefl _ this
      · rintro (h | ⟨h, h2⟩)
        · rw [h]; exact List.mem_cons_self
        · rcases List.mem_cons.mp h with h | h
          · rw [h] at h2; exact absurd e h2
          · exact List.mem_cons_of_mem _ h
    · rename_i ne
      split
      · rename_i l
        constructor
        · intro h
          rcases List.mem_cons.mp h with h | h
          · exact .inl h
          · refine .inr ⟨h, fun z => ?_⟩
            rcases List.mem_cons.mp h with h | h
            · rw [h] at z; exact ne z
            · have := hh _ h
              rw [z] at this
              exact ltK_asymm this l
        · rintro (h | ⟨h, h2⟩)
          · rw [h]; exact List.mem_cons_self
          · exact List.mem_cons_of_mem _ h
      · rename_i l
        have ih := ih s.tail
        constructor
        · intro h
          rcases List.mem_cons.mp h with h | h
          · exact .inr ⟨by rw [h]; exact List.mem_cons_self, by rw [h]; exact ne⟩
          · rcases ih.mp h with h | ⟨h, h2⟩
            · exact .inl h
            · exact .inr ⟨List.mem_cons_of_mem _ h, h2⟩
        · rintro (h | ⟨h, h2⟩)
          · exact List.mem_cons_of_mem _ (ih.mpr (.inl h))
          · rcases List.mem_cons.mp h with h | h
            · rw [h]; exact List.mem_cons_self
            · exact List.mem_cons_of_mem _ (ih.mpr (.inr ⟨h, h2⟩))
theorem srt_put {L : List Itm} (s : Srt L) (k : K3) (v : Val) : Srt (put L k v) := by
  induction L with
  | nil => exact List.pairwise_singleton _ _
  | cons q r ih =>
    have hh := s.head
    unfold put
    split
    · rename_i e
      exact List.pairwise_cons.mpr ⟨fun p hp => by rw [← e]; exact hh p hp, s.tail⟩
    · rename_i ne
      split
      · rename_i l
        refine List.pairwise_cons.mpr ⟨fun p hp => ?_, s⟩
        rcases List.mem_cons.mp hp with h | h
        · rw [h]; exact l
        · exact ltK_trans l (hh p h)
      · rename_i l
        refine List.pairwise_cons.mpr ⟨fun p hp => ?_, ih s.tail⟩
        rcases (mem_put s.tail).mp hp with h | ⟨h, _⟩
        · rw [h]
          rcases ltK_total (a := q.1) (b := k) ne with z | z
          · exact z
          · exact absurd z l
        · exact hh p h
theorem lk_put {L : List Itm} (s : Srt L) (k : K3) (v : Val) (j : K3) : lk (put L k v) j = if j = k then some v else lk L j := by
  by_cases e : j = k
  · rw [if_pos e, e]
    exact lk_of_mem (srt_put s k v) ((mem_put s).mpr (.inl rfl))
  · rw [if_neg e]
    cases h : lk L j with
    | none =>
      refine lk_none.mpr fun p hp z => ?_
      rcases (mem_put s).mp hp with q | ⟨q, _⟩
      · rw [q] at z; exact e z.symm
      · exact lk_none.mp h p q z
    | some u => exact lk_of_mem (srt_put s k v) ((mem_put s).mpr (.inr ⟨lk_some_mem h, e⟩))
theorem srt_sub {L M : List Itm} (s : Srt M) (h : L.Sublist M) : Srt L := s.sublist h
theorem srt_filter {L : List Itm} (s : Srt L) (f : Itm → Bool) : Srt (L.filter f) := s.sublist List.filter_sublist
theorem srt_del {L : List Itm} (s : Srt L) (k : K3) : Srt (del L k) := srt_filter s _
theorem mem_del {L : List Itm} {k : K3} {p : Itm} : p ∈ del L k ↔ p ∈ L ∧ p.1 ≠ k := by unfold del; simp
theorem srt_ext : ∀ {L M : List Itm}, Srt L → Srt M → (∀ p, p ∈ L ↔ p ∈ M) → L = M
  | [], [], _, _, _ => rfl
  | [], q :: M, _, _, h => absurd ((h q).mpr List.mem_cons_self) (by simp)
  | p :: L, [], _, _, h => absurd ((h p).mp List.mem_cons_self) (by simp)
  | p :: L, q :: M, s, t, h => by
    have e : p = q := by
      rcases List.mem_cons.mp ((h p).mp List.mem_cons_self) with e | a
      · exact e
      · rcases List.mem_cons.mp ((h q).mpr List.mem_cons_self) with e | b
        · exact e.symm
        · exact absurd (s.head _ b) (ltK_asymm (t.head _ a))
    subst e
    rw [srt_ext s.tail t.tail fun x => ?_]
    constructor
    · intro m
      rcases List.mem_cons.mp ((h x).mp (List.mem_cons_of_mem _ m)) with e | m'
      · subst e; exact absurd (s.head _ m) (ltK_irrefl _)
      · exact m'
    · intro m
      rcases List.mem_cons.mp ((h x).mpr (List.mem_cons_of_mem _ m)) with e | m'
      · subst e; exact absurd (t.head _ m) (ltK_irrefl _)
      · exact m'
theorem put_perm_new {L : List Itm} {k : K3} {v : Val} (h : lk L k = none) : (put L k v).Perm ((k, v) :: L) := by
  induction L with
  | nil => exact List.Perm.refl _
  | cons q r ih =>
    have ne : q.1 ≠ k := lk_none.mp h q List.mem_cons_self
    unfold put
    rw [if_neg ne]
    split
    · exact List.Perm.refl _
    · exact ((ih (lk_none.mpr fun p hp => lk_none.mp h p (List.mem_cons_of_mem _ hp))).cons q).trans (List.Perm.swap _ _ _)
theorem put_perm_old {L : List Itm} {k : K3} {v u : Val} (s : Srt L) (h : (k, u) ∈ L) : (put L k v).Perm ((k, v) :: del L k) := by
  induction L with
  | nil => cases h
  | cons q r ih =>
    unfold put
    split
    · rename_i e
      have : del (q :: r) k = r := by
        unfold del
        rw [List.filter_cons_of_neg (by simp [e])]
        refine List.filter_eq_self.mpr fun p hp => ?_
        have := s.head p hp
        simp
        intro z
        rw [e, z] at this
        exact ltK_irrefl _ this
      rw [this]
    · rename_i ne
      have m : (k, u) ∈ r := by
        rcases List.mem_cons.mp h with e | m
        · rw [← e] at ne; exact absurd rfl ne
        · exact m
      have l := s.head _ m
      rw [if_neg (ltK_asymm l)]
      have : del (q :: r) k = q :: del r k := by
        unfold del
        rw [List.filter_cons_of_pos (by simp [ne])]
      rw [this]
      exact ((ih s.tail m).cons q).trans (List.Perm.swap _ _ _)
theorem del_perm {L : List Itm} {k : K3} {u : Val} (s : Srt L) (h : (k, u) ∈ L) : L.Perm ((k, u) :: del L k) := by
  induction L with
  | nil => cases h
  | cons q r ih =>
    by_cases e : q.1 = k
    · have eq : q = (k, u) := by
        have := mem_one s (k := k) (v := q.2) (u := u) (by rw [← e]; exact List.mem_cons_self) h
        rw [← this, ← e]
      have : del (q :: r) k = r := by
        unfold del
        rw [List.filter_cons_of_neg (by simp [e])]
        refine List.filter_eq_self.mpr fun p hp => ?_
        have := s.head p hp
        simp
        intro z
        rw [e, z] at this
        exact ltK_irrefl _ this
      rw [this, eq]
    · have m : (k, u) ∈ r := by
        rcases List.mem_cons.mp h with e' | m
        · rw [← e'] at e; exact absurd rfl e
        · exact m
      have : del (q :: r) k = q :: del r k := by
        unfold del
        rw [List.filter_cons_of_pos (by simp [e])]
      rw [this]
      exact ((ih s.tail m).cons q).trans (List.Perm.swap _ _ _)
theorem len_put (L : List Itm) (k : K3) (v : Val) : (put L k v).length ≤ L.length + 1 := by
  induction L with
  | nil => simp [put]
  | cons q r ih =>
    unfold put
    split
    · simp
    · split
      · simp
      · simp; exact ih
theorem len_put_new {L : List Itm} {k : K3} {v : Val} (h : lk L k = none) : (put L k v).length = L.length + 1 := (put_perm_new h).length_eq
/-- a count of items, behind a put -/
theorem count_new {L : List Itm} {k : K3} {v : Val} (h : lk L k = none) (f : Itm → Bool) : (put L k v).countP f = L.countP f + (if f (k, v) = true then 1 else 0) := by
  rw [(put_perm_new h).countP_eq, List.countP_cons]
theorem count_old {L : List Itm} {k : K3} {v u : Val} (s : Srt L) (h : (k, u) ∈ L) (f : Itm → Bool) (e : f (k, v) = f (k, u)) : (put L k v).countP f = L.countP f := by
  rw [(put_perm_old s h).countP_eq, List.countP_cons, (del_perm s h).countP_eq, List.countP_cons, e]
theorem count_del {L : List Itm} {k : K3} {u : Val} (s : Srt L) (h : (k, u) ∈ L) (f : Itm → Bool) (e : f (k, u) = false) : (del L k).countP f = L.countP f := by
  rw [(del_perm s h).countP_eq, List.countP_cons, e]
  simp
theorem lk_del {L : List Itm} (s : Srt L) (k j : K3) : lk (del L k) j = if j = k then none else lk L j := by
  by_cases e : j = k
  · rw [if_pos e, e]
    exact lk_none.mpr fun p hp => (mem_del.mp hp).2
  · rw [if_neg e]
    cases h : lk L j with
    | none => exact lk_none.mpr fun p hp => lk_none.mp h p (mem_del.mp hp).1
    | some u => exact lk_of_mem (srt_del s k) (mem_del.mpr ⟨lk_some_mem h, e⟩)
theorem put_same {L : List Itm} (s : Srt L) {k : K3} {v : Val} (h : (k, v) ∈ L) : put L k v = L := by
  refine srt_ext (srt_put s k v) s fun p => ?_
  rw [mem_put s]
  constructor
  · rintro (e | ⟨m, _⟩)
    · rw [e]; exact h
    · exact m
  · intro m
    by_cases e : p.1 = k
    · left
      have := mem_one s (k := k) (v := p.2) (u := v) (by rw [← e]; exact m) h
      rw [← this, ← e]
    · exact .inr ⟨m, e⟩
theorem nodup_of_srt {L : List Itm} (s : Srt L) : (L.map (·.1)).Nodup := by
  unfold List.Nodup
  rw [List.pairwise_map]
  exact s.imp fun h e => by rw [e] at h; exact ltK_irrefl _ h
/-- a list without repetition within another one is not longer -/
theorem nodup_len {α : Type} [DecidableEq α] : ∀ {l m : List α}, l.Nodup → (∀ x ∈ l, x ∈ m) → l.length ≤ m.length
  | [], _, _, _ => Nat.zero_le _
  | x :: l, m, h, s => by
    obtain ⟨h1, h2⟩ := List.nodup_cons.mp h
    have hx := s x List.mem_cons_self
    have := nodup_len (l := l) (m := m.erase x) h2 fun y hy => (List.mem_erase_of_ne (fun e => h1 (by rw [← e]; exact hy))).mpr (s y (List.mem_cons_of_mem _ hy))
    rw [List.length_erase_of_mem hx] at this
    have p : 0 < m.length := List.length_pos_of_mem hx
    simp
    omega
end K41

/-! Names and their words. -/
namespace K41
open PySem L2 TL

/-- the code of a sign, 0 for any other one -/
def code (c : Nat) : Nat := if 48 ≤ c ∧ c ≤ 57 then c - 47 else if c = 95 then 11 else if 97 ≤ c ∧ c ≤ 122 then c - 85 else 0
theorem code_lt (c : Nat) : code c < 38 := by unfold code; split <;> (try split) <;> (try split) <;> omega
theorem code_inj {a b : Nat} (ha : 0 < code a) (h : code a = code b) : a = b := by
  unfold code at *
  repeat' split at ha
  all_goals repeat' split at h
  all_goals omega
/-- the digit of a name at a place -/
def dig (l : List Nat) (i : Nat) : Nat := match l[i]? with
  | some c => code c
  | none => 0
theorem dig_lt (l : List Nat) (i : Nat) : dig l i < 38 := by unfold dig; split <;> first | exact code_lt _ | omega
/-- the number of the first i digits -/
def wpart (l : List Nat) : Nat → Nat
  | 0 => 0
  | i + 1 => wpart l i * 38 + dig l i
def wordN (l : List Nat) : Nat := wpart l 11
/-- the word of a name -/
def wordOf (l : List Nat) : Int := (wordN l : Int)
theorem wpart_inj {l m : List Nat} : ∀ {i : Nat}, wpart l i = wpart m i → ∀ j, j < i → dig l j = dig m j
  | 0, _, j, h => absurd h (Nat.not_lt_zero _)
  | i + 1, h, j, hj => by
    have h : wpart l i * 38 + dig l i = wpart m i * 38 + dig m i := h
    have a := dig_lt l i
    have b := dig_lt m i
    have e : wpart l i = wpart m i := by omega
    by_cases z : j = i
    · subst z; omega
    · exact wpart_inj e j (by omega)
/-- a name: 1 to 11 signs, each with a code -/
def OkName (l : List Nat) : Prop := 1 ≤ l.length ∧ l.length ≤ 11 ∧ ∀ c ∈ l, 0 < code c
theorem wordOf_inj {l m : List Nat} (hl : OkName l) (hm : OkName m) (h : wordOf l = wordOf m) : l = m := by
  have h : wpart l 11 = wpart m 11 := Int.ofNat.inj h
  have d := wpart_inj h
  have dl : ∀ (l : List Nat), OkName l → ∀ j, (dig l j = 0 ↔ l.length ≤ j) := fun l hl j => by
    unfold dig
    by_cases q : j < l.length
    · rw [List.getElem?_eq_getElem q]
      have := hl.2.2 _ (List.getElem_mem q)
      simp only
      omega
    · rw [List.getElem?_eq_none (by omega)]
      exact ⟨fun _ => Nat.le_of_not_lt q, fun _ => rfl⟩
  apply List.ext_getElem?
  intro j
  by_cases hj : j < 11
  · have e := d j hj
    have a := dl l hl j
    have b := dl m hm j
    by_cases q : j < l.length
    · have q' : j < m.length := Nat.lt_of_not_le fun z => absurd (a.mp (e.trans (b.mpr z))) (Nat.not_le_of_lt q)
      unfold dig at e
      rw [List.getElem?_eq_getElem q, List.getElem?_eq_getElem q'] at e
      rw [List.getElem?_eq_getElem q, List.getElem?_eq_getElem q', code_inj (hl.2.2 _ (List.getElem_mem q)) e]
    · have q' : ¬ j < m.length := Nat.not_lt_of_le (b.mp (e.symm.trans (a.mpr (Nat.le_of_not_lt q))))
      rw [List.getElem?_eq_none (by omega), List.getElem?_eq_none (by omega)]
  · have := hl.2.1
    have := hm.2.1
    rw [List.getElem?_eq_none (by omega), List.getElem?_eq_none (by omega)]

/-- the name made of a sign, a number and underscores -/
def nmL (t n j : Nat) : List Nat := t :: (numL n ++ List.replicate j 95)
theorem nmL_len (t n j : Nat) : (nmL t n j).length = 1 + (numL n).length + j := by
  unfold nmL
  simp
  omega
theorem nmL_ok {t n j : Nat} (ht : 0 < code t) (h : (nmL t n j).length ≤ 11) : OkName (nmL t n j) := by
  refine ⟨by rw [nmL_len]; omega, h, fun c hc => ?_⟩
  unfold nmL at hc
  rcases List.mem_cons.mp hc with e | hc
  · rw [e]; exact ht
  · rcases List.mem_append.mp hc with hc | hc
    · have := numL_digits n c hc
      unfold code
      rw [if_pos (by omega)]
      omega
    · rw [(List.mem_replicate.mp hc).2]
      decide
theorem app_cut {a b : List Nat} {i j : Nat} (ha : 95 ∉ a) (hb : 95 ∉ b) (h : a ++ List.replicate i 95 = b ++ List.replicate j 95) : a = b ∧ i = j := by
  induction a generalizing b with
  | nil =>
    cases b with
    | nil =>
      have := congrArg List.length h
      simp at this
      exact ⟨rfl, this⟩
    | cons x b =>
      cases i with
      | zero => simp at h
      | succ i =>
        rw [List.replicate_succ] at h
        have e : 95 = x := (List.cons.inj h).1
        exact absurd (by rw [e]; exact List.mem_cons_self) hb
  | cons x a ih =>
    cases b with
    | nil =>
      cases j with
      | zero => simp at h
      | succ j =>
        rw [List.replicate_succ] at h
        have e : x = 95 := (List.cons.inj h).1
        exact absurd (by rw [e]; exact List.mem_cons_self) ha
    | cons y b =>
      obtain ⟨e1, e2⟩ := List.cons.inj h
      obtain ⟨r1, r2⟩ := ih (fun m => ha (List.mem_cons_of_mem _ m)) (fun m => hb (List.mem_cons_of_mem _ m)) e2
      exact ⟨by rw [e1, r1], r2⟩
theorem nmL_inj {t n j t' n' j' : Nat} (h : nmL t n j = nmL t' n' j') : t = t' ∧ n = n' ∧ j = j' := by
  obtain ⟨e, h⟩ := List.cons.inj h
  obtain ⟨a, b⟩ := app_cut (numL_free (by omega)) (numL_free (by omega)) h
  exact ⟨e, numL_inj a, b⟩
/-- the word of such a name -/
def nw (t n j : Nat) : Int := wordOf (nmL t n j)
theorem nw_inj {t n j t' n' j' : Nat} (ht : 0 < code t) (ht' : 0 < code t') (h1 : (nmL t n j).length ≤ 11) (h2 : (nmL t' n' j').length ≤ 11) (h : nw t n j = nw t' n' j') : t = t' ∧ n = n' ∧ j = j' :=
  nmL_inj (wordOf_inj (nmL_ok ht h1) (nmL_ok ht' h2) h)
theorem wordOf_nonneg (l : List Nat) : 0 ≤ wordOf l := Int.natCast_nonneg _
/-- the last digit of a word -/
theorem wordOf_last (l : List Nat) : wordOf l % 38 = (dig l 10 : Int) := by
  unfold wordOf wordN
  have a := dig_lt l 10
  show ((wpart l 10 * 38 + dig l 10 : Nat) : Int) % 38 = _
  omega
/-- the signs n and s -/
abbrev cN : Nat := 110
abbrev cS : Nat := 115
theorem code_cN : 0 < code cN := by decide
theorem code_cS : 0 < code cS := by decide
theorem numL_len6 {n : Nat} (h : n < 1000000) : (numL n).length ≤ 6 := numL_len (by decide) (by omega)
theorem numL_len10 {n : Nat} (h : n < 10000000000) : (numL n).length ≤ 10 := numL_len (by decide) (by omega)
theorem numL_pos (n : Nat) : 1 ≤ (numL n).length := by
  have := numL_ne n
  cases h : numL n with
  | nil => exact absurd h this
  | cons _ _ => simp
/-- a name that does not begin with n is none of the names of nodes -/
theorem not_nw {l : List Nat} (hl : OkName l) (h : l.head? ≠ some cN) {n j : Nat} (hn : (nmL cN n j).length ≤ 11) : wordOf l ≠ nw cN n j := fun e => by
  have := wordOf_inj hl (nmL_ok code_cN hn) e
  rw [this] at h
  exact h rfl
/-- what the words of entries in the root folder may be: they leave a name for each node -/
def NameOk (c : Int) : Prop := (∀ n : Nat, n < 1000000 → c ≠ nw cN n 3) ∧ ∀ n : Nat, 9000000000 ≤ n → n < 10000000000 → c ≠ nw cN n 0
theorem len3 {n : Nat} (h : n < 1000000) {j : Nat} (hj : j ≤ 3) : (nmL cN n j).length ≤ 11 := by
  rw [nmL_len]
  have := numL_len6 h
  omega
theorem len0 {n : Nat} (h : n < 10000000000) : (nmL cN n 0).length ≤ 11 := by
  rw [nmL_len]
  have := numL_len10 h
  omega
theorem nameOk_other {l : List Nat} (hl : OkName l) (h : l.head? ≠ some cN) : NameOk (wordOf l) :=
  ⟨fun _ hn => not_nw hl h (len3 hn (Nat.le_refl _)), fun _ _ hn => not_nw hl h (len0 hn)⟩
theorem nameOk_nm {n j : Nat} (hn : n < 9000000000) (hj : j ≤ 2) (hl : (nmL cN n j).length ≤ 11) : NameOk (nw cN n j) := by
  refine ⟨fun m hm e => ?_, fun m h1 h2 e => ?_⟩
  · have := nw_inj code_cN code_cN hl (len3 hm (Nat.le_refl _)) e
    omega
  · have := nw_inj code_cN code_cN hl (len0 h2) e
    omega
/-- n5 and a zero is n50 -/
theorem nm_zero (n : Nat) (h : 0 < n) : cN :: (numL n ++ [48]) = nmL cN (10 * n) 0 := by
  unfold nmL
  rw [numL_step (n := 10 * n) (by omega), show 10 * n / 10 = n by omega, show 10 * n % 10 = 0 by omega]
  simp
end K41

/-! The steps of mending, as plain functions, and what they give. -/
namespace K41

def nk (n : Int) : K3 := (n, 0, 0)
def ck (o : Int) : K3 := (0, 4, o)
def isEnt (n : Int) (p : Itm) : Bool := decide (p.1.2.1 = 1 ∧ p.2.1 = n)
/-- how many entries lead to a node -/
def cnt (L : List Itm) (n : Int) : Nat := L.countP (isEnt n)
def ownV (v : Val) : Int := v.1 / 128 % 1000
def ownerAt (L : List Itm) (a : Int) : Int := match lk L (nk a) with
  | some v => ownV v
  | none => 0
def isChg (L : List Itm) (o : Int) (p : Itm) : Bool := decide ((p.1.2.1 = 0 ∨ p.1.2.1 = 3) ∧ ownerAt L p.1.1 = o)
/-- what an owner is charged with -/
def used (L : List Itm) (o : Int) : Nat := L.countP (isChg L o)

inductive Loss where
  | root | item (k : K3) | entry (k : K3) (c : Int) | moved (n : Int) (j : Nat) | links (n o w : Int) | charge (o a b : Int)
  deriving DecidableEq

/-! ### the steps -/
def rootS (L : List Itm) : List Itm := if (lk L (nk 1)).isSome then L else put L (nk 1) (128123, 1)
def rootLs (L : List Itm) : List Loss := if (lk L (nk 1)).isSome then [] else [.root]
def keepI (L : List Itm) (p : Itm) : Bool := decide (p.1.2.1 = 4) || (lk L (nk p.1.1)).isSome
def itemS (L : List Itm) : List Itm := L.filter (keepI L)
def itemLs (L : List Itm) : List Loss := (L.filter fun p => !keepI L p).map fun p => .item p.1
def keepE (L : List Itm) (p : Itm) : Bool := !decide (p.1.2.1 = 1) || (lk L (nk p.2.1)).isSome
def entS (L : List Itm) : List Itm := L.filter (keepE L)
def entLs (L : List Itm) : List Loss := (L.filter fun p => !keepE L p).map fun p => .entry p.1 p.2.1
def freeAt (L : List Itm) (n : Nat) (j : Nat) : Bool := (lk L (1, 1, nw cN n j)).isNone
def freeJ (L : List Itm) (n : Nat) : Nat := if freeAt L n 0 then 0 else if freeAt L n 1 then 1 else if freeAt L n 2 then 2 else if freeAt L n 3 then 3 else 4
def moveS (L : List Itm) (n : Int) : List Itm :=
  let L1 := put L (1, 1, nw cN n.toNat (freeJ L n.toNat)) (n, 0)
  match lk L (nk n) with
  | some v => if v.1 % 2 = 1 then put L1 (nk n) (v.1, 1) else L1
  | none => L1
def mv : List Int → List Itm → List Itm
  | [], L => L
  | n :: r, L => mv r (moveS L n)
def mvLs : List Int → List Itm → List Loss
  | [], _ => []
  | n :: r, L => .moved n (freeJ L n.toNat) :: mvLs r (moveS L n)
def isOrph (L : List Itm) (p : Itm) : Bool := decide (p.1.2.1 = 0 ∧ p.1.1 ≠ 1 ∧ cnt L p.1.1 = 0)
def orphans (L : List Itm) : List Int := (L.filter (isOrph L)).map (·.1.1)
def badLinks (L : List Itm) (p : Itm) : Bool := decide (p.1.2.1 = 0 ∧ p.2.1 % 2 = 0 ∧ p.2.1 / 128000 ≠ cnt L p.1.1)
def linkF (L : List Itm) (p : Itm) : Itm := if badLinks L p then (p.1, (p.2.1 + 128000 * ((cnt L p.1.1 : Int) - p.2.1 / 128000), p.2.2)) else p
def linkS (L : List Itm) : List Itm := L.map (linkF L)
def linkLs (L : List Itm) : List Loss := (L.filter (badLinks L)).map fun p => .links p.1.1 (p.2.1 / 128000) (cnt L p.1.1)
def oldC (L : List Itm) (o : Int) : Val := (lk L (ck o)).getD (0, 0)
def chgS (u : Int → Int) (L : List Itm) (o : Int) : List Itm :=
  if (oldC L o).1 = u o then L else if u o = 0 ∧ (oldC L o).2 = 0 then del L (ck o) else put L (ck o) (u o, (oldC L o).2)
def chg (u : Int → Int) : List Int → List Itm → List Itm
  | [], L => L
  | o :: r, L => chg u r (chgS u L o)
def chgLs (u : Int → Int) : List Int → List Itm → List Loss
  | [], _ => []
  | o :: r, L => (if (oldC L o).1 = u o then [] else [.charge o (oldC L o).1 (u o)]) ++ chgLs u r (chgS u L o)
/-- a sorted list of ints without repetition -/
def SrtI (l : List Int) : Prop := l.Pairwise (· < ·)
def insI (x : Int) : List Int → List Int
  | [] => [x]
  | y :: r => if x = y then y :: r else if x < y then x :: y :: r else y :: insI x r
theorem mem_insI {x z : Int} : ∀ {l : List Int}, z ∈ insI x l ↔ z = x ∨ z ∈ l
  | [] => by simp [insI]
  | y :: r => by
    unfold insI
    split
    · rename_i e; subst e; simp
    · split
      · simp
      · have := mem_insI (x := x) (z := z) (l := r)
        simp [this]
        grind
theorem srt_insI {x : Int} : ∀ {l : List Int}, SrtI l → SrtI (insI x l)
  | [], _ => List.pairwise_singleton _ _
  | y :: r, h => by
    obtain ⟨h1, h2⟩ := List.pairwise_cons.mp h
    unfold insI
    split
    · exact h
    · split
      · rename_i l
        refine List.pairwise_cons.mpr ⟨fun z hz => ?_, h⟩
        rcases List.mem_cons.mp hz with e | hz
        · rw [e]; exact l
        · have := h1 z hz; omega
      · refine List.pairwise_cons.mpr ⟨fun z hz => ?_, srt_insI h2⟩
        rcases mem_insI.mp hz with e | hz
        · omega
        · exact h1 z hz
theorem srtI_ext : ∀ {l m : List Int}, SrtI l → SrtI m → (∀ z, z ∈ l ↔ z ∈ m) → l = m
  | [], [], _, _, _ => rfl
  | [], q :: m, _, _, h => absurd ((h q).mpr List.mem_cons_self) (by simp)
  | p :: l, [], _, _, h => absurd ((h p).mp List.mem_cons_self) (by simp)
  | p :: l, q :: m, s, t, h => by
    obtain ⟨s1, s2⟩ := List.pairwise_cons.mp s
    obtain ⟨t1, t2⟩ := List.pairwise_cons.mp t
    have e : p = q := by
      rcases List.mem_cons.mp ((h p).mp List.mem_cons_self) with e | a
      · exact e
      · rcases List.mem_cons.mp ((h q).mpr List.mem_cons_self) with e | b
        · exact e.symm
        · have := s1 _ b; have := t1 _ a; omega
    subst e
    rw [srtI_ext s2 t2 fun x => ?_]
    constructor
    · intro w
      rcases List.mem_cons.mp ((h x).mp (List.mem_cons_of_mem _ w)) with e | w'
      · have := s1 _ w; omega
      · exact w'
    · intro w
      rcases List.mem_cons.mp ((h x).mpr (List.mem_cons_of_mem _ w)) with e | w'
      · have := t1 _ w; omega
      · exact w'
/-- the owner that an item speaks of -/
def ownOf (L : List Itm) (p : Itm) : Option Int := if p.1.2.1 = 4 then some p.1.2.2 else if p.1.2.1 = 0 ∨ p.1.2.1 = 3 then some (ownerAt L p.1.1) else none
def ownersOf (L : List Itm) : List Itm → List Int
  | [] => []
  | p :: r => match ownOf L p with
    | some o => insI o (ownersOf L r)
    | none => ownersOf L r
def owners (L : List Itm) : List Int := ownersOf L L
theorem srt_ownersOf (L : List Itm) : ∀ M : List Itm, SrtI (ownersOf L M)
  | [] => List.Pairwise.nil
  | p :: r => by
    unfold ownersOf
    split
    · exact srt_insI (srt_ownersOf L r)
    · exact srt_ownersOf L r
theorem mem_ownersOf (L : List Itm) (o : Int) : ∀ M : List Itm, o ∈ ownersOf L M ↔ ∃ p ∈ M, ownOf L p = some o
  | [] => by simp [ownersOf]
  | p :: r => by
    unfold ownersOf
    have ih := mem_ownersOf L o r
    split
    · rename_i o' e
      rw [mem_insI, ih]
      constructor
      · rintro (h | ⟨q, h1, h2⟩)
        · exact ⟨p, List.mem_cons_self, by rw [e, h]⟩
        · exact ⟨q, List.mem_cons_of_mem _ h1, h2⟩
      · rintro ⟨q, h1, h2⟩
        rcases List.mem_cons.mp h1 with h1 | h1
        · rw [h1, e] at h2; exact .inl (Option.some.inj h2).symm
        · exact .inr ⟨q, h1, h2⟩
    · rename_i e
      rw [ih]
      constructor
      · rintro ⟨q, h1, h2⟩
        exact ⟨q, List.mem_cons_of_mem _ h1, h2⟩
      · rintro ⟨q, h1, h2⟩
        rcases List.mem_cons.mp h1 with h1 | h1
        · rw [h1, e] at h2; cases h2
        · exact ⟨q, h1, h2⟩
theorem srt_owners (L : List Itm) : SrtI (owners L) := srt_ownersOf L L
theorem mem_owners {L : List Itm} {o : Int} : o ∈ owners L ↔ ∃ p ∈ L, ownOf L p = some o := mem_ownersOf L o L

def m1 (L : List Itm) : List Itm := rootS L
def m2 (L : List Itm) : List Itm := itemS (m1 L)
def m3 (L : List Itm) : List Itm := entS (m2 L)
def m4 (L : List Itm) : List Itm := mv (orphans (m3 L)) (m3 L)
def m5 (L : List Itm) : List Itm := linkS (m4 L)
def usedI (L : List Itm) (o : Int) : Int := (used L o : Int)
def m6 (L : List Itm) : List Itm := chg (usedI (m5 L)) (owners (m5 L)) (m5 L)
def losses (L : List Itm) : List Loss :=
  rootLs L ++ itemLs (m1 L) ++ entLs (m2 L) ++ mvLs (orphans (m3 L)) (m3 L) ++ linkLs (m4 L) ++ chgLs (usedI (m5 L)) (owners (m5 L)) (m5 L)

/-! ### sound items -/
/-- a single item fits the others -/
def Fit (L : List Itm) (k : K3) (v : Val) : Prop :=
  (k.1 = 0 ∧ k.2.1 = 4 ∧ 0 ≤ k.2.2 ∧ k.2.2 ≤ 999 ∧ 0 ≤ v.1 ∧ 0 ≤ v.2 ∧ v.2 ≤ 1000001 ∧ v ≠ (0, 0)) ∨
  (1 ≤ k.1 ∧ 0 ≤ k.2.2 ∧ ∃ w, (nk k.1, w) ∈ L ∧
    ((k.2.1 = 0 ∧ k.2.2 = 0 ∧ 128000 ≤ v.1 ∧ 0 ≤ v.2 ∧ (v.1 % 2 = 1 ∨ v.2 ≤ 1000000)) ∨
     (k.2.1 = 1 ∧ w.1 % 2 = 1 ∧ 1 < v.1 ∧ v.2 = 0 ∧ ∃ u, (nk v.1, u) ∈ L) ∨
     (k.2.1 = 2 ∧ 0 ≤ v.1 ∧ v.1 < 2305843009213693951 ∧ v.2 = 0) ∨
     (k.2.1 = 3 ∧ w.1 % 2 = 0 ∧ 30 * k.2.2 < w.2)))
/-- all but the charges is sound; rk: a folder's parent ranks below it -/
structure Snd0 (rk : Int → Nat) (L : List Itm) : Prop where
  srt : Srt L
  fit : ∀ k v, (k, v) ∈ L → Fit L k v
  root : ∃ w, (nk 1, w) ∈ L ∧ w.1 % 2 = 1 ∧ w.1 / 128000 = 1 ∧ w.2 = 1
  cnt : ∀ n w, n ≠ 1 → (nk n, w) ∈ L → (cnt L n : Int) = w.1 / 128000
  par : ∀ n w, n ≠ 1 → (nk n, w) ∈ L → w.1 % 2 = 1 → w.1 / 128000 = 1 ∧ rk w.2 < rk n ∧ ∀ a c u, ((a, 1, c), (n, u)) ∈ L → a = w.2
structure Chg (L : List Itm) : Prop where
  has : ∀ o, 0 < used L o → ∃ v, (ck o, v) ∈ L
  right : ∀ o v, (ck o, v) ∈ L → v.1 = used L o
def Rk (rk : Int → Nat) : Prop := rk 1 = 0 ∧ ∀ n, n ≠ 1 → 0 < rk n
def Sound (L : List Itm) : Prop := ∃ rk, Rk rk ∧ Snd0 rk L ∧ Chg L
/-- the numbers of nodes -/
def NumOk (n : Int) : Prop := n < 1000000 ∨ (9000000000 ≤ n ∧ n < 10000000000)
structure Names (L : List Itm) : Prop where
  word : ∀ c v, ((1, 1, c), v) ∈ L → NameOk c
  num : ∀ n w, (nk n, w) ∈ L → NumOk n
end K41

/-! What mending gives for a part of sound items. -/
namespace K41

theorem nk_inj {a b : Int} (h : nk a = nk b) : a = b := (Prod.mk.inj h).1
theorem ck_inj {a b : Int} (h : ck a = ck b) : a = b := (Prod.mk.inj (Prod.mk.inj h).2).2
theorem srt_nodup {L : List Itm} (s : Srt L) : L.Nodup := s.imp fun h e => by rw [e] at h; exact ltK_irrefl _ h
theorem isSome_mem {L : List Itm} {k : K3} : (lk L k).isSome = true ↔ ∃ v, (k, v) ∈ L := by
  constructor
  · intro h
    obtain ⟨v, e⟩ := Option.isSome_iff_exists.mp h
    exact ⟨v, lk_some_mem e⟩
  · rintro ⟨v, h⟩
    cases e : lk L k with
    | some _ => rfl
    | none => exact absurd rfl (lk_none.mp e _ h)
theorem none_mem {L : List Itm} {k : K3} : lk L k = none ↔ ∀ v, (k, v) ∉ L := by
  rw [lk_none]
  constructor
  · intro h v m; exact h _ m rfl
  · intro h p m e; exact h p.2 (by rw [← e]; exact m)
theorem cnt_pos {L : List Itm} {n : Int} : 0 < cnt L n ↔ ∃ a c u, ((a, 1, c), (n, u)) ∈ L := by
  unfold cnt
  rw [List.countP_pos_iff]
  constructor
  · rintro ⟨⟨⟨a, b, c⟩, ⟨x, u⟩⟩, m, h⟩
    have h := of_decide_eq_true h
    dsimp only at h
    obtain ⟨rfl, rfl⟩ := h
    exact ⟨a, c, u, m⟩
  · rintro ⟨a, c, u, m⟩
    exact ⟨_, m, decide_eq_true ⟨rfl, rfl⟩⟩
theorem cnt_le {L W : List Itm} (s : Srt L) {n : Int} (h : ∀ p ∈ L, isEnt n p = true → p ∈ W) : cnt L n ≤ cnt W n := by
  unfold cnt
  rw [List.countP_eq_length_filter, List.countP_eq_length_filter]
  refine nodup_len ((srt_nodup s).sublist List.filter_sublist) fun x hx => ?_
  obtain ⟨h1, h2⟩ := List.mem_filter.mp hx
  exact List.mem_filter.mpr ⟨h x h1 h2, h2⟩

/-! ### the first three steps -/
theorem mem_m1 {L : List Itm} (s : Srt L) {k : K3} {v : Val} : (k, v) ∈ m1 L ↔ (k, v) ∈ L ∨ (lk L (nk 1) = none ∧ k = nk 1 ∧ v = (128123, 1)) := by
  unfold m1 rootS
  cases e : lk L (nk 1) with
  | some w => simp
  | none =>
    simp only [Option.isSome_none, Bool.false_eq_true, if_false, true_and]
    rw [mem_put s]
    constructor
    · rintro (h | ⟨h, _⟩)
      · exact .inr (Prod.mk.inj h)
      · exact .inl h
    · rintro (h | ⟨h1, h2⟩)
      · exact .inr ⟨h, fun z => none_mem.mp e v (by rw [← show k = nk 1 from z]; exact h)⟩
      · exact .inl (by rw [h1, h2])
theorem srt_m1 {L : List Itm} (s : Srt L) : Srt (m1 L) := by
  unfold m1 rootS
  split
  · exact s
  · exact srt_put s _ _
theorem root_m1 {L : List Itm} (s : Srt L) : ∃ v, (nk 1, v) ∈ m1 L := by
  cases e : lk L (nk 1) with
  | some w => exact ⟨w, (mem_m1 s).mpr (.inl (lk_some_mem e))⟩
  | none => exact ⟨_, (mem_m1 s).mpr (.inr ⟨e, rfl, rfl⟩)⟩
theorem srt_m2 {L : List Itm} (s : Srt L) : Srt (m2 L) := srt_filter (srt_m1 s) _
theorem mem_m2 {L : List Itm} {p : Itm} : p ∈ m2 L ↔ p ∈ m1 L ∧ (p.1.2.1 = 4 ∨ ∃ w, (nk p.1.1, w) ∈ m1 L) := by
  unfold m2 itemS
  rw [List.mem_filter]
  unfold keepI
  rw [Bool.or_eq_true, decide_eq_true_eq, isSome_mem]
theorem srt_m3 {L : List Itm} (s : Srt L) : Srt (m3 L) := srt_filter (srt_m2 s) _
theorem mem_m3 {L : List Itm} {p : Itm} : p ∈ m3 L ↔ p ∈ m2 L ∧ (p.1.2.1 = 1 → ∃ w, (nk p.2.1, w) ∈ m2 L) := by
  unfold m3 entS
  rw [List.mem_filter]
  unfold keepE
  rw [Bool.or_eq_true, isSome_mem]
  simp
  grind
theorem node_m2 {L : List Itm} {a : Int} {w : Val} : (nk a, w) ∈ m2 L ↔ (nk a, w) ∈ m1 L := by
  rw [mem_m2]
  constructor
  · exact fun h => h.1
  · exact fun h => ⟨h, .inr ⟨w, h⟩⟩
theorem node_m3 {L : List Itm} {a : Int} {w : Val} : (nk a, w) ∈ m3 L ↔ (nk a, w) ∈ m1 L := by
  rw [mem_m3, node_m2]
  constructor
  · exact fun h => h.1
  · exact fun h => ⟨h, fun z => absurd (show (0 : Int) = 1 from z) (by decide)⟩

structure Part (W L : List Itm) : Prop where
  srt : Srt L
  sub : ∀ k v, (k, v) ∈ L → (k, v) ∈ W ∨ (k = nk 1 ∧ v = (128123, 1))
  root : ∃ v, (nk 1, v) ∈ L
  node : ∀ k v, (k, v) ∈ L → k.2.1 ≠ 4 → ∃ w, (nk k.1, w) ∈ L
  child : ∀ k v, (k, v) ∈ L → k.2.1 = 1 → ∃ w, (nk v.1, w) ∈ L
theorem part_m3 {W L : List Itm} (s : Srt L) (h : ∀ p ∈ L, p ∈ W) : Part W (m3 L) where
  srt := srt_m3 s
  sub := fun k v m => by
    have := (mem_m2.mp (mem_m3.mp m).1).1
    rcases (mem_m1 s).mp this with a | ⟨_, b⟩
    · exact .inl (h _ a)
    · exact .inr b
  root := by
    obtain ⟨v, m⟩ := root_m1 s
    exact ⟨v, node_m3.mpr m⟩
  node := fun k v m h4 => by
    rcases (mem_m2.mp (mem_m3.mp m).1).2 with a | ⟨w, a⟩
    · exact absurd a h4
    · exact ⟨w, node_m3.mpr a⟩
  child := fun k v m h1 => by
    obtain ⟨w, a⟩ := (mem_m3.mp m).2 h1
    exact ⟨w, node_m3.mpr (node_m2.mp a)⟩
section
variable {rk : Int → Nat} {W L : List Itm}
theorem Part.rootv (P : Part W L) (S : Snd0 rk W) {v : Val} (h : (nk 1, v) ∈ L) : v.1 % 2 = 1 ∧ v.1 / 128000 = 1 ∧ v.2 = 1 := by
  obtain ⟨w, hw, r⟩ := S.root
  rcases P.sub _ _ h with a | ⟨_, rfl⟩
  · rw [mem_one S.srt a hw]; exact r
  · decide
theorem Part.fit (P : Part W L) (S : Snd0 rk W) : ∀ k v, (k, v) ∈ L → Fit L k v := by
  intro k v m
  rcases P.sub _ _ m with a | ⟨rfl, rfl⟩
  · rcases S.fit k v a with f | ⟨f1, f2, w, f3, f4⟩
    · exact .inl f
    · refine .inr ⟨f1, f2, ?_⟩
      have n4 : k.2.1 ≠ 4 := by omega
      obtain ⟨w', m'⟩ := P.node k v m n4
      refine ⟨w', m', ?_⟩
      have e : w' = w ∨ (w'.1 % 2 = 1 ∧ w.1 % 2 = 1) := by
        rcases P.sub _ _ m' with b | ⟨b1, b2⟩
        · exact .inl (mem_one S.srt b f3)
        · right
          rw [b1] at f3 m'
          obtain ⟨w0, h0, r0⟩ := S.root
          exact ⟨(P.rootv S m').1, by rw [mem_one S.srt f3 h0]; exact r0.1⟩
      rcases f4 with f4 | f4 | f4 | f4
      · exact .inl f4
      · refine .inr (.inl ⟨f4.1, ?_, f4.2.2.1, f4.2.2.2.1, P.child k v m f4.1⟩)
        rcases e with e | e
        · rw [e]; exact f4.2.1
        · exact e.1
      · exact .inr (.inr (.inl f4))
      · refine .inr (.inr (.inr ?_))
        rcases e with e | e
        · rw [e]; exact f4
        · omega
  · exact .inr ⟨by decide, by decide, (128123, 1), m, .inl ⟨rfl, rfl, by decide, by decide, by decide⟩⟩
theorem Part.cnt_le (P : Part W L) {n : Int} : cnt L n ≤ cnt W n := by
  refine K41.cnt_le P.srt fun p hp he => ?_
  have he := of_decide_eq_true he
  rcases P.sub p.1 p.2 hp with a | ⟨a, _⟩
  · exact a
  · rw [a] at he
    exact absurd he.1 (by unfold nk; decide)
end

/-! ### moving -/
def Good (rk : Int → Nat) (L : List Itm) (n : Int) (w : Val) : Prop :=
  1 ≤ cnt L n ∧ (w.1 % 2 = 1 → w.1 / 128000 = 1 ∧ cnt L n = 1 ∧ rk w.2 < rk n ∧ ∀ a c u, ((a, 1, c), (n, u)) ∈ L → a = w.2)
def Orph (L : List Itm) (n : Int) (w : Val) : Prop := cnt L n = 0 ∧ (w.1 % 2 = 1 → w.1 / 128000 = 1)
structure Mov (rk : Int → Nat) (L : List Itm) (ns : List Int) : Prop where
  srt : Srt L
  fit : ∀ k v, (k, v) ∈ L → Fit L k v
  root : ∃ w, (nk 1, w) ∈ L ∧ w.1 % 2 = 1 ∧ w.1 / 128000 = 1 ∧ w.2 = 1
  nodup : ns.Nodup
  rem : ∀ n ∈ ns, 1 < n ∧ NumOk n ∧ ∃ w, (nk n, w) ∈ L ∧ Orph L n w
  good : ∀ n w, n ≠ 1 → (nk n, w) ∈ L → n ∉ ns → Good rk L n w
  free : ∀ n ∈ ns, ∀ c v, ((1, 1, c), v) ∈ L → (n < 1000000 → c ≠ nw cN n.toNat 3) ∧ (9000000000 ≤ n → c ≠ nw cN n.toNat 0)
theorem freeAt_iff {L : List Itm} {n j : Nat} : freeAt L n j = true ↔ ∀ v, ((1, 1, nw cN n j), v) ∉ L := by
  unfold freeAt
  rw [Option.isNone_iff_eq_none, none_mem]
theorem free_of {L : List Itm} {n : Nat} (h : freeAt L n 0 = true ∨ freeAt L n 1 = true ∨ freeAt L n 2 = true ∨ freeAt L n 3 = true) : freeAt L n (freeJ L n) = true ∧ freeJ L n ≤ 3 := by
  unfold freeJ
  split
  · exact ⟨by assumption, by omega⟩
  · split
    · exact ⟨by assumption, by omega⟩
    · split
      · exact ⟨by assumption, by omega⟩
      · split
        · exact ⟨by assumption, by omega⟩
        · grind
section
variable {rk : Int → Nat} {L : List Itm} {n : Int} {r : List Int}
/-- the name that a node gets is new, and short enough, and so are those that are tried -/
theorem Mov.name (M : Mov rk L (n :: r)) : lk L (1, 1, nw cN n.toNat (freeJ L n.toNat)) = none ∧ freeJ L n.toNat ≤ 3 ∧ ∀ j, j ≤ freeJ L n.toNat → (nmL cN n.toNat j).length ≤ 11 := by
  obtain ⟨h1, h2, _⟩ := M.rem n List.mem_cons_self
  have hf := M.free n List.mem_cons_self
  rcases h2 with h2 | ⟨h2, h3⟩
  · have f3 : freeAt L n.toNat 3 = true := freeAt_iff.mpr fun v m => (hf _ v m).1 h2 rfl
    obtain ⟨a, b⟩ := free_of (.inr (.inr (.inr f3)))
    exact ⟨none_mem.mpr (freeAt_iff.mp a), b, fun j hj => len3 (by omega) (by omega)⟩
  · have f0 : freeAt L n.toNat 0 = true := freeAt_iff.mpr fun v m => (hf _ v m).2 h2 rfl
    have e : freeJ L n.toNat = 0 := by
      unfold freeJ
      rw [if_pos f0]
    rw [e]
    refine ⟨none_mem.mpr (freeAt_iff.mp f0), by omega, fun j hj => ?_⟩
    rw [show j = 0 by omega]
    exact len0 (by omega)
/-- the value of a node that was moved -/
def moved (w : Val) : Val := if w.1 % 2 = 1 then (w.1, 1) else w
theorem mem_moveS {w : Val} (s : Srt L) (hw : (nk n, w) ∈ L) {p : Itm} :
    p ∈ moveS L n ↔ p = ((1, 1, nw cN n.toNat (freeJ L n.toNat)), (n, 0)) ∨ p = (nk n, moved w) ∨ (p ∈ L ∧ p.1 ≠ nk n ∧ p.1 ≠ (1, 1, nw cN n.toNat (freeJ L n.toNat))) := by
  have ne : nk n ≠ (1, 1, nw cN n.toNat (freeJ L n.toNat)) := fun e => by
    have := (Prod.mk.inj (Prod.mk.inj e).2).1
    omega
  unfold moveS moved
  rw [lk_of_mem s hw]
  dsimp only
  split
  · rw [mem_put (srt_put s _ _), mem_put s]
    grind
  · rw [mem_put s]
    constructor
    · rintro (h | ⟨h1, h2⟩)
      · exact .inl h
      · by_cases e : p.1 = nk n
        · right; left
          have := mem_one s (k := nk n) (v := p.2) (u := w) (by rw [← e]; exact h1) hw
          rw [← this, ← e]
        · exact .inr (.inr ⟨h1, e, h2⟩)
    · rintro (h | h | ⟨h1, h2, h3⟩)
      · exact .inl h
      · rw [h]; exact .inr ⟨hw, ne⟩
      · exact .inr ⟨h1, h3⟩
theorem srt_moveS (s : Srt L) : Srt (moveS L n) := by
  unfold moveS
  dsimp only
  split
  · split
    · exact srt_put (srt_put s _ _) _ _
    · exact srt_put s _ _
  · exact srt_put s _ _
theorem cnt_moveS (s : Srt L) (hl : lk L (1, 1, nw cN n.toNat (freeJ L n.toNat)) = none) (m : Int) : cnt (moveS L n) m = cnt L m + if n = m then 1 else 0 := by
  have e1 : cnt (put L (1, 1, nw cN n.toNat (freeJ L n.toNat)) (n, 0)) m = cnt L m + if n = m then 1 else 0 := by
    unfold cnt
    rw [count_new hl]
    congr 1
    unfold isEnt
    simp
  unfold moveS
  dsimp only
  split
  · rename_i v hv
    split
    · rw [← e1]
      have hm : (nk n, v) ∈ put L (1, 1, nw cN n.toNat (freeJ L n.toNat)) (n, 0) := (mem_put s).mpr (.inr ⟨lk_some_mem hv, fun e => by
        have := (Prod.mk.inj (Prod.mk.inj e).2).1
        omega⟩)
      exact count_old (srt_put s _ _) hm _ (by unfold isEnt nk; simp)
    · exact e1
  · exact e1
theorem moved_fst (w : Val) : (moved w).1 = w.1 := by unfold moved; split <;> rfl
theorem Mov.step (R : Rk rk) (M : Mov rk L (n :: r)) : Mov rk (moveS L n) r := by
  obtain ⟨hl, hj, hlen⟩ := M.name
  obtain ⟨h1, h2, w, hw, ho⟩ := M.rem n List.mem_cons_self
  have mem : ∀ p, p ∈ moveS L n ↔ p = ((1, 1, nw cN n.toNat (freeJ L n.toNat)), (n, 0)) ∨ p = (nk n, moved w) ∨ (p ∈ L ∧ p.1 ≠ nk n ∧ p.1 ≠ (1, 1, nw cN n.toNat (freeJ L n.toNat))) := fun p => mem_moveS M.srt hw
  have old : ∀ k v, (k, v) ∈ L → k ≠ nk n → (k, v) ∈ moveS L n := fun k v m e => (mem _).mpr (.inr (.inr ⟨m, e, fun z => none_mem.mp hl v (by rw [← show k = _ from z]; exact m)⟩))
  have hcnt := cnt_moveS (n := n) M.srt hl
  obtain ⟨nd1, nd2⟩ := List.nodup_cons.mp M.nodup
  have n1 : n ≠ 1 := by omega
  have noent : ∀ a c u, ((a, 1, c), (n, u)) ∉ L := fun a c u m => by
    have := cnt_pos.mpr ⟨a, c, u, m⟩
    have := ho.1
    omega
  have node : ∀ a u, (nk a, u) ∈ L → ∃ u', (nk a, u') ∈ moveS L n ∧ u'.1 = u.1 ∧ (u.1 % 2 = 0 → u' = u) := fun a u m => by
    by_cases e : a = n
    · rw [e] at m ⊢
      rw [mem_one M.srt m hw]
      refine ⟨moved w, (mem _).mpr (.inr (.inl rfl)), moved_fst w, fun z => ?_⟩
      unfold moved
      rw [if_neg (by omega)]
    · exact ⟨u, old _ _ m (fun z => e (nk_inj z)), rfl, fun _ => rfl⟩
  refine ⟨srt_moveS M.srt, ?_, ?_, nd2, ?_, ?_, ?_⟩
  · intro k v m
    rcases (mem _).mp m with e | e | ⟨m, e1, e2⟩
    · obtain ⟨rfl, rfl⟩ := Prod.mk.inj e
      obtain ⟨w1, hw1, k1, _⟩ := M.root
      obtain ⟨w2, hw2, k2, _⟩ := node 1 w1 hw1
      exact .inr ⟨Int.le_refl 1, wordOf_nonneg _, w2, hw2, .inr (.inl ⟨rfl, by rw [k2]; exact k1, h1, rfl, moved w, (mem _).mpr (.inr (.inl rfl))⟩)⟩
    · obtain ⟨rfl, rfl⟩ := Prod.mk.inj e
      rcases M.fit _ _ hw with f | ⟨f1, f2, w0, f3, f4⟩
      · have := f.1
        have e : (nk n).1 = n := rfl
        omega
      · refine .inr ⟨f1, f2, moved w, m, .inl ?_⟩
        have z : (nk n).2.1 = 0 := rfl
        rcases f4 with f4 | f4 | f4 | f4
        · refine ⟨f4.1, f4.2.1, by rw [moved_fst]; exact f4.2.2.1, ?_, ?_⟩
          · unfold moved
            split
            · show (0 : Int) ≤ 1
              decide
            · exact f4.2.2.2.1
          · unfold moved
            split
            · left; assumption
            · exact f4.2.2.2.2
        · omega
        · omega
        · omega
    · rcases M.fit _ _ m with f | ⟨f1, f2, w0, f3, f4⟩
      · exact .inl f
      · obtain ⟨w1, g1, g2, g3⟩ := node _ _ f3
        refine .inr ⟨f1, f2, w1, g1, ?_⟩
        rcases f4 with f4 | f4 | f4 | f4
        · exact .inl f4
        · obtain ⟨u, hu⟩ := f4.2.2.2.2
          obtain ⟨u', hu', _⟩ := node _ _ hu
          exact .inr (.inl ⟨f4.1, by rw [g2]; exact f4.2.1, f4.2.2.1, f4.2.2.2.1, u', hu'⟩)
        · exact .inr (.inr (.inl f4))
        · exact .inr (.inr (.inr (by rw [g3 f4.2.1]; exact f4)))
  · obtain ⟨w1, hw1, k1⟩ := M.root
    exact ⟨w1, old _ _ hw1 (fun z => n1 (nk_inj z).symm), k1⟩
  · intro m hm
    obtain ⟨a1, a2, u, hu, ho'⟩ := M.rem m (List.mem_cons_of_mem _ hm)
    have mn : m ≠ n := fun e => nd1 (by rw [← e]; exact hm)
    refine ⟨a1, a2, u, old _ _ hu (fun z => mn (nk_inj z)), ?_, ho'.2⟩
    rw [hcnt, if_neg (Ne.symm mn)]
    exact ho'.1
  · intro m u m1 hu hr
    by_cases e : m = n
    · subst e
      rcases (mem _).mp hu with e | e | ⟨m', e1, e2⟩
      · have := (Prod.mk.inj (Prod.mk.inj (Prod.mk.inj e).1).2).1
        omega
      · have e : u = moved w := (Prod.mk.inj e).2
        rw [e]
        refine ⟨by rw [hcnt, if_pos rfl]; omega, fun k1 => ?_⟩
        rw [moved_fst] at k1 ⊢
        have e2 : (moved w).2 = 1 := by unfold moved; rw [if_pos k1]
        refine ⟨ho.2 k1, by rw [hcnt, if_pos rfl, ho.1], ?_, ?_⟩
        · rw [e2, R.1]
          exact R.2 m m1
        · intro a c u' hm
          rw [e2]
          rcases (mem _).mp hm with q | q | ⟨q, _⟩
          · exact (Prod.mk.inj (Prod.mk.inj q).1).1
          · have := (Prod.mk.inj (Prod.mk.inj (Prod.mk.inj q).1).2).1
            omega
          · exact absurd q (noent a c u')
      · exact absurd rfl e1
    · have hu' : (nk m, u) ∈ L := by
        rcases (mem _).mp hu with q | q | ⟨q, _⟩
        · have := (Prod.mk.inj (Prod.mk.inj (Prod.mk.inj q).1).2).1
          omega
        · exact absurd (nk_inj (Prod.mk.inj q).1) e
        · exact q
      obtain ⟨g1, g2⟩ := M.good m u m1 hu' (fun z => by
        rcases List.mem_cons.mp z with z | z
        · exact e z
        · exact hr z)
      refine ⟨by rw [hcnt, if_neg (Ne.symm e)]; exact g1, fun k1 => ?_⟩
      obtain ⟨b1, b2, b3, b4⟩ := g2 k1
      refine ⟨b1, by rw [hcnt, if_neg (Ne.symm e)]; exact b2, b3, fun a c u' hm => ?_⟩
      rcases (mem _).mp hm with q | q | ⟨q, _⟩
      · exact absurd (Prod.mk.inj (Prod.mk.inj q).2).1 e
      · have := (Prod.mk.inj (Prod.mk.inj (Prod.mk.inj q).1).2).1
        omega
      · exact b4 a c u' q
  · intro m hm c v hc
    have mn : m ≠ n := fun e => nd1 (by rw [← e]; exact hm)
    obtain ⟨a1, _⟩ := M.rem m (List.mem_cons_of_mem _ hm)
    rcases (mem _).mp hc with q | q | ⟨q, _⟩
    · have q : c = nw cN n.toNat (freeJ L n.toNat) := (Prod.mk.inj (Prod.mk.inj (Prod.mk.inj q).1).2).2
      subst q
      refine ⟨fun hm6 z => ?_, fun _ z => ?_⟩
      · have := nw_inj code_cN code_cN (hlen _ (Nat.le_refl _)) (len3 (by omega) (Nat.le_refl _)) z
        omega
      · obtain ⟨_, b, _⟩ := M.rem m (List.mem_cons_of_mem _ hm)
        have := nw_inj code_cN code_cN (hlen _ (Nat.le_refl _)) (len0 (by unfold NumOk at b; omega)) z
        omega
    · have := (Prod.mk.inj (Prod.mk.inj (Prod.mk.inj q).1).2).1
      omega
    · exact M.free m (List.mem_cons_of_mem _ hm) c v q
end
theorem Mov.all {rk : Int → Nat} (R : Rk rk) : ∀ (r : List Int) (L : List Itm), Mov rk L r → Mov rk (mv r L) []
  | [], _, M => M
  | _ :: r, _, M => Mov.all R r _ (M.step R)
end K41

/-! What mending gives: the links, the charges, all in all. -/
namespace K41

section
variable {rk : Int → Nat} {W L : List Itm}
theorem mem_orphans {n : Int} : n ∈ orphans L ↔ ∃ c v, ((n, 0, c), v) ∈ L ∧ n ≠ 1 ∧ cnt L n = 0 := by
  unfold orphans
  rw [List.mem_map]
  constructor
  · rintro ⟨⟨⟨a, b, c⟩, v⟩, h, rfl⟩
    obtain ⟨h1, h2⟩ := List.mem_filter.mp h
    have h2 := of_decide_eq_true h2
    dsimp only at h2
    obtain ⟨rfl, h3, h4⟩ := h2
    exact ⟨c, v, h1, h3, h4⟩
  · rintro ⟨c, v, h1, h2, h3⟩
    exact ⟨((n, 0, c), v), List.mem_filter.mpr ⟨h1, decide_eq_true ⟨rfl, h2, h3⟩⟩, rfl⟩
theorem Part.c0 (P : Part W L) (S : Snd0 rk W) {n c : Int} {v : Val} (h : ((n, 0, c), v) ∈ L) : c = 0 ∧ 1 ≤ n := by
  rcases P.fit S _ _ h with f | ⟨f1, f2, w, f3, f4⟩
  · have := f.2.1
    dsimp only at this
    omega
  · dsimp only at f1 f2 f4
    omega
theorem Part.mov (P : Part W L) (S : Snd0 rk W) (N : Names W) : Mov rk L (orphans L) where
  srt := P.srt
  fit := P.fit S
  root := by
    obtain ⟨v, h⟩ := P.root
    exact ⟨v, h, P.rootv S h⟩
  nodup := by
    unfold orphans
    refine List.Pairwise.map (R := fun p q : Itm => p.1.1 ≠ q.1.1 ) _ (fun _ _ h => h) ?_
    refine List.Pairwise.imp_of_mem ?_ (P.srt.sublist (List.filter_sublist (p := isOrph L)))
    intro a b ha hb l e
    obtain ⟨⟨a1, a2, a3⟩, v⟩ := a
    obtain ⟨⟨b1, b2, b3⟩, u⟩ := b
    obtain ⟨ha1, ha2⟩ := List.mem_filter.mp ha
    obtain ⟨hb1, hb2⟩ := List.mem_filter.mp hb
    have ha2 := (of_decide_eq_true ha2).1
    have hb2 := (of_decide_eq_true hb2).1
    dsimp only at ha2 hb2 e
    subst ha2 hb2 e
    have := (P.c0 S ha1).1
    have := (P.c0 S hb1).1
    unfold ltK at l
    dsimp only at l
    omega
  rem := by
    intro n hn
    obtain ⟨c, v, h1, h2, h3⟩ := mem_orphans.mp hn
    obtain ⟨rfl, h4⟩ := P.c0 S h1
    rcases P.sub _ _ h1 with a | ⟨a, _⟩
    · refine ⟨by omega, N.num n v a, v, h1, h3, fun k => (S.par n v h2 a k).1⟩
    · exact absurd (nk_inj (a := n) (b := 1) a) h2
  good := by
    intro n w h1 h2 h3
    have c1 : cnt L n ≠ 0 := fun z => h3 (mem_orphans.mpr ⟨0, w, h2, h1, z⟩)
    refine ⟨by omega, fun k => ?_⟩
    rcases P.sub _ _ h2 with a | ⟨a, _⟩
    · obtain ⟨b1, b2, b3⟩ := S.par n w h1 a k
      have b4 := S.cnt n w h1 a
      have b5 := P.cnt_le (n := n)
      refine ⟨b1, by omega, b2, fun a' c u m => ?_⟩
      rcases P.sub _ _ m with q | ⟨q, _⟩
      · exact b3 a' c u q
      · have := (Prod.mk.inj (Prod.mk.inj q).2).1
        omega
    · exact absurd (nk_inj a) h1
  free := by
    intro n hn c v m
    rcases P.sub _ _ m with q | ⟨q, _⟩
    · obtain ⟨c', v', h1, h2, _⟩ := mem_orphans.mp hn
      obtain ⟨rfl, h4⟩ := P.c0 S h1
      obtain ⟨a, b⟩ := N.word c v q
      have nn : NumOk n := by
        rcases P.sub _ _ h1 with z | ⟨z, _⟩
        · exact N.num n v' z
        · exact absurd (nk_inj (a := n) (b := 1) z) h2
      exact ⟨fun z => a _ (by omega), fun z => b _ (by omega) (by unfold NumOk at nn; omega)⟩
    · have := (Prod.mk.inj (Prod.mk.inj q).2).1
      omega

/-! ### the links -/
theorem linkF_key (p : Itm) : (linkF L p).1 = p.1 := by unfold linkF; split <;> rfl
theorem linkF_other {p : Itm} (h : p.1.2.1 ≠ 0) : linkF L p = p := by
  unfold linkF badLinks
  rw [if_neg]
  intro z
  exact h (of_decide_eq_true z).1
theorem srt_linkS (s : Srt L) : Srt (linkS L) := by
  unfold linkS Srt
  rw [List.pairwise_map]
  exact s.imp fun h => by rw [linkF_key, linkF_key]; exact h
theorem mem_linkS {k : K3} {v : Val} : (k, v) ∈ linkS L ↔ ∃ u, (k, u) ∈ L ∧ (linkF L (k, u)).2 = v := by
  unfold linkS
  rw [List.mem_map]
  constructor
  · rintro ⟨⟨k', u⟩, h, e⟩
    have := linkF_key (L := L) (k', u)
    rw [e] at this
    have : k = k' := this
    subst this
    exact ⟨u, h, by rw [e]⟩
  · rintro ⟨u, h, e⟩
    exact ⟨(k, u), h, Prod.ext (linkF_key _) e⟩
theorem cnt_linkS (n : Int) : cnt (linkS L) n = cnt L n := by
  unfold cnt linkS
  rw [List.countP_map]
  refine List.countP_congr fun p _ => ?_
  show isEnt n (linkF L p) = true ↔ _
  by_cases h : p.1.2.1 = 0
  · unfold isEnt
    rw [linkF_key]
    simp
    omega
  · rw [linkF_other h]
/-- what becomes of a node's value -/
theorem linkF_val {n : Int} {w : Val} : (linkF L (nk n, w)).2.2 = w.2 ∧ (linkF L (nk n, w)).2.1 % 2 = w.1 % 2 ∧ ownV (linkF L (nk n, w)).2 = ownV w ∧
    (linkF L (nk n, w)).2.1 / 128000 = (if w.1 % 2 = 0 then (cnt L n : Int) else w.1 / 128000) := by
  unfold linkF badLinks ownV
  have e : (nk n).1 = n := rfl
  split
  · rename_i h
    have h := of_decide_eq_true h
    dsimp only at h ⊢
    rw [e] at h ⊢
    rw [if_pos h.2.1]
    refine ⟨rfl, by omega, by omega, by omega⟩
  · rename_i h
    have h := of_decide_eq_false (Bool.not_eq_true _ ▸ h)
    dsimp only at h ⊢
    rw [e] at h
    refine ⟨rfl, rfl, rfl, ?_⟩
    split
    · have e0 : (nk n).2.1 = 0 := rfl
      rw [e0] at h
      omega
    · rfl
theorem node_linkS {n : Int} {w : Val} : (nk n, w) ∈ linkS L ↔ ∃ u, (nk n, u) ∈ L ∧ (linkF L (nk n, u)).2 = w := mem_linkS
theorem Mov.snd (R : Rk rk) (M : Mov rk L []) : Snd0 rk (linkS L) where
  srt := srt_linkS M.srt
  fit := by
    intro k v m
    obtain ⟨u, hu, e⟩ := mem_linkS.mp m
    have nodeX : ∀ a w, (nk a, w) ∈ L → ∃ w', (nk a, w') ∈ linkS L ∧ w'.2 = w.2 ∧ w'.1 % 2 = w.1 % 2 := fun a w h =>
      ⟨_, node_linkS.mpr ⟨w, h, rfl⟩, linkF_val.1, linkF_val.2.1⟩
    rcases M.fit k u hu with f | ⟨f1, f2, w, f3, f4⟩
    · have : linkF L (k, u) = (k, u) := linkF_other (show k.2.1 ≠ 0 by omega)
      rw [this] at e
      have e : u = v := e
      subst e
      exact .inl f
    · obtain ⟨w', g1, g2, g3⟩ := nodeX _ _ f3
      refine .inr ⟨f1, f2, w', g1, ?_⟩
      rcases f4 with f4 | f4 | f4 | f4
      · have ek : k = nk k.1 := by
          obtain ⟨a, b, c⟩ := k
          dsimp only at f4
          unfold nk
          rw [f4.1, f4.2.1]
        rw [ek] at e hu
        obtain ⟨v1, v2, v3, v4⟩ := linkF_val (L := L) (n := k.1) (w := u)
        rw [e] at v1 v2 v3 v4
        refine .inl ⟨f4.1, f4.2.1, ?_, by omega, by omega⟩
        by_cases n1 : k.1 = 1
        · obtain ⟨w1, r1, r2, r3, r4⟩ := M.root
          rw [n1] at hu v4
          have := mem_one M.srt hu r1
          subst this
          rw [if_neg (by omega)] at v4
          omega
        · have g := (M.good _ _ n1 hu (by simp)).1
          split at v4 <;> omega
      · have : linkF L (k, u) = (k, u) := linkF_other (show k.2.1 ≠ 0 by omega)
        rw [this] at e
        have e : u = v := e
        subst e
        obtain ⟨x, hx⟩ := f4.2.2.2.2
        obtain ⟨x', hx', _⟩ := nodeX _ _ hx
        exact .inr (.inl ⟨f4.1, by omega, f4.2.2.1, f4.2.2.2.1, x', hx'⟩)
      · have : linkF L (k, u) = (k, u) := linkF_other (show k.2.1 ≠ 0 by omega)
        rw [this] at e
        have e : u = v := e
        subst e
        exact .inr (.inr (.inl f4))
      · have : linkF L (k, u) = (k, u) := linkF_other (show k.2.1 ≠ 0 by omega)
        rw [this] at e
        have e : u = v := e
        subst e
        exact .inr (.inr (.inr ⟨f4.1, by omega, by omega⟩))
  root := by
    obtain ⟨w, h, k1, k2, k3⟩ := M.root
    obtain ⟨v1, v2, v3, v4⟩ := linkF_val (L := L) (n := 1) (w := w)
    rw [if_neg (by omega)] at v4
    exact ⟨_, node_linkS.mpr ⟨w, h, rfl⟩, by omega, by omega, by omega⟩
  cnt := by
    intro n w h1 h2
    obtain ⟨u, hu, e⟩ := node_linkS.mp h2
    rw [cnt_linkS]
    obtain ⟨v1, v2, v3, v4⟩ := linkF_val (L := L) (n := n) (w := u)
    rw [e] at v4
    split at v4
    · exact v4.symm
    · obtain ⟨g1, g2⟩ := M.good n u h1 hu (by simp)
      obtain ⟨b1, b2, _⟩ := g2 (by omega)
      omega
  par := by
    intro n w h1 h2 h3
    obtain ⟨u, hu, e⟩ := node_linkS.mp h2
    obtain ⟨v1, v2, v3, v4⟩ := linkF_val (L := L) (n := n) (w := u)
    rw [e] at v1 v2 v4
    obtain ⟨g1, g2⟩ := M.good n u h1 hu (by simp)
    obtain ⟨b1, b2, b3, b4⟩ := g2 (by omega)
    rw [if_neg (by omega)] at v4
    refine ⟨by omega, by rw [v1]; exact b3, fun a c x m => ?_⟩
    obtain ⟨y, hy, e2⟩ := mem_linkS.mp m
    have : linkF L ((a, 1, c), y) = ((a, 1, c), y) := linkF_other (by show (1 : Int) ≠ 0; decide)
    rw [this] at e2
    have e2 : y = (n, x) := e2
    subst e2
    rw [v1]
    exact b4 a c x hy
end

/-! ### the charges -/
section
variable {u : Int → Int} {L : List Itm}
theorem srt_chgS (s : Srt L) (o : Int) : Srt (chgS u L o) := by
  unfold chgS
  split
  · exact s
  · split
    · exact srt_del s _
    · exact srt_put s _ _
theorem oldC_of {o : Int} {v : Val} (s : Srt L) (h : (ck o, v) ∈ L) : oldC L o = v := by
  unfold oldC
  rw [lk_of_mem s h]
  rfl
theorem lk_chgS_ne (s : Srt L) {o : Int} {k : K3} (h : k ≠ ck o) : lk (chgS u L o) k = lk L k := by
  unfold chgS
  split
  · rfl
  · split
    · rw [lk_del s, if_neg h]
    · rw [lk_put s, if_neg h]
theorem lk_chgS_eq (s : Srt L) {o : Int} (h : lk L (ck o) ≠ some (0, 0)) : lk (chgS u L o) (ck o) = if u o = 0 ∧ (oldC L o).2 = 0 then none else some (u o, (oldC L o).2) := by
  unfold chgS
  split
  · rename_i e
    cases q : lk L (ck o) with
    | none =>
      have : oldC L o = (0, 0) := by unfold oldC; rw [q]; rfl
      rw [this] at e ⊢
      rw [if_pos ⟨e.symm, rfl⟩]
    | some v =>
      have : oldC L o = v := by unfold oldC; rw [q]; rfl
      rw [this] at e ⊢
      rw [if_neg, ← e]
      rintro ⟨z1, z2⟩
      rw [q] at h
      exact h (by rw [show v = (0, 0) from Prod.ext (e.trans z1) z2])
  · split
    · rename_i h1 h2
      rw [lk_del s, if_pos rfl]
    · rename_i h1 h2
      rw [lk_put s, if_pos rfl]
theorem oldC_ne (s : Srt L) {o o' : Int} (h : o' ≠ o) : oldC (chgS u L o) o' = oldC L o' := by
  unfold oldC
  rw [lk_chgS_ne s (fun e => h (ck_inj e))]
theorem chg_all : ∀ (os : List Int) (L : List Itm), Srt L → os.Nodup → (∀ o, lk L (ck o) ≠ some (0, 0)) →
    Srt (chg u os L) ∧ (∀ k, (∀ o ∈ os, k ≠ ck o) → lk (chg u os L) k = lk L k) ∧ ∀ o ∈ os, lk (chg u os L) (ck o) = if u o = 0 ∧ (oldC L o).2 = 0 then none else some (u o, (oldC L o).2)
  | [], L, s, _, _ => ⟨s, fun _ _ => rfl, fun o h => absurd h (by simp)⟩
  | o :: r, L, s, nd, hz => by
    obtain ⟨n1, n2⟩ := List.nodup_cons.mp nd
    have hz' : ∀ o', lk (chgS u L o) (ck o') ≠ some (0, 0) := fun o' => by
      by_cases e : o' = o
      · subst e
        rw [lk_chgS_eq s (hz o')]
        split
        · intro q; cases q
        · rename_i h
          intro q
          have q := Option.some.inj q
          exact h ⟨(Prod.mk.inj q).1, (Prod.mk.inj q).2⟩
      · rw [lk_chgS_ne s (fun q => e (ck_inj q))]
        exact hz o'
    obtain ⟨a, b, c⟩ := chg_all r (chgS u L o) (srt_chgS s o) n2 hz'
    refine ⟨a, fun k hk => ?_, fun o' ho' => ?_⟩
    · show lk (chg u r (chgS u L o)) k = _
      rw [b k fun x hx => hk x (List.mem_cons_of_mem _ hx), lk_chgS_ne s (hk o List.mem_cons_self)]
    · show lk (chg u r (chgS u L o)) (ck o') = _
      rcases List.mem_cons.mp ho' with e | ho'
      · subst e
        rw [b _ fun x hx e => n1 (by rw [ck_inj e]; exact hx), lk_chgS_eq s (hz o')]
      · rw [c o' ho', oldC_ne s fun e => n1 (by rw [← e]; exact ho')]
end
theorem srtI_nodup {l : List Int} (s : SrtI l) : l.Nodup := s.imp fun h e => by omega
theorem snd_nz {rk : Int → Nat} {L : List Itm} (S : Snd0 rk L) (o : Int) : lk L (ck o) ≠ some (0, 0) := fun e => by
  rcases S.fit _ _ (lk_some_mem e) with f | ⟨f1, _⟩
  · exact f.2.2.2.2.2.2.2 rfl
  · have : (ck o).1 = 0 := rfl
    omega
/-- the items that are no charges -/
def rest (L : List Itm) : List Itm := L.filter fun p => !decide (p.1.2.1 = 4)
theorem cnt_rest (L : List Itm) (n : Int) : cnt (rest L) n = cnt L n := by
  unfold cnt rest
  rw [List.countP_filter]
  refine List.countP_congr fun p _ => ?_
  unfold isEnt
  simp
  omega
theorem ownerAt_rest {L : List Itm} (s : Srt L) (a : Int) : ownerAt (rest L) a = ownerAt L a := by
  unfold ownerAt
  have : lk (rest L) (nk a) = lk L (nk a) := by
    cases e : lk L (nk a) with
    | none => exact lk_none.mpr fun p hp => lk_none.mp e p (List.mem_filter.mp hp).1
    | some v => exact lk_of_mem (srt_filter s _) (List.mem_filter.mpr ⟨lk_some_mem e, rfl⟩)
  rw [this]
theorem used_rest {L : List Itm} (s : Srt L) (o : Int) : used (rest L) o = used L o := by
  unfold used
  have e : isChg (rest L) o = isChg L o := by
    funext p
    unfold isChg
    rw [ownerAt_rest s]
  rw [e]
  unfold rest
  rw [List.countP_filter]
  refine List.countP_congr fun p _ => ?_
  unfold isChg
  simp
  omega
theorem rest_eq {L M : List Itm} (s : Srt L) (t : Srt M) (h : ∀ k, k.2.1 ≠ 4 → lk M k = lk L k) : rest M = rest L := by
  refine srt_ext (srt_filter t _) (srt_filter s _) fun p => ?_
  unfold rest
  rw [List.mem_filter, List.mem_filter]
  obtain ⟨k, v⟩ := p
  constructor
  · rintro ⟨a, b⟩
    have b' : k.2.1 ≠ 4 := by simpa using b
    exact ⟨lk_some_mem (by rw [← h k b']; exact lk_of_mem t a), b⟩
  · rintro ⟨a, b⟩
    have b' : k.2.1 ≠ 4 := by simpa using b
    exact ⟨lk_some_mem (by rw [h k b']; exact lk_of_mem s a), b⟩
theorem used_pos {L : List Itm} {o : Int} : 0 < used L o ↔ ∃ p ∈ L, (p.1.2.1 = 0 ∨ p.1.2.1 = 3) ∧ ownerAt L p.1.1 = o := by
  unfold used
  rw [List.countP_pos_iff]
  unfold isChg
  simp
theorem ownerAt_range (L : List Itm) (a : Int) : 0 ≤ ownerAt L a ∧ ownerAt L a ≤ 999 := by
  unfold ownerAt
  split
  · unfold ownV; omega
  · omega
section
variable {rk : Int → Nat} {L : List Itm}
theorem m6_lk (S : Snd0 rk L) : Srt (chg (usedI L) (owners L) L) ∧ (∀ k, (∀ o ∈ owners L, k ≠ ck o) → lk (chg (usedI L) (owners L) L) k = lk L k) ∧
    ∀ o ∈ owners L, lk (chg (usedI L) (owners L) L) (ck o) = if usedI L o = 0 ∧ (oldC L o).2 = 0 then none else some (usedI L o, (oldC L o).2) :=
  chg_all _ _ S.srt (srtI_nodup (srt_owners L)) (snd_nz S)
theorem chg_rest (S : Snd0 rk L) : rest (chg (usedI L) (owners L) L) = rest L := by
  obtain ⟨a, b, c⟩ := m6_lk S
  refine rest_eq S.srt a fun k hk => b k fun o _ e => hk (by rw [e]; rfl)
theorem sound_m6 (R : Rk rk) (S : Snd0 rk L) : Snd0 rk (chg (usedI L) (owners L) L) ∧ K41.Chg (chg (usedI L) (owners L) L) := by
  obtain ⟨a, b, c⟩ := m6_lk S
  have hr := chg_rest S
  have lkR : ∀ k, k.2.1 ≠ 4 → lk (chg (usedI L) (owners L) L) k = lk L k := fun k hk => b k fun o _ e => hk (by rw [e]; rfl)
  have hc : ∀ n, cnt (chg (usedI L) (owners L) L) n = cnt L n := fun n => by rw [← cnt_rest, hr, cnt_rest]
  have hu : ∀ o, used (chg (usedI L) (owners L) L) o = used L o := fun o => by rw [← used_rest a, hr, used_rest S.srt]
  have nodeX : ∀ n w, (nk n, w) ∈ L ↔ (nk n, w) ∈ chg (usedI L) (owners L) L := fun n w => by
    rw [← lk_iff S.srt, ← lk_iff a, lkR _ (by show (0 : Int) ≠ 4; decide)]
  have memR : ∀ k v, k.2.1 ≠ 4 → ((k, v) ∈ chg (usedI L) (owners L) L ↔ (k, v) ∈ L) := fun k v hk => by
    rw [← lk_iff S.srt, ← lk_iff a, lkR _ hk]
  have hown : ∀ o, o ∈ owners L → 0 ≤ o ∧ o ≤ 999 := fun o ho => by
    obtain ⟨p, hp, e⟩ := mem_owners.mp ho
    unfold ownOf at e
    split at e
    · have e := Option.some.inj e
      rcases S.fit p.1 p.2 hp with f | ⟨_, _, _, _, f⟩
      · omega
      · omega
    · split at e
      · have e := Option.some.inj e
        have := ownerAt_range L p.1.1
        omega
      · cases e
  refine ⟨⟨a, ?_, ?_, ?_, ?_⟩, ?_, ?_⟩
  · intro k v m
    by_cases h4 : k.2.1 = 4
    · by_cases hk : ∃ o ∈ owners L, k = ck o
      · obtain ⟨o, ho, rfl⟩ := hk
        have := lk_of_mem a m
        rw [c o ho] at this
        split at this
        · cases this
        · rename_i hne
          have this := Option.some.inj this
          subst this
          obtain ⟨o1, o2⟩ := hown o ho
          have ob : 0 ≤ (oldC L o).2 ∧ (oldC L o).2 ≤ 1000001 := by
            unfold oldC
            cases e : lk L (ck o) with
            | none => decide
            | some x =>
              rcases S.fit _ _ (lk_some_mem e) with f | ⟨f1, _⟩
              · exact ⟨f.2.2.2.2.2.1, f.2.2.2.2.2.2.1⟩
              · have : (ck o).1 = 0 := rfl
                omega
          refine .inl ⟨rfl, rfl, o1, o2, Int.natCast_nonneg _, ob.1, ob.2, fun z => hne ⟨(Prod.mk.inj z).1, (Prod.mk.inj z).2⟩⟩
      · have := lk_of_mem a m
        rw [b k fun o ho e => hk ⟨o, ho, e⟩] at this
        rcases S.fit _ _ (lk_some_mem this) with f | ⟨f1, f2, w, f3, f4⟩
        · exact .inl f
        · omega
    · rcases S.fit k v ((memR k v h4).mp m) with f | ⟨f1, f2, w, f3, f4⟩
      · exact .inl f
      · refine .inr ⟨f1, f2, w, (nodeX _ _).mp f3, ?_⟩
        rcases f4 with f4 | f4 | f4 | f4
        · exact .inl f4
        · obtain ⟨x, hx⟩ := f4.2.2.2.2
          exact .inr (.inl ⟨f4.1, f4.2.1, f4.2.2.1, f4.2.2.2.1, x, (nodeX _ _).mp hx⟩)
        · exact .inr (.inr (.inl f4))
        · exact .inr (.inr (.inr f4))
  · obtain ⟨w, h, q⟩ := S.root
    exact ⟨w, (nodeX _ _).mp h, q⟩
  · intro n w h1 h2
    rw [hc]
    exact S.cnt n w h1 ((nodeX _ _).mpr h2)
  · intro n w h1 h2 h3
    obtain ⟨x1, x2, x3⟩ := S.par n w h1 ((nodeX _ _).mpr h2) h3
    exact ⟨x1, x2, fun a' c' u' m => x3 a' c' u' ((memR _ _ (by show (1 : Int) ≠ 4; decide)).mp m)⟩
  · intro o ho
    rw [hu] at ho
    obtain ⟨p, hp, h03, ho'⟩ := used_pos.mp ho
    have ho2 : o ∈ owners L := mem_owners.mpr ⟨p, hp, by
      unfold ownOf
      rw [if_neg (by omega), if_pos h03, ho']⟩
    refine ⟨_, lk_some_mem (v := (usedI L o, (oldC L o).2)) ?_⟩
    rw [c o ho2, if_neg]
    unfold usedI
    omega
  · intro o v m
    rw [hu]
    have e := lk_of_mem a m
    by_cases ho : o ∈ owners L
    · rw [c o ho] at e
      split at e
      · cases e
      · have e := Option.some.inj e
        rw [← e]
        rfl
    · rw [b _ fun o' h' q => ho (by rw [ck_inj q]; exact h')] at e
      exact absurd (mem_owners.mpr ⟨_, lk_some_mem e, (show (if (4 : Int) = 4 then some o else _) = some o from if_pos rfl)⟩) ho
end

/-- mending a part of sound items makes them sound -/
theorem sound_mended {W L : List Itm} (S : Sound W) (N : Names W) (s : Srt L) (h : ∀ p ∈ L, p ∈ W) : Sound (m6 L) := by
  obtain ⟨rk, R, S0, _⟩ := S
  have M := (part_m3 s h).mov S0 N
  have M4 := M.all R
  have S5 := M4.snd R
  obtain ⟨a, b⟩ := sound_m6 R S5
  exact ⟨rk, R, a, b⟩
end K41

/-! Sound items stay as they are; what a loss does not name stays. -/
namespace K41
section
variable {L : List Itm}
theorem same_m1 (S : Sound L) : m1 L = L ∧ rootLs L = [] := by
  obtain ⟨rk, R, S0, _⟩ := S
  obtain ⟨w, h, _⟩ := S0.root
  have e := lk_of_mem S0.srt h
  unfold m1 rootS rootLs
  rw [e]
  exact ⟨rfl, rfl⟩
theorem node_of (S : Sound L) {k : K3} {v : Val} (h : (k, v) ∈ L) : k.2.1 = 4 ∨ ∃ w, (nk k.1, w) ∈ L := by
  obtain ⟨rk, R, S0, _⟩ := S
  rcases S0.fit k v h with f | ⟨f1, f2, w, f3, _⟩
  · exact .inl f.2.1
  · exact .inr ⟨w, f3⟩
theorem same_m2 (S : Sound L) : itemS L = L ∧ itemLs L = [] := by
  have h : ∀ p ∈ L, keepI L p = true := fun p hp => by
    unfold keepI
    rw [Bool.or_eq_true, decide_eq_true_eq, isSome_mem]
    exact node_of S (k := p.1) (v := p.2) hp
  refine ⟨List.filter_eq_self.mpr h, ?_⟩
  unfold itemLs
  rw [List.filter_eq_nil_iff.mpr fun p hp => by rw [h p hp]; simp]
  rfl
theorem same_m3 (S : Sound L) : entS L = L ∧ entLs L = [] := by
  have h : ∀ p ∈ L, keepE L p = true := fun p hp => by
    unfold keepE
    rw [Bool.or_eq_true, isSome_mem]
    by_cases e : p.1.2.1 = 1
    · right
      obtain ⟨rk, R, S0, _⟩ := S
      rcases S0.fit p.1 p.2 hp with f | ⟨f1, f2, w, f3, f4⟩
      · omega
      · rcases f4 with f4 | f4 | f4 | f4
        · omega
        · exact f4.2.2.2.2
        · omega
        · omega
    · left
      simp [e]
  refine ⟨List.filter_eq_self.mpr h, ?_⟩
  unfold entLs
  rw [List.filter_eq_nil_iff.mpr fun p hp => by rw [h p hp]; simp]
  rfl
theorem same_orphans (S : Sound L) : orphans L = [] := by
  obtain ⟨rk, R, S0, _⟩ := S
  unfold orphans
  rw [List.filter_eq_nil_iff.mpr]
  · rfl
  · rintro ⟨⟨a, b, c⟩, v⟩ hp z
    have z := of_decide_eq_true z
    dsimp only at z
    obtain ⟨rfl, z1, z2⟩ := z
    rcases S0.fit _ _ hp with f | ⟨f1, f2, w, f3, f4⟩
    · have := f.2.1; dsimp only at this; omega
    · dsimp only at f4
      have c0 : c = 0 ∧ 128000 ≤ v.1 := by omega
      obtain ⟨rfl, hv⟩ := c0
      have := S0.cnt a v z1 hp
      omega
theorem no_badLinks (S : Sound L) : ∀ p ∈ L, badLinks L p = false := by
  obtain ⟨rk, R, S0, _⟩ := S
  rintro ⟨⟨a, b, c⟩, v⟩ hp
  refine decide_eq_false ?_
  dsimp only
  rintro ⟨rfl, z1, z2⟩
  rcases S0.fit _ _ hp with f | ⟨f1, f2, w, f3, f4⟩
  · have := f.2.1; dsimp only at this; omega
  · dsimp only at f4
    have c0 : c = 0 := by omega
    subst c0
    by_cases n1 : a = 1
    · subst n1
      obtain ⟨w1, h1, r1⟩ := S0.root
      have := mem_one S0.srt (k := nk 1) hp h1
      subst this
      omega
    · exact z2 (S0.cnt a v n1 hp).symm
theorem same_links (S : Sound L) : linkS L = L ∧ linkLs L = [] := by
  have h := no_badLinks S
  constructor
  · unfold linkS
    have : L.map (linkF L) = L.map id := List.map_congr_left fun p hp => by
      unfold linkF
      rw [if_neg (by rw [h p hp]; simp)]
      rfl
    rw [this, List.map_id]
  · unfold linkLs
    rw [List.filter_eq_nil_iff.mpr fun p hp => by rw [h p hp]; simp]
    rfl
theorem right_all (S : Sound L) (o : Int) : (oldC L o).1 = usedI L o := by
  obtain ⟨rk, R, S0, C⟩ := S
  cases e : lk L (ck o) with
  | some v =>
    have m := lk_some_mem e
    rw [oldC_of S0.srt m]
    exact C.right o v m
  | none =>
    have : oldC L o = (0, 0) := by unfold oldC; rw [e]; rfl
    rw [this]
    unfold usedI
    by_cases z : 0 < used L o
    · obtain ⟨v, m⟩ := C.has o z
      exact absurd m (none_mem.mp e v)
    · show (0 : Int) = _
      omega
theorem same_chg {u : Int → Int} : ∀ (os : List Int), (∀ o, (oldC L o).1 = u o) → chg u os L = L ∧ chgLs u os L = []
  | [], _ => ⟨rfl, rfl⟩
  | o :: r, h => by
    have e : chgS u L o = L := by
      unfold chgS
      rw [if_pos (h o)]
    obtain ⟨a, b⟩ := same_chg r h
    constructor
    · show chg u r (chgS u L o) = L
      rw [e]
      exact a
    · show (if (oldC L o).1 = u o then [] else [Loss.charge o (oldC L o).1 (u o)]) ++ chgLs u r (chgS u L o) = []
      rw [e, b, if_pos (h o)]
      rfl
/-- sound items lose nothing -/
theorem same_all (S : Sound L) : m6 L = L ∧ losses L = [] := by
  have e1 := same_m1 S
  have e2 : m2 L = L := by unfold m2; rw [e1.1]; exact (same_m2 S).1
  have e3 : m3 L = L := by unfold m3; rw [e2]; exact (same_m3 S).1
  have e4 : m4 L = L := by unfold m4; rw [e3, same_orphans S]; rfl
  have e5 : m5 L = L := by unfold m5; rw [e4]; exact (same_links S).1
  have e6 := same_chg (L := L) (u := usedI L) (owners L) (right_all S)
  constructor
  · unfold m6
    rw [e5]
    exact e6.1
  · unfold losses
    rw [e1.1, e1.2, e2, e3, e4, e5, (same_m2 S).2, (same_m3 S).2, (same_links S).2, e6.2, same_orphans S]
    rfl
end

def Named : Loss → K3 → Prop
  | .root, k => k = nk 1
  | .item k', k => k = k'
  | .entry k' _, k => k = k'
  | .moved n j, k => k = nk n ∨ k = (1, 1, nw cN n.toNat j)
  | .links n _ _, k => k = nk n
  | .charge o _ _, k => k = ck o
def NamedIn (ls : List Loss) (k : K3) : Prop := ∃ l ∈ ls, Named l k
def Kept (L M : List Itm) (ls : List Loss) : Prop := (∀ k v, (k, v) ∈ L → NamedIn ls k ∨ (k, v) ∈ M) ∧ ∀ k v, (k, v) ∈ M → NamedIn ls k ∨ ∃ u, (k, u) ∈ L
theorem NamedIn.left {ls ms : List Loss} {k : K3} (h : NamedIn ls k) : NamedIn (ls ++ ms) k := let ⟨l, m, n⟩ := h; ⟨l, List.mem_append_left _ m, n⟩
theorem NamedIn.right {ls ms : List Loss} {k : K3} (h : NamedIn ms k) : NamedIn (ls ++ ms) k := let ⟨l, m, n⟩ := h; ⟨l, List.mem_append_right _ m, n⟩
theorem Kept.trans {L M N : List Itm} {ls ms : List Loss} (a : Kept L M ls) (b : Kept M N ms) : Kept L N (ls ++ ms) := by
  refine ⟨fun k v m => ?_, fun k v m => ?_⟩
  · rcases a.1 k v m with h | h
    · exact .inl h.left
    · rcases b.1 k v h with h | h
      · exact .inl h.right
      · exact .inr h
  · rcases b.2 k v m with h | ⟨u, h⟩
    · exact .inl h.right
    · rcases a.2 k u h with h | h
      · exact .inl h.left
      · exact .inr h
theorem Kept.refl (L : List Itm) : Kept L L [] := ⟨fun _ _ h => .inr h, fun _ v h => .inr ⟨v, h⟩⟩
section
variable {L : List Itm}
theorem kept_m1 (s : Srt L) : Kept L (m1 L) (rootLs L) := by
  refine ⟨fun k v m => .inr ((mem_m1 s).mpr (.inl m)), fun k v m => ?_⟩
  rcases (mem_m1 s).mp m with h | ⟨h1, h2, _⟩
  · exact .inr ⟨v, h⟩
  · left
    refine ⟨.root, ?_, h2⟩
    unfold rootLs
    rw [h1]
    exact List.mem_cons_self
theorem kept_m2 : Kept L (itemS L) (itemLs L) := by
  refine ⟨fun k v m => ?_, fun k v m => .inr ⟨v, (List.mem_filter.mp m).1⟩⟩
  by_cases h : keepI L (k, v) = true
  · exact .inr (List.mem_filter.mpr ⟨m, h⟩)
  · exact .inl ⟨.item k, List.mem_map.mpr ⟨(k, v), List.mem_filter.mpr ⟨m, by simpa using h⟩, rfl⟩, rfl⟩
theorem kept_m3 : Kept L (entS L) (entLs L) := by
  refine ⟨fun k v m => ?_, fun k v m => .inr ⟨v, (List.mem_filter.mp m).1⟩⟩
  by_cases h : keepE L (k, v) = true
  · exact .inr (List.mem_filter.mpr ⟨m, h⟩)
  · exact .inl ⟨.entry k v.1, List.mem_map.mpr ⟨(k, v), List.mem_filter.mpr ⟨m, by simpa using h⟩, rfl⟩, rfl⟩
theorem kept_move {n : Int} {w : Val} (s : Srt L) (hw : (nk n, w) ∈ L) : Kept L (moveS L n) [.moved n (freeJ L n.toNat)] := by
  refine ⟨fun k v m => ?_, fun k v m => ?_⟩
  · by_cases h : Named (.moved n (freeJ L n.toNat)) k
    · exact .inl ⟨_, List.mem_cons_self, h⟩
    · exact .inr ((mem_moveS s hw).mpr (.inr (.inr ⟨m, fun e => h (.inl e), fun e => h (.inr e)⟩)))
  · rcases (mem_moveS s hw).mp m with e | e | ⟨e, _⟩
    · exact .inl ⟨_, List.mem_cons_self, .inr (Prod.mk.inj e).1⟩
    · exact .inl ⟨_, List.mem_cons_self, .inl (Prod.mk.inj e).1⟩
    · exact .inr ⟨v, e⟩
theorem kept_mv {rk : Int → Nat} (R : Rk rk) : ∀ (r : List Int) (L : List Itm), Mov rk L r → Kept L (mv r L) (mvLs r L)
  | [], L, _ => Kept.refl L
  | n :: r, L, M => by
    obtain ⟨_, _, w, hw, _⟩ := M.rem n List.mem_cons_self
    exact (kept_move M.srt hw).trans (kept_mv R r _ (M.step R))
theorem kept_links : (∀ k v, (k, v) ∈ L → k.2.1 = 0 → k = nk k.1) → Kept L (linkS L) (linkLs L) := by
  intro hk
  refine ⟨fun k v m => ?_, fun k v m => ?_⟩
  · by_cases h : badLinks L (k, v) = true
    · left
      refine ⟨_, List.mem_map.mpr ⟨(k, v), List.mem_filter.mpr ⟨m, h⟩, rfl⟩, ?_⟩
      exact hk k v m (of_decide_eq_true h).1
    · right
      refine mem_linkS.mpr ⟨v, m, ?_⟩
      unfold linkF
      rw [if_neg h]
  · obtain ⟨u, hu, _⟩ := mem_linkS.mp m
    exact .inr ⟨u, hu⟩
theorem kept_chgS {u : Int → Int} {o : Int} (s : Srt L) : Kept L (chgS u L o) (if (oldC L o).1 = u o then [] else [.charge o (oldC L o).1 (u o)]) := by
  unfold chgS
  split
  · exact Kept.refl L
  · split
    · refine ⟨fun k v m => ?_, fun k v m => .inr ⟨v, (mem_del.mp m).1⟩⟩
      by_cases h : k = ck o
      · exact .inl ⟨_, List.mem_cons_self, h⟩
      · exact .inr (mem_del.mpr ⟨m, h⟩)
    · refine ⟨fun k v m => ?_, fun k v m => ?_⟩
      · by_cases h : k = ck o
        · exact .inl ⟨_, List.mem_cons_self, h⟩
        · exact .inr ((mem_put s).mpr (.inr ⟨m, h⟩))
      · rcases (mem_put s).mp m with e | ⟨e, _⟩
        · exact .inl ⟨_, List.mem_cons_self, (Prod.mk.inj e).1⟩
        · exact .inr ⟨v, e⟩
theorem kept_chg {u : Int → Int} : ∀ (os : List Int) (L : List Itm), Srt L → Kept L (chg u os L) (chgLs u os L)
  | [], L, _ => Kept.refl L
  | o :: r, L, s => (kept_chgS s).trans (kept_chg r _ (srt_chgS s o))
end
theorem nk_of {L : List Itm} {k : K3} {v : Val} (f : Fit L k v) (h : k.2.1 = 0) : k = nk k.1 := by
  obtain ⟨a, b, c⟩ := k
  dsimp only at h
  subst h
  rcases f with f | ⟨_, _, _, _, f⟩
  · have := f.2.1; dsimp only at this; omega
  · dsimp only at f
    have : c = 0 := by omega
    subst this
    rfl
/-- what no loss names stays, and nothing else is new -/
theorem kept_mended {W L : List Itm} (S : Sound W) (N : Names W) (s : Srt L) (h : ∀ p ∈ L, p ∈ W) : Kept L (m6 L) (losses L) := by
  obtain ⟨rk, R, S0, _⟩ := S
  have M := (part_m3 s h).mov S0 N
  have M4 := M.all R
  have S5 := M4.snd R
  have a1 := kept_m1 s
  have a2 := kept_m2 (L := m1 L)
  have a3 := kept_m3 (L := m2 L)
  have a4 := kept_mv R _ _ M
  have a5 := kept_links (L := m4 L) fun k v m => nk_of (M4.fit k v m)
  have a6 := kept_chg (u := usedI (m5 L)) (owners (m5 L)) (m5 L) S5.srt
  exact ((((a1.trans a2).trans a3).trans a4).trans a5).trans a6
end K41

/-! Rules for dicts whose keys are triples of ints: sorted(d), d.pop(k), del d[k]. -/
namespace K41
open PySem PySem.Spec PyProof.Rows L2

def tk (k : K3) : List L2.Key := [Sum.inl k.1, Sum.inl k.2.1, Sum.inl k.2.2]
def tv (k : K3) : List V := [V.int k.1, V.int k.2.1, V.int k.2.2]
theorem tk_kV (k : K3) : (tk k).map kV = tv k := rfl
theorem tk_inj {a b : K3} (h : tk a = tk b) : a = b := by
  unfold tk at h
  injection h with h1 h2
  injection h2 with h2 h3
  injection h3 with h3 _
  injection h1 with h1
  injection h2 with h2
  injection h3 with h3
  exact Prod.ext h1 (Prod.ext h2 h3)
theorem tv_inj {a b : K3} (h : tv a = tv b) : a = b := by
  unfold tv at h
  injection h with h1 h2
  injection h2 with h2 h3
  injection h3 with h3 _
  injection h1 with h1
  injection h2 with h2
  injection h3 with h3
  exact Prod.ext h1 (Prod.ext h2 h3)
def sh0 : Nat → Bool := fun _ => false
def lkey (k : K3) : List (Int ⊕ List Nat) := [Sum.inl k.1, Sum.inl k.2.1, Sum.inl k.2.2]
theorem kle_lkey {a b : K3} (h : (listOrd itemOrd).kle (lkey a) (lkey b)) : ¬ ltK b a := by
  have h : lexLt itemOrd (lkey b) (lkey a) = false := h
  unfold lkey at h
  rw [lex_false] at h
  obtain ⟨h1, h2⟩ := h
  have h1 : decide (b.1 < a.1) = false := h1
  have h1 := of_decide_eq_false h1
  rintro (l | ⟨e, l⟩)
  · exact h1 l
  · rcases h2 with h2 | h2
    · have h2 : decide (a.1 < b.1) = true := h2
      have h2 := of_decide_eq_true h2
      omega
    · rw [lex_false] at h2
      obtain ⟨h3, h4⟩ := h2
      have h3 : decide (b.2.1 < a.2.1) = false := h3
      have h3 := of_decide_eq_false h3
      rcases l with l | ⟨e2, l⟩
      · exact h3 l
      · rcases h4 with h4 | h4
        · have h4 : decide (a.2.1 < b.2.1) = true := h4
          have h4 := of_decide_eq_true h4
          omega
        · rw [lex_false] at h4
          have h5 : decide (b.2.2 < a.2.2) = false := h4.1
          have h5 := of_decide_eq_false h5
          exact h5 l

/-- the triple that stands at a reference -/
def keyAt (H : Hp) : Value → K3
  | .ref b => match H b with
    | some (.tup [.int x, .int y, .int z]) => (x, y, z)
    | _ => (0, 0, 0)
  | _ => (0, 0, 0)
theorem keyAt_of {H : Hp} {b : Addr} {k : K3} (h : H b = some (.tup (tv k))) : keyAt H (.ref b) = k := by
  show (match H b with
    | some (.tup [.int x, .int y, .int z]) => (x, y, z)
    | _ => ((0 : Int), (0 : Int), (0 : Int))) = k
  rw [h]
  rfl
section
variable {P : Program} {w : World} {H : Hp} {h : Heap}
/-- a tracked triple in the heap -/
theorem trip_of (ok : HOk P w H h) {b : Addr} {k : K3} (hb : H b = some (.tup (tv k))) : ∃ (o : Obj) (t1 t2 t3 : Tok) (n : Nat), h.get? b = some o ∧ o.cls = .type "tuple" ∧ o.data = .seq #[.int k.1 t1, .int k.2.1 t2, .int k.2.2 t3] n := by
  obtain ⟨_, its, r, o, ho, hc, n, hd⟩ := ok _ _ hb
  unfold tv at r
  cases r with
  | cons r1 r =>
    cases r with
    | cons r2 r =>
      cases r with
      | cons r3 r =>
        cases r
        obtain ⟨t1, rfl⟩ := r1
        obtain ⟨t2, rfl⟩ := r2
        obtain ⟨t3, rfl⟩ := r3
        exact ⟨o, t1, t2, t3, n, ho, hc, hd⟩
theorem trip_key (ok : HOk P w H h) {b : Addr} {k : K3} (hb : H b = some (.tup (tv k))) : PyProof.Rows.G.tupKeyC h sh0 (.ref b) = some (lkey k) := by
  obtain ⟨o, t1, t2, t3, n, ho, hc, hd⟩ := trip_of ok hb
  unfold PyProof.Rows.G.tupKeyC
  have h1 : PyProof.Rows.G.isTupObj h (.ref b) = true := by
    simp only [PyProof.Rows.G.isTupObj, ho, hc]
    rfl
  rw [if_pos h1]
  simp only [tupKey, ho, hd]
  rfl
theorem trips_of (ok : HOk P w H h) : ∀ {bs : List Addr}, (∀ b ∈ bs, ∃ k, H b = some (.tup (tv k))) → ∃ fs, TupsOf h sh0 (bs.map Value.ref) fs
  | [], _ => ⟨[], .nil⟩
  | b :: bs, hb => by
    obtain ⟨k, hk⟩ := hb b List.mem_cons_self
    obtain ⟨o, t1, t2, t3, n, ho, hc, hd⟩ := trip_of ok hk
    obtain ⟨fs, hf⟩ := trips_of ok (bs := bs) fun c hc => hb c (List.mem_cons_of_mem _ hc)
    exact ⟨.int k.1 t1 :: fs, .cons ⟨b, o, _, n, rfl, ho, hc, hd, rfl, fun _ => ⟨_, _, rfl⟩, fun q => absurd q (by unfold sh0; decide)⟩ hf⟩
end
theorem mem_zip_same {α : Type} : ∀ {l : List α} {p : α × α}, p ∈ l.zip l → p.1 = p.2 ∧ p.1 ∈ l
  | [], p, h => by simp at h
  | x :: l, p, h => by
    rw [List.zip_cons_cons] at h
    rcases List.mem_cons.mp h with e | h
    · rw [e]
      exact ⟨rfl, List.mem_cons_self⟩
    · obtain ⟨a, b⟩ := mem_zip_same h
      exact ⟨a, List.mem_cons_of_mem _ b⟩
theorem perm_snd {vs : List Value} {arr : Array Keyed} (h : arr.Perm (pairsOf vs)) : (arr.map (·.2)).toList.Perm vs ∧ ∀ p ∈ arr.toList, p.1 = p.2 ∧ p.1 ∈ vs := by
  have h' : arr.toList.Perm (vs.zip vs) := by
    have := h.toList
    unfold pairsOf at this
    rw [Array.toList_zip] at this
    exact this
  refine ⟨?_, fun p hp => mem_zip_same (h'.mem_iff.mp hp)⟩
  rw [Array.toList_map]
  have e : (vs.zip vs).map (·.2) = vs := List.map_snd_zip (Nat.le_refl _)
  have q := h'.map (·.2)
  rw [e] at q
  exact q

section
variable {X : Cx}
/-- sorted(d), d a dict whose keys are triples of ints -/
def rSortD : List V → Hp → VK → Prop := fun xs H Q => ∃ (d : Addr) (kvs : List (List L2.Key × V)) (ks : List K3), xs = [.ref d] ∧ Rd H d (.dT kvs) ∧ kvs.map (·.1) = ks.map tk ∧
  ∀ (p : Addr) (bs : List (Addr × K3)), H p = none → (bs.map (·.2)).Perm ks → (bs.map (·.2)).Pairwise (fun a b => ¬ ltK b a) → (∀ x ∈ bs, H x.1 = some (.tup (tv x.2))) → Q (.ref p) (upd H p (.lst (bs.map fun x => V.ref x.1)))
theorem cr_sortD (hc : X.calm = true) : CallR X (.builtin "sorted") rSortD := by
  intro pins s σ H xs us Q I r h
  obtain ⟨d, kvs, ks0, rfl, hd, hks, q⟩ := h
  obtain ⟨u, rfl, rx⟩ := vals1 r
  cases rx
  obtain ⟨z, hs, ks, pr, o, es, ep, ho, hx, hdt, he, hn⟩ := (show ObjOk X.prog X.w H s.heap d (.dT kvs) from hd.ok I.hok)
  have l1 : es.size = ks.length := size_of_entries he
  have l2 : kvs.length = ks.length := Paired.length pr
  refine Calls.call_function_entry PyProof.Rows.kind_sorted PyProof.Rows.plain_sorted PyProof.Rows.entry_sorted (PyProof.Rows.args_sorted1 _) ?_
  unfold Builtin.«sorted»
  refine wpAny_bind (m := checkCount "sorted" 1 1 _) (wpAny_pure ?_)
  refine wpAny_bind (PySem.W.kdu_collect (A := X.A.in1) (kdl_raw hs hx hdt) (I.ok.hd hc) ho (by omega) fun h' tok acc hk hacc => ?_)
  have ea : acc.toList = (ks.map fun x => x.2.1).map Value.ref := by
    rw [List.map_map]
    have hl : acc.toList.length = ks.length := by rw [Array.length_toList, hacc.1]; exact l1
    apply List.ext_getElem?
    intro j
    rw [List.getElem?_map]
    cases hj : acc.toList[j]? with
    | none =>
      have h1 := List.getElem?_eq_none_iff.mp hj
      rw [List.getElem?_eq_none (by omega)]
      all_goals rfl
    | some v =>
      obtain ⟨en, hen, hv⟩ := hacc.2 j v (by rw [← Array.getElem?_toList]; exact hj)
      have qe := entry_at he j
      rw [hen] at qe
      cases hb : ks[j]? with
      | none =>
        rw [hb] at qe
        exact nomatch (show some en = none from qe)
      | some b =>
        rw [hb] at qe
        have e2 : en = entryOfKey (tupleKind (mixKind X.prog X.w)) b := Option.some.inj qe
        rw [hv, e2]
        all_goals rfl
  -- the addresses of the keys, and their triples
  have hT : ∀ {l1 : List (List L2.Key × V)} {l2 : List (List L2.Key × Addr × Value)} {l3 : List K3}, KT H l1 l2 → l1.map (·.1) = l3.map tk →
      (∀ b ∈ l2.map (fun x => x.2.1), ∃ k, H b = some (.tup (tv k))) ∧ ((l2.map fun x => x.2.1).map Value.ref).map (keyAt H) = l3 := by
    intro l1 l2 l3 pr
    induction pr generalizing l3 with
    | nil =>
      intro e
      cases l3 with
      | nil => exact ⟨fun b hb => absurd hb (by simp), rfl⟩
      | cons _ _ => cases e
    | cons h t ih =>
      intro e
      cases l3 with
      | nil => cases e
      | cons k l3 =>
        have e2 := (List.cons.inj e).2
        obtain ⟨i1, i2⟩ := ih e2
        have hb := h.2.1
        rename_i p0 q0 _ _
        have e1 : p0.1 = tk k := (List.cons.inj e).1
        rw [e1, tk_kV] at hb
        refine ⟨fun b m => ?_, ?_⟩
        · rcases List.mem_cons.mp m with rfl | m
          · exact ⟨k, hb⟩
          · exact i1 b m
        · rw [List.map_cons, List.map_cons, List.map_cons, i2, keyAt_of hb]
  obtain ⟨hB, hkey⟩ := hT pr hks
  have I1 : Inv X pins σ H { s with heap := h', toks := tok } := I.kept hk
  have hal : acc.toList.length = ks.length := by rw [ea, List.length_map, List.length_map]
  refine wpAny_bind (wpAny_newList ?_ (by rw [hal]; omega))
  have hoL : (h'.push (seqObj "list" acc.toList.toArray 0)).get? h'.objs.size = some (seqObj "list" acc.toList.toArray 0) := Heap.get?_push_size _ rfl
  show wpAny _ _ _ _ _ { s with heap := h'.push (seqObj "list" acc.toList.toArray 0), toks := tok }
  have kp1 : ∀ b u, h'.get? b = some u → (h'.push (seqObj "list" acc.toList.toArray 0)).get? b = some u := fun b u e => Heap.get?_push_of_some _ e
  have hok2 : HOk X.prog X.w H (h'.push (seqObj "list" acc.toList.toArray 0)) := I1.hok.kept kp1
  obtain ⟨fs, hfs⟩ := trips_of hok2 (bs := ks.map fun x => x.2.1) hB
  rw [← ea] at hfs
  have hkk : ∀ v, v ∈ acc.toList → PyProof.Rows.G.tupKeyC (h'.push (seqObj "list" acc.toList.toArray 0)) sh0 v = some (lkey (keyAt H v)) ∧ ∃ b, v = Value.ref b ∧ H b = some (.tup (tv (keyAt H v))) := by
    intro v hv
    rw [ea] at hv
    obtain ⟨b, hb, rfl⟩ := List.mem_map.mp hv
    obtain ⟨k, hk⟩ := hB b hb
    rw [keyAt_of hk]
    exact ⟨trip_key hok2 hk, b, rfl, hk⟩
  refine wpAny_bind (wpAny_holding (wpAny_call_entry PyProof.Rows.slot_list_sort ⟨_, hoL, rfl⟩ PyProof.Rows.entry_list_sort
    (PyProof.Rows.G.list_sort_tups (s := { s with heap := h'.push (seqObj "list" acc.toList.toArray 0), toks := tok }) hoL hfs (fun v hv => ⟨_, (hkk v hv).1⟩) (by rw [hal]; omega) fun st' g1 g2 g3 => ⟨_, rfl, ?_⟩) (PyProof.Rows.args_list_sort _)))
  obtain ⟨e', he'⟩ := PyProof.Rows.sortedHeap_at (vs := acc.toList) (out := (arrOf st').map (·.2)) hoL
  obtain ⟨pm, pe⟩ := perm_snd g1
  have hlen : ((arrOf st').map (·.2)).toList.length = ks.length := by rw [pm.length_eq, hal]
  let bs : List (Addr × K3) := ((arrOf st').map (·.2)).toList.map fun v => ((match v with | .ref b => b | _ => 0), keyAt H v)
  have hrefs : ∀ v ∈ ((arrOf st').map (·.2)).toList, ∃ b, v = Value.ref b ∧ H b = some (.tup (tv (keyAt H v))) := fun v hv => (hkk v (pm.mem_iff.mp hv)).2
  have hbsV : bs.map (fun x => V.ref x.1) = ((arrOf st').map (·.2)).toList.map backV := by
    show (((arrOf st').map (·.2)).toList.map fun v => ((match v with | .ref b => b | _ => 0), keyAt H v)).map (fun x => V.ref x.1) = _
    rw [List.map_map]
    refine List.map_congr_left fun v hv => ?_
    obtain ⟨b, rfl, _⟩ := hrefs v hv
    rfl
  have hbs2 : bs.map (·.2) = ((arrOf st').map (·.2)).toList.map (keyAt H) := by
    show (((arrOf st').map (·.2)).toList.map fun v => ((match v with | .ref b => b | _ => 0), keyAt H v)).map (·.2) = _
    rw [List.map_map]
    rfl
  have hq := q h'.objs.size bs (I1.hok.fresh (Nat.le_refl _)) ?_ ?_ ?_
  · refine wpAny_pure ⟨_, rfl, .ref h'.objs.size, upd H h'.objs.size (.lst (bs.map fun x => V.ref x.1)), I1.laid (t' := tok) (fun b u e => ?_) (Nat.le_refl _)
      (show ObjOk X.prog X.w _ _ _ (.lst (bs.map fun x => V.ref x.1)) from ⟨?_, ((arrOf st').map (·.2)).toList, e', ?_, by rw [Array.toArray_toList]; exact he'⟩), rfl, hq⟩
    · have hb : b < h'.objs.size := Heap.lt_size e
      rw [PyProof.Rows.sortedHeap_old (Nat.ne_of_lt hb) (by rw [size_push']; exact Nat.lt_succ_of_lt hb)]
      exact Heap.get?_push_of_some _ e
    · rw [List.length_map]
      show (((arrOf st').map (·.2)).toList.map _).length ≤ _
      rw [List.length_map, hlen]
      omega
    · rw [hbsV]
      exact vals_back fun u hu => let ⟨b, e, _⟩ := hrefs u hu; ⟨b, e⟩
  · rw [hbs2, ← hkey, ← ea]
    exact pm.map _
  · rw [hbs2]
    rw [List.pairwise_map]
    rw [List.pairwise_iff_getElem]
    intro i j hi hj hij
    have hsz : (pairsOf acc.toList).size = acc.toList.length := pairsOf_size _
    have hjj : j < (arrOf st').size := by
      have := hj
      rw [Array.length_toList, Array.size_map] at this
      exact this
    have hii : i < (arrOf st').size := Nat.lt_trans hij hjj
    have hs2 := g2 i j (Nat.le_of_lt hij) (by rw [← g1.size_eq]; exact hjj)
    have kk : ∀ (n : Nat) (hn : n < (arrOf st').size), KK (PyProof.Rows.G.tupKindC (h'.push (seqObj "list" acc.toList.toArray 0)) sh0) (arrOf st') n = lkey (keyAt H ((arrOf st')[n].2)) := by
      intro n hn
      unfold KK
      rw [Array.getElem?_eq_getElem hn]
      obtain ⟨e1, e2⟩ := pe (arrOf st')[n] (Array.getElem_mem_toList hn)
      show (PyProof.Rows.G.tupKeyC _ sh0 (arrOf st')[n].1).getD [] = _
      rw [(hkk _ e2).1, e1]
      rfl
    rw [kk i hii, kk j hjj] at hs2
    have hs3 := kle_lkey hs2
    have gi : ((arrOf st').map (·.2)).toList[i] = (arrOf st')[i].2 := by rw [Array.getElem_toList, Array.getElem_map]
    have gj : ((arrOf st').map (·.2)).toList[j] = (arrOf st')[j].2 := by rw [Array.getElem_toList, Array.getElem_map]
    rw [gi, gj]
    exact hs3
  · intro x hx
    obtain ⟨v, hv, rfl⟩ := List.mem_map.mp hx
    obtain ⟨b, rfl, hb⟩ := hrefs v hv
    exact hb

/-- d.pop(k), d a dict with tuple keys, k there -/
def rPopT1 : V → List V → Hp → VK → Prop := fun x xs H Q => ∃ (a : Addr) (kvs : List (List L2.Key × V)) (k : List L2.Key) (b : Addr) (v : V), x = .ref a ∧ xs = [.ref b] ∧ H a = some (.dT kvs) ∧ H b = some (.tup (k.map kV)) ∧
  valV kvs k = some v ∧ Q v (upd H a (.dT (dropK kvs k)))
theorem val_there {H : Hp} {kvs : List (List L2.Key × V)} {xs : List (List L2.Key × Addr × Value)} {k : List L2.Key} {v : V} (rel : KT H kvs xs) (h : valV kvs k = some v) : ∃ p, atKey xs k = some p ∧ RelV v p.2 := by
  have r := rel.val k
  rw [h] at r
  cases e : atKey xs k with
  | none =>
    rw [e] at r
    exact (show False from r).elim
  | some p =>
    rw [e] at r
    exact ⟨p, rfl, r⟩
theorem dropH_eq {xs : List (List L2.Key × Addr × Value)} (k : List L2.Key) : withoutH xs k = DT.dropH xs k := rfl
theorem inv_dropT {pins : List (Addr × Obj)} {σ : L2.St} {H : Hp} {s : Shared} {a : Addr} {kvs : List (List L2.Key × V)} {xs : List (List L2.Key × Addr × Value)} {k : List L2.Key} {h' : Heap} {tok : Nat} (I : L2.Inv X pins σ H s) (ha : H a = some (.dT kvs))
    (z : kvs.length ≤ sizeLine) (hd : (a == sysModules) = false) (rel : KT H kvs xs) (dd : h'.DictOfH (tupleKind (mixKind X.prog X.w)) a (withoutH xs k)) (hs : Heap.SameBut a s.heap h') :
    L2.Inv X pins σ (upd H a (.dT (dropK kvs k))) { s with heap := h', toks := tok } := by
  rw [dropH_eq] at dd
  obtain ⟨o, es, ep, hq, h2, h3, h4, _, h5⟩ := dd
  exact d_write I (by rw [ha]; exact True.intro) hs ⟨o, hq⟩ ⟨Nat.le_trans (dropK_le kvs k) z, hd, _, (L2.DX.KT_drop k rel).keeps (fun c ys ec => (by rw [upd_ne (ne_of ec ha (fun z => nomatch z))]; exact ec)), o, es, ep, hq, h2, h3, h4, h5⟩
theorem mt_popT1 (hu : X.A.units + 1 < cLine) : MtR X "dict.pop" rPopT1 := by
  intro pins s σ H x xs v us Q I rx rxs h
  obtain ⟨a, kvs, k, b, v0, rfl, rfl, ha, hb, hv, q⟩ := h
  cases rx
  obtain ⟨u1, rfl, r1⟩ := vals1 rxs
  cases r1
  obtain ⟨z, hd, xs', rel, dd⟩ := dt_of I.hok ha
  have hz : xs'.length ≤ sizeLine := by rw [← Paired.length rel]; exact z
  obtain ⟨p, hp, rv⟩ := val_there rel hv
  refine call_pop_heap (knd := tupleKind (mixKind X.prog X.w)) (k := k) (more := []) (.inl rfl) (PySem.F.args_dict_pop_2 _ _) (tupleKind_room_in1 hu) (key_of I.hok hb) hd dd hp (fun h' dd' hs => ?_) hz
  exact ⟨v0, _, inv_dropT I ha z hd rel dd' hs, rv, q⟩

/-- del d[k], d a dict with tuple keys -/
def sDDelT (td ty : TE) : TS := fun D σ H => td σ H fun x H1 => ty σ H1 fun y H2 => ∃ a kvs k b v, x = .ref a ∧ H2 a = some (.dT kvs) ∧ y = .ref b ∧ H2 b = some (.tup (k.map kV)) ∧ valV kvs k = some v ∧ D.nx σ (upd H2 a (.dT (dropK kvs k)))
theorem ps_ddelT {o i : Expr} {td ty : TE} {tpos pos : Pos} (hu : X.A.units + 1 < cLine) (ho : PE X o td) (hi : PE X i ty) : PS X (.Delete [.Subscript o i tpos] pos) (sDDelT td ty) := by
  refine ⟨fun pins s σ H D I h => ?_⟩
  refine wpAny_Delete (wpAny_deleteEach_cons (wpAny_delete_Subscript (thn (ho.run pins s σ H _ I h) fun u s1 ⟨x, H1, I1, rx, q1⟩ => thn (hi.run pins s1 σ H1 _ I1 q1) fun iv s2 ⟨y, H2, I2, ry, a, kvs, k, b, v, ex, e, ey, hb, hv, q2⟩ => ?_)))
  subst ex ey
  obtain rfl : u = Value.ref a := rx
  obtain rfl : iv = Value.ref b := ry
  obtain ⟨z, hd, xs', rel, dd⟩ := dt_of I2.hok e
  have hz : xs'.length ≤ sizeLine := by rw [← Paired.length rel]; exact z
  obtain ⟨p, hp, rv⟩ := val_there rel hv
  refine wpAny_delItem_heap (knd := tupleKind (mixKind X.prog X.w)) (k := k) (tupleKind_room_in1 hu) (key_of I2.hok hb) hd dd hp (fun h' dd' hs => ?_) hz
  exact wpAny_deleteEach_nil ⟨σ, _, inv_dropT I2 e z hd rel dd' hs, q2⟩
end
end K41

/-! More rules; dicts and lists of the heap as plain lists; a def as its callers see it. -/
namespace K41
open PySem PySem.Spec PyProof.Rows L2

section
variable {X : Cx}
/-- sorted(d), d a dict whose keys are ints -/
def rSortI : List V → Hp → VK → Prop := fun xs H Q => ∃ (a : Addr) (kvs : List (L2.Key × V)) (ks : List Int), xs = [.ref a] ∧ Rd H a (.dK kvs) ∧ kvs.map (·.1) = ks.map Sum.inl ∧
  ∀ (ys : List Int) (p : Addr), ys.Perm ks → ys.Pairwise (· ≤ ·) → H p = none → Q (.ref p) (upd H p (.lst (ys.map V.int)))
theorem cr_sortI (hcalm : X.calm = true) : CallR X (.builtin "sorted") rSortI := by
  intro pins s σ H xs us Q I r q
  obtain ⟨a, kvs, ks, ex, hd, hks, q⟩ := q
  subst ex
  obtain ⟨u, eu, rx⟩ := vals1 r
  subst eu
  cases rx
  obtain ⟨z, lo, vs, rel, dd⟩ := dk_rd I.hok hd
  obtain ⟨ep, hat⟩ := dd.dictAt
  have hkeys : vs.map (·.1) = ks.map Sum.inl := rel.keys.symm.trans hks
  have hl : vs.length = ks.length := by
    have e := congrArg List.length hkeys
    rw [List.length_map, List.length_map] at e
    exact e
  have h16 : vs.length ≤ sizeLine := by rw [← rel.length]; exact z
  refine Calls.call_function_entry PyProof.Rows.kind_sorted PyProof.Rows.plain_sorted PyProof.Rows.entry_sorted (PyProof.Rows.args_sorted1 _) ?_
  unfold Builtin.«sorted»
  refine wpAny_bind (m := checkCount "sorted" 1 1 _) (wpAny_pure ?_)
  refine wpAny_bind (PySem.W.kdu_collect (A := X.A.in1) (PySem.W.kdl_dict (knd := mixKind X.prog X.w) (kvs := vs) (ep := ep) lo) (I.ok.hd hcalm) hat h16 fun h' tk acc hk hacc => ?_)
  have hal : acc.toList.length = ks.length := by rw [Array.length_toList, hacc.1, hl]
  have hS : IntsAre acc.toList ks := ints_each hal fun j v e => by
    obtain ⟨k, x, e1, e2⟩ := hacc.2 j v (by rw [← Array.getElem?_toList]; exact e)
    have e3 : (vs.map (·.1))[j]? = some k := by rw [List.getElem?_map, e1]; rfl
    rw [hkeys, List.getElem?_map] at e3
    cases e4 : ks[j]? with
    | none => rw [e4] at e3; cases e3
    | some y =>
      rw [e4] at e3
      have e5 : Sum.inl y = k := Option.some.inj e3
      subst e5
      rcases keyIs_shape (show keyIs (Sum.inl y) v = true from e2) with ⟨i, t, ek, ev⟩ | ⟨z, t, ek, ev⟩
      · cases ek
        exact ⟨y, t, rfl, ev⟩
      · cases ek
  have I1 : Inv X pins σ H { s with heap := h', toks := tk } := I.kept hk
  refine wpAny_bind (wpAny_newList ?_ (by rw [hal, ← hl]; exact h16))
  have hoL : (h'.push (seqObj "list" acc.toList.toArray 0)).get? h'.objs.size = some (seqObj "list" acc.toList.toArray 0) := Heap.get?_push_size _ rfl
  show wpAny _ _ _ _ _ { s with heap := h'.push (seqObj "list" acc.toList.toArray 0), toks := tk }
  refine wpAny_bind (wpAny_holding (wpAny_call_entry PyProof.Rows.slot_list_sort ⟨_, hoL, rfl⟩ PyProof.Rows.entry_list_sort
    (PyProof.Rows.list_sort_treeAny (s := { s with heap := h'.push (seqObj "list" acc.toList.toArray 0), toks := tk }) hoL hS (by rw [hal, ← hl]; exact h16) fun out ys g1 g2 g3 => ⟨_, rfl, ?_⟩) (PyProof.Rows.args_list_sort _)))
  obtain ⟨e', he'⟩ := PyProof.Rows.sortedHeap_at (vs := acc.toList) (out := out) hoL
  have hlen : (ys.map V.int).length ≤ sizeLine := by
    rw [List.length_map, g2.length_eq, ← hl]
    exact h16
  refine wpAny_pure ⟨_, rfl, .ref h'.objs.size, upd H h'.objs.size (.lst (ys.map V.int)), I1.laid (t' := tk) (fun b u e => ?_) (Nat.le_refl _)
    (show ObjOk X.prog X.w _ _ _ (.lst (ys.map V.int)) from ⟨hlen, out.toList, e', vals_of_ints g1, by rw [Array.toArray_toList]; exact he'⟩), rfl, q ys _ g2 g3 (I1.hok.fresh (Nat.le_refl _))⟩
  have hb : b < h'.objs.size := Heap.lt_size e
  rw [PyProof.Rows.sortedHeap_old (Nat.ne_of_lt hb) (by rw [size_push']; exact Nat.lt_succ_of_lt hb)]
  exact Heap.get?_push_of_some _ e

/-- s.ljust(n, c) -/
theorem mt_ljustF : MtR X "str.ljust" (fun x xs H Q => ∃ (a : Str) (i : Int) (f : Str), x = .str a ∧ xs = [.int i, .str f] ∧ PadOk i = true ∧ f.length = 1 ∧ Q (.str (Txt.ljustF a i (f.cps.getD 0 0))) H) := by
  intro pins s σ H x xs v us Q I rx rs h
  obtain ⟨a, i, f, rfl, rfl, hp, hf, h⟩ := h
  obtain ⟨t, rfl⟩ := rx
  obtain ⟨u1, u2, rfl, r1, r2⟩ := vals2 rs
  obtain ⟨t1, rfl⟩ := r1
  obtain ⟨t2, rfl⟩ := r2
  exact ljust_fill hp hf fun t' k => ⟨V.str (Txt.ljustF a i (f.cps.getD 0 0)), H, I.tok k, ⟨t', rfl⟩, h⟩
end

/-! ### heaps -/
/-- all that was tracked, but for what stands at the addresses S, is as it was -/
def Keep (S : List Addr) (H H' : Hp) : Prop := ∀ b u, H b = some u → b ∉ S → H' b = some u
theorem Keep.refl (S : List Addr) (H : Hp) : Keep S H H := fun _ _ h _ => h
theorem Keep.trans {S : List Addr} {H H1 H2 : Hp} (a : Keep S H H1) (b : Keep S H1 H2) : Keep S H H2 := fun c u h n => b c u (a c u h n) n
theorem Keep.mono {S T : List Addr} {H H' : Hp} (a : Keep S H H') (h : ∀ x ∈ S, x ∈ T) : Keep T H H' := fun c u e n => a c u e fun m => n (h c m)
theorem Keep.new {S : List Addr} {H : Hp} {p : Addr} {o : HO} (h : H p = none) : Keep S H (upd H p o) := fun b u e _ => by
  rw [upd_ne (ne_of_none e h)]
  exact e
theorem Keep.set {S : List Addr} {H : Hp} {p : Addr} {o : HO} (h : p ∈ S) : Keep S H (upd H p o) := fun b u e n => by
  rw [upd_ne fun q => n (by rw [q]; exact h)]
  exact e
theorem Keep.at {S : List Addr} {H H' : Hp} {b : Addr} {u : HO} (k : Keep S H H') (h : H b = some u) (n : b ∉ S) : H' b = some u := k b u h n
/-- an object that was not there is not spoken of -/
theorem Keep.drop {S : List Addr} {H H' : Hp} {p : Addr} (k : Keep (p :: S) H H') (h : H p = none) : Keep S H H' := fun b u e n => k b u e fun m => by
  rcases List.mem_cons.mp m with q | q
  · rw [q, h] at e; cases e
  · exact n q
theorem Keep.free {S : List Addr} {H H' : Hp} {p : Addr} (k : Keep S H H') (h : H' p = none) (n : p ∉ S) : H p = none := by
  cases e : H p with
  | none => rfl
  | some u =>
    rw [k p u e n] at h
    cases h
/-- what holds a tuple is none of S: S holds other things -/
def NoTup (S : List Addr) (H : Hp) : Prop := ∀ b ∈ S, ∀ xs, H b ≠ some (.tup xs)
theorem NoTup.nil (H : Hp) : NoTup [] H := fun _ h => absurd h (by simp)
theorem NoTup.cons {S : List Addr} {H : Hp} {b : Addr} {o : HO} (h : H b = some o) (n : ∀ xs, o ≠ .tup xs) (t : NoTup S H) : NoTup (b :: S) H := fun c m xs e => by
  rcases List.mem_cons.mp m with q | q
  · rw [q, h] at e; exact n xs (Option.some.inj e)
  · exact t c q xs e
theorem NoTup.one {H : Hp} {b : Addr} {o : HO} (h : H b = some o) (n : ∀ xs, o ≠ .tup xs) : NoTup [b] H := .cons h n (.nil H)
theorem NoTup.none {S : List Addr} {H : Hp} {b : Addr} (h : H b = none) (t : NoTup S H) : NoTup (b :: S) H := fun c m xs e => by
  rcases List.mem_cons.mp m with q | q
  · rw [q, h] at e; cases e
  · exact t c q xs e
/-- all tuples stay -/
def TupK (H H' : Hp) : Prop := ∀ b xs, H b = some (.tup xs) → H' b = some (.tup xs)
theorem TupK.refl (H : Hp) : TupK H H := fun _ _ h => h
theorem TupK.trans {H H1 H2 : Hp} (a : TupK H H1) (b : TupK H1 H2) : TupK H H2 := fun c xs h => b c xs (a c xs h)
theorem Keep.tup {S : List Addr} {H H' : Hp} (k : Keep S H H') (n : NoTup S H) : TupK H H' := fun b xs h => k b _ h fun m => n b m xs h
theorem TupK.new {H : Hp} {p : Addr} {o : HO} (h : H p = none) : TupK H (upd H p o) := fun b xs e => by
  rw [upd_ne (ne_of_none e h)]
  exact e
theorem TupK.set {H : Hp} {p : Addr} {o u : HO} (h : H p = some u) (n : ∀ xs, u ≠ .tup xs) : TupK H (upd H p o) := fun b xs e => by
  rw [upd_ne fun q => by rw [q, h] at e; exact n xs (Option.some.inj e)]
  exact e

/-! ### triples, pairs, items -/
def T3 (H : Hp) (a : Addr) (k : K3) : Prop := H a = some (.tup (tv k))
def T2 (H : Hp) (a : Addr) (v : Val) : Prop := H a = some (.tup [.int v.1, .int v.2])
def ItemAt (H : Hp) (x : V) (p : Itm) : Prop := ∃ a b c, x = .ref a ∧ H a = some (.tup [.ref b, .ref c]) ∧ T3 H b p.1 ∧ T2 H c p.2
theorem ItemAt.keep {H H' : Hp} {x : V} {p : Itm} (k : TupK H H') (h : ItemAt H x p) : ItemAt H' x p := by
  obtain ⟨a, b, c, e, h1, h2, h3⟩ := h
  exact ⟨a, b, c, e, k _ _ h1, k _ _ h2, k _ _ h3⟩
/-- the values xs are the items L -/
abbrev Items (H : Hp) (xs : List V) (L : List Itm) : Prop := Paired (ItemAt H) xs L
theorem Items.keep {H H' : Hp} {xs : List V} {L : List Itm} (k : TupK H H') (h : Items H xs L) : Items H' xs L := Paired.mapP h fun _ _ r => r.keep k
theorem Paired.len {α β : Type} {F : α → β → Prop} {l : List α} {m : List β} (h : Paired F l m) : l.length = m.length := Paired.length h
theorem Paired.get {α β : Type} {F : α → β → Prop} : ∀ {l : List α} {m : List β}, Paired F l m → ∀ {i : Nat} {x : α}, l[i]? = some x → ∃ y, m[i]? = some y ∧ F x y
  | _, _, .nil, i, x, h => by simp at h
  | _, _, .cons r t, 0, x, h => by simp at h; subst h; exact ⟨_, rfl, r⟩
  | _, _, .cons r t, i + 1, x, h => by
    obtain ⟨y, a, b⟩ := Paired.get t (i := i) (x := x) (by simpa using h)
    exact ⟨y, by simpa using a, b⟩
theorem Paired.snoc {α β : Type} {F : α → β → Prop} {l : List α} {m : List β} {x : α} {y : β} (h : Paired F l m) (r : F x y) : Paired F (l ++ [x]) (m ++ [y]) := by
  induction h with
  | nil => exact .cons r .nil
  | cons r' _ ih => exact .cons r' ih

/-! ### a dict of items, told as a sorted list -/
/-- an entry of the dict is an item -/
def EntAt (H : Hp) (p : List L2.Key × V) (q : Itm) : Prop := p.1 = tk q.1 ∧ ∃ a, p.2 = .ref a ∧ T2 H a q.2
theorem EntAt.keep {H H' : Hp} {p : List L2.Key × V} {q : Itm} (k : TupK H H') (h : EntAt H p q) : EntAt H' p q := by
  obtain ⟨h1, a, h2, h3⟩ := h
  exact ⟨h1, a, h2, k _ _ h3⟩
/-- what the entries kvs hold is L -/
def Ents (H : Hp) (kvs : List (List L2.Key × V)) (L : List Itm) : Prop := Srt L ∧ ∃ M, M.Perm L ∧ Paired (EntAt H) kvs M
def Rep (H : Hp) (d : Addr) (L : List Itm) : Prop := ∃ kvs, H d = some (.dT kvs) ∧ Ents H kvs L
theorem Ents.keep {H H' : Hp} {kvs : List (List L2.Key × V)} {L : List Itm} (k : TupK H H') (h : Ents H kvs L) : Ents H' kvs L := by
  obtain ⟨s, M, pm, pr⟩ := h
  exact ⟨s, M, pm, Paired.mapP pr fun _ _ r => r.keep k⟩
theorem Rep.keep {H H' : Hp} {d : Addr} {L : List Itm} (k : TupK H H') (h : Rep H d L) (e : ∀ o, H d = some o → H' d = some o) : Rep H' d L := by
  obtain ⟨kvs, h1, h2⟩ := h
  exact ⟨kvs, e _ h1, h2.keep k⟩
theorem Rep.srt {H : Hp} {d : Addr} {L : List Itm} (h : Rep H d L) : Srt L := let ⟨_, _, s, _⟩ := h; s
theorem Ents.len {H : Hp} {kvs : List (List L2.Key × V)} {L : List Itm} (h : Ents H kvs L) : kvs.length = L.length := by
  obtain ⟨s, M, pm, pr⟩ := h
  rw [Paired.length pr, pm.length_eq]
theorem find_pair {H : Hp} {k : K3} {kvs : List (List L2.Key × V)} {M : List Itm} (pr : Paired (EntAt H) kvs M) : (valV kvs (tk k) = none ↔ ∀ p ∈ M, p.1 ≠ k) ∧ ∀ v, valV kvs (tk k) = some v → ∃ x, (k, x) ∈ M ∧ ∃ a, v = .ref a ∧ T2 H a x := by
  induction pr with
  | nil => exact ⟨⟨fun _ p h => absurd h (by simp), fun _ => rfl⟩, fun v h => by cases h⟩
  | cons r t ih =>
    rename_i p q kvs M
    obtain ⟨i1, i2⟩ := ih
    obtain ⟨r1, a, r2, r3⟩ := r
    by_cases e : q.1 = k
    · have e' : p.1 = tk k := by rw [r1, e]
      rw [valV_pos e']
      refine ⟨⟨fun h => (by cases h), fun h => absurd e (h q List.mem_cons_self)⟩, fun v h => ?_⟩
      have h := Option.some.inj h
      refine ⟨q.2, ?_, a, by rw [← h, r2], r3⟩
      rw [← e]
      exact List.mem_cons_self
    · have e' : ¬ p.1 = tk k := fun z => e (tk_inj (r1.symm.trans z))
      rw [valV_neg e']
      refine ⟨⟨fun h x m => ?_, fun h => i1.mpr fun x m => h x (List.mem_cons_of_mem _ m)⟩, fun v h => ?_⟩
      · rcases List.mem_cons.mp m with z | z
        · rw [z]; exact e
        · exact i1.mp h x z
      · obtain ⟨x, m, w⟩ := i2 v h
        exact ⟨x, List.mem_cons_of_mem _ m, w⟩
/-- looking up -/
theorem Ents.some {H : Hp} {kvs : List (List L2.Key × V)} {L : List Itm} {k : K3} {v : Val} (h : Ents H kvs L) (e : lk L k = some v) : ∃ a, valV kvs (tk k) = some (.ref a) ∧ T2 H a v := by
  obtain ⟨s, M, pm, pr⟩ := h
  obtain ⟨i1, i2⟩ := find_pair (k := k) pr
  cases q : valV kvs (tk k) with
  | none =>
    exact absurd rfl (i1.mp q _ (pm.mem_iff.mpr (lk_some_mem e)))
  | some x =>
    obtain ⟨y, m, a, e1, e2⟩ := i2 x q
    have : y = v := mem_one s (pm.mem_iff.mp m) (lk_some_mem e)
    rw [this] at e2
    exact ⟨a, by rw [e1], e2⟩
theorem Ents.none {H : Hp} {kvs : List (List L2.Key × V)} {L : List Itm} {k : K3} (h : Ents H kvs L) (e : lk L k = none) : valV kvs (tk k) = none := by
  obtain ⟨s, M, pm, pr⟩ := h
  obtain ⟨i1, i2⟩ := find_pair (k := k) pr
  exact i1.mpr fun p m => lk_none.mp e p (pm.mem_iff.mp m)
theorem Ents.isSome {H : Hp} {kvs : List (List L2.Key × V)} {L : List Itm} {k : K3} (h : Ents H kvs L) : (valV kvs (tk k)).isSome = (lk L k).isSome := by
  cases e : lk L k with
  | none =>
    rw [h.none e]
    rfl
  | some v =>
    obtain ⟨a, e', _⟩ := h.some e
    rw [e']
    rfl
theorem any_pair {H : Hp} {k : K3} {kvs : List (List L2.Key × V)} {M : List Itm} (pr : Paired (EntAt H) kvs M) : (kvs.any fun kv => decide (kv.1 = tk k)) = (M.any fun p => decide (p.1 = k)) := by
  induction pr with
  | nil => rfl
  | cons r t ih =>
    rw [List.any_cons, List.any_cons, ih]
    congr 1
    rw [r.1]
    exact decide_eq_decide.mpr ⟨tk_inj, fun e => by rw [e]⟩
theorem repl_pair {H : Hp} {k : K3} {v : Val} {a : Addr} (ha : T2 H a v) {kvs : List (List L2.Key × V)} {M : List Itm} (pr : Paired (EntAt H) kvs M) :
    Paired (EntAt H) (kvs.map fun kv => if kv.1 = tk k then (kv.1, V.ref a) else kv) (M.map fun p => if p.1 = k then (p.1, v) else p) := by
  induction pr with
  | nil => exact .nil
  | cons r t ih =>
    rw [List.map_cons, List.map_cons]
    refine .cons ?_ ih
    rename_i p q _ _
    obtain ⟨r1, b, r2, r3⟩ := r
    by_cases e : q.1 = k
    · rw [if_pos e, if_pos (by rw [r1, e])]
      exact ⟨r1, a, rfl, ha⟩
    · rw [if_neg e, if_neg fun z => e (tk_inj (r1.symm.trans z))]
      exact ⟨r1, b, r2, r3⟩
theorem map_put {k : K3} {v u : Val} {M L : List Itm} (s : Srt L) (pm : M.Perm L) (h : (k, u) ∈ L) : (M.map fun p => if p.1 = k then (p.1, v) else p).Perm (put L k v) := by
  have e : (L.map fun p => if p.1 = k then (p.1, v) else p) = put L k v := by
    refine srt_ext ?_ (srt_put s k v) fun p => ?_
    · unfold Srt
      rw [List.pairwise_map]
      refine s.imp fun {a b} h => ?_
      have ea : ∀ a : Itm, (if a.1 = k then (a.1, v) else a).1 = a.1 := fun a => by split <;> rfl
      rw [ea, ea]
      exact h
    · rw [mem_put s, List.mem_map]
      constructor
      · rintro ⟨q, m, e⟩
        by_cases z : q.1 = k
        · rw [if_pos z] at e
          left
          rw [← e, z]
        · rw [if_neg z] at e
          right
          rw [← e]
          exact ⟨m, z⟩
      · rintro (e | ⟨m, z⟩)
        · exact ⟨(k, u), h, by rw [if_pos rfl, e]⟩
        · exact ⟨p, m, by rw [if_neg z]⟩
  rw [← e]
  exact pm.map _
/-- storing -/
theorem Ents.put {H : Hp} {kvs : List (List L2.Key × V)} {L : List Itm} {k : K3} {v : Val} {a : Addr} (h : Ents H kvs L) (ha : T2 H a v) : Ents H (putK kvs (tk k) (.ref a)) (put L k v) := by
  obtain ⟨s, M, pm, pr⟩ := h
  refine ⟨srt_put s k v, ?_⟩
  cases e : lk L k with
  | none =>
    have e' : valV kvs (tk k) = Option.none := Ents.none ⟨s, M, pm, pr⟩ e
    rw [putK_new _ e']
    exact ⟨M ++ [(k, v)], ((List.perm_append_comm).trans (pm.cons (k, v))).trans (put_perm_new e).symm, Paired.snoc pr ⟨rfl, a, rfl, ha⟩⟩
  | some u =>
    obtain ⟨b, e', _⟩ := Ents.some ⟨s, M, pm, pr⟩ e
    have hany : (kvs.any fun kv => decide (kv.1 = tk k)) = true := by rw [valV_any, e']; rfl
    refine ⟨_, map_put s pm (lk_some_mem e), ?_⟩
    unfold putK
    rw [if_pos hany]
    exact repl_pair ha pr
theorem drop_pair {H : Hp} {k : K3} {kvs : List (List L2.Key × V)} {M : List Itm} (pr : Paired (EntAt H) kvs M) : Paired (EntAt H) (dropK kvs (tk k)) (del M k) := by
  induction pr with
  | nil => exact .nil
  | cons r t ih =>
    rename_i p q kvs M
    by_cases e : q.1 = k
    · have z1 : dropK (p :: kvs) (tk k) = dropK kvs (tk k) := dropK_pos (by rw [r.1, e])
      have z2 : del (q :: M) k = del M k := List.filter_cons_of_neg (by simp [e])
      rw [z1, z2]
      exact ih
    · have z1 : dropK (p :: kvs) (tk k) = p :: dropK kvs (tk k) := dropK_neg fun z => e (tk_inj (r.1.symm.trans z))
      have z2 : del (q :: M) k = q :: del M k := List.filter_cons_of_pos (by simp [e])
      rw [z1, z2]
      exact .cons r ih
theorem Ents.del {H : Hp} {kvs : List (List L2.Key × V)} {L : List Itm} {k : K3} (h : Ents H kvs L) : Ents H (dropK kvs (tk k)) (del L k) := by
  obtain ⟨s, M, pm, pr⟩ := h
  exact ⟨srt_del s k, K41.del M k, pm.filter _, drop_pair pr⟩
theorem Ents.nil (H : Hp) : Ents H [] [] := ⟨Srt.nil, [], List.Perm.refl _, .nil⟩
/-- the keys, as sorted gives them -/
theorem Ents.keys {H : Hp} {kvs : List (List L2.Key × V)} {L : List Itm} (h : Ents H kvs L) : ∃ ks : List K3, kvs.map (·.1) = ks.map tk ∧ ks.Perm (L.map (·.1)) := by
  obtain ⟨s, M, pm, pr⟩ := h
  refine ⟨M.map (·.1), ?_, pm.map _⟩
  have : ∀ {kvs : List (List L2.Key × V)} {M : List Itm}, Paired (EntAt H) kvs M → kvs.map (·.1) = (M.map (·.1)).map tk := by
    intro kvs M pr
    induction pr with
    | nil => rfl
    | cons r t ih => rw [List.map_cons, List.map_cons, List.map_cons, ih, r.1]
  exact this pr
theorem keys_sorted {ks : List K3} {L : List Itm} (s : Srt L) (pm : ks.Perm (L.map (·.1))) (h : ks.Pairwise fun a b => ¬ ltK b a) : ks = L.map (·.1) := by
  have nd : ks.Nodup := pm.nodup_iff.mpr (nodup_of_srt s)
  have h1 : ks.Pairwise ltK := by
    refine List.Pairwise.imp_of_mem ?_ (h.and nd)
    rintro a b _ _ ⟨x, y⟩
    rcases ltK_total y with z | z
    · exact z
    · exact absurd z x
  have h2 : (L.map (·.1)).Pairwise ltK := by rw [List.pairwise_map]; exact s
  have key : ∀ {l m : List K3}, l.Pairwise ltK → m.Pairwise ltK → l.Perm m → l = m := by
    intro l
    induction l with
    | nil => intro m _ _ p; exact (List.Perm.eq_nil p.symm).symm
    | cons x l ih =>
      intro m hl hm p
      cases m with
      | nil => exact absurd p.length_eq (by simp)
      | cons y m =>
        have e : x = y := by
          rcases List.mem_cons.mp (p.mem_iff.mp List.mem_cons_self) with e | a
          · exact e
          · rcases List.mem_cons.mp (p.mem_iff.mpr List.mem_cons_self) with e | b
            · exact e.symm
            · exact absurd ((List.pairwise_cons.mp hl).1 _ b) (ltK_asymm ((List.pairwise_cons.mp hm).1 _ a))
        subst e
        rw [ih (List.pairwise_cons.mp hl).2 (List.pairwise_cons.mp hm).2 p.cons_inv]
  exact key h1 h2 pm

/-! ### a def as its callers see it -/
section
variable {P : Program} {w : World} {K : PySem.W.Frag} {mg : Str → Option Value} {base : Heap}
structure Cl (P : Program) (w : World) (K : PySem.W.Frag) (mg : Str → Option Value) (base : Heap) (k : Nat) (x : Str) (ps : List Str) (sp : Sp) : Prop where
  ex : ∃ (f : Addr) (fd : FuncData), FnOk P w K mg base CX0 k f fd ps sp ∧ mg x = some (.ref f) ∧ PySem.W.keepIn K (.ref f) = true ∧ Binds K fd ps []
end
section
variable {X : Cx}
theorem pe_own {k j : Nat} {x : Str} {ps : List Str} {sp : Sp} {e : Expr} {es : List Expr} {p pos : Pos} {t : TA} (C : Cl X.prog X.w X.K X.mg X.base k x ps sp) (hr : Room j X.A) (hj : k ≤ j) (hg : Gl X x) (ha : PA X (e :: es) t)
    (hdb : (x == ("__debug__" : Str)) = false := by decide) (he : starEach (e :: es) X.env = (false, eval e X.env) :: starEach es X.env := by rfl) (hpl : (backTo pos (starEach es X.env)).any (·.1) = false := by rfl) :
    PE X (.Call (.Name x p) (e :: es) [] pos) (tCall sp [] E0 t) := by
  obtain ⟨f, fd, F, hm, hk, hb⟩ := C.ex
  exact pe_call F (hr.mono hj) hg hm hk hb .nil pass0 ha hdb he hpl
/-- a module's name that holds an int, a text -/
theorem pe_gint {x : Str} {pos : Pos} {i : Int} (hg : Gl X x) (hm : ∃ t, X.mg x = some (.int i t)) (hd : (x == ("__debug__" : Str)) = false := by decide) : PE X (.Name x pos) (tC (.int i)) := by
  obtain ⟨t, hm⟩ := hm
  exact pe_glob hg hm ⟨t, rfl⟩ hd
theorem pe_gstr {x : Str} {pos : Pos} {i : Str} (hg : Gl X x) (hm : ∃ t, X.mg x = some (.str i t)) (hd : (x == ("__debug__" : Str)) = false := by decide) : PE X (.Name x pos) (tC (.str i)) := by
  obtain ⟨t, hm⟩ := hm
  exact pe_glob hg hm ⟨t, rfl⟩ hd
end
end K41

/-! The text by places; what the top leaves. -/
namespace K41
open PySem PySem.Spec PyProof.Rows L2 TL
def top (i : Nat) : Stmt := PySem.Challenge.pw_landfall_k41_mended_items_are_sound.main.body.getD i (.Pass ⟨0, 0, 0, 0⟩)
/-- what the module's names hold that the defs read -/
structure Txt (mg : Str → Option Value) : Prop where
  b_len : mg "len" = none
  b_range : mg "range" = none
  b_sorted : mg "sorted" = none
  b_int : mg "int" = none
  b_abs : mg "abs" = none
  b_str : mg "str" = none
  b_min : mg "min" = none
  b_max : mg "max" = none
  b_list : mg "list" = none
  b_tuple : mg "tuple" = none
  b_bool : mg "bool" = none
  b_isinstance : mg "isinstance" = none
  c__SIGNS : ∃ t, mg "_SIGNS" = some (.str "0123456789_abcdefghijklmnopqrstuvwxyz" t)
  c__BASE : ∃ t, mg "_BASE" = some (.int 38 t)
  c__NAME_LENGTH : ∃ t, mg "_NAME_LENGTH" = some (.int 11 t)
  c_NODE_nodes : ∃ t, mg "NODE_nodes" = some (.int 0 t)
  c_ENTRY_nodes : ∃ t, mg "ENTRY_nodes" = some (.int 1 t)
  c_CHARGE_nodes : ∃ t, mg "CHARGE_nodes" = some (.int 4 t)
  c__KINDS : ∃ t, mg "_KINDS" = some (.int 2 t)
  c__MODES : ∃ t, mg "_MODES" = some (.int 64 t)
  c__OWNERS : ∃ t, mg "_OWNERS" = some (.int 1000 t)
  c_NODE_mending : ∃ t, mg "NODE_mending" = some (.int 0 t)
  c_ENTRY_mending : ∃ t, mg "ENTRY_mending" = some (.int 1 t)
  c__CHUNK : ∃ t, mg "_CHUNK" = some (.int 3 t)
  c_CHARGE_mending : ∃ t, mg "CHARGE_mending" = some (.int 4 t)
  c__FOLDER : ∃ t, mg "_FOLDER" = some (.int 1 t)
  c__ROOT : ∃ t, mg "_ROOT" = some (.int 1 t)
  c__ROOT_MODE : ∃ t, mg "_ROOT_MODE" = some (.int 61 t)
end K41

/-! Names, keys, packed nodes: the walks of the small defs. -/
namespace K41
open PySem PySem.Spec PyProof.Rows L2 TL
theorem bI {b : Bool} {A B : Prop} (h1 : b = true → A) (h2 : b = false → B) : if b = true then A else B := by
  cases b
  · exact h2 rfl
  · exact h1 rfl
theorem bT {b : Bool} {A B : Prop} (h : b = true) (a : A) : if b = true then A else B := by rw [if_pos h]; exact a
theorem bF {b : Bool} {A B : Prop} (h : b = false) (a : B) : if b = true then A else B := by rw [if_neg (by rw [h]; exact Bool.false_ne_true)]; exact a
theorem dI {p : Prop} [Decidable p] {A B : Prop} (h1 : p → A) (h2 : ¬ p → B) : if decide p = true then A else B := bI (fun h => h1 (of_decide_eq_true h)) fun h => h2 (of_decide_eq_false h)
theorem dT {p : Prop} [Decidable p] {A B : Prop} (h : p) (a : A) : if decide p = true then A else B := bT (decide_eq_true h) a
theorem dF {p : Prop} [Decidable p] {A B : Prop} (h : ¬ p) (a : B) : if decide p = true then A else B := bF (decide_eq_false h) a
theorem nT {p : Prop} [Decidable p] {A B : Prop} (h : ¬ p) (a : A) : if (!decide p) = true then A else B := bT (by rw [decide_eq_false h]; rfl) a
theorem nF {p : Prop} [Decidable p] {A B : Prop} (h : p) (a : B) : if (!decide p) = true then A else B := bF (by rw [decide_eq_true h]; rfl) a
theorem nI {p : Prop} [Decidable p] {A B : Prop} (h1 : ¬ p → A) (h2 : p → B) : if (!decide p) = true then A else B := by
  by_cases h : p
  · exact nF h (h2 h)
  · exact nT h (h1 h)
abbrev SG : Str := "0123456789_abcdefghijklmnopqrstuvwxyz"
theorem code_lt123 {c : Nat} (h : 0 < code c) : c < 123 := by
  unfold code at h
  repeat' split at h
  all_goals omega
theorem sg_occ {c : Nat} (h : 0 < code c) : Builtin.Str.occurrences SG ⟨#[c]⟩ 0 SG.length 1 = [code c - 1] := by
  have : ∀ c : Fin 123, 0 < code c.1 → Builtin.Str.occurrences SG ⟨#[c.1]⟩ 0 SG.length 1 = [code c.1 - 1] := by decide +kernel
  exact this ⟨c, code_lt123 h⟩ h
theorem sg_mem {c : Nat} (h : 0 < code c) : c ∈ SG.cps.toList := by
  have : ∀ c : Fin 123, 0 < code c.1 → c.1 ∈ SG.cps.toList := by decide +kernel
  exact this ⟨c, code_lt123 h⟩ h
theorem cdw {i j : Int} (h : 0 < j) (h2 : j < 1099511627776) : CDivW i j := by
  refine ⟨h, ?_⟩
  have : j.natAbs.log2 < 40 := by
    by_cases e : j.natAbs = 0
    · omega
    · exact (Nat.log2_lt e).mpr (by omega)
  omega
section
variable {P : Program} {w : World} {K : PySem.W.Frag} {mg : Str → Option Value} {base : Heap}
local macro_rules | `(tactic| walk_at "rd") => `(tactic| repeat (first | refine ⟨_, rfl, ?_⟩ | refine ⟨_, _, rfl, rfl, ?_⟩ | refine ⟨rfl, ?_⟩ | refine ⟨(by show (0 : Int) < _; decide), ?_⟩ | refine ⟨cdw (by decide) (by decide), ?_⟩ | refine ⟨Or.inl (by decide), ?_⟩ | refine ⟨Or.inr (by decide), ?_⟩ | refine And.intro (by assumption) ?_))
abbrev s_is_name : Stmt := top 7
theorem sc_is_name : FnScope ["text", "sign"] ["text"] (defScope s_is_name) := ⟨rfl, rfl, rfl, by decide +kernel, rfl, by decide +kernel, by decide +kernel⟩
def spIsName : Sp := fun vs H Q _ => ∃ z : Str, vs = [.str z] ∧ OkName (tl z) ∧ Q (.bl true) H
theorem ok_is_name {f : Addr} {fd : FuncData} (F : Fun K "is_name" "is_name" s_is_name f fd) (T : Txt mg) : FnOk P w K mg base CX0 1 f fd ["text"] spIsName := by
  refine F.ok sc_is_name (fun vs H Q E h => ?_) (fun cdv A outer s H vs Q E hr h => ?_)
  · obtain ⟨z, rfl, _⟩ := h
    rfl
  · obtain ⟨z, rfl, hz, q⟩ := h
    refine ⟨_, (pss_cons (ps_if (PW.pt (pw_or (pt_cmpR op_lt (pe_callB call_len_str (by rfl) T.b_len (by decide +kernel) (pa_cons (pv 0) pa_nil)) pe_int (nomark _)) (pw_or1 (pt_cmpR op_gt (pe_callB call_len_str (by rfl) T.b_len (by decide +kernel) (pa_cons (pv 0) pa_nil)) (pe_gint rfl T.c__NAME_LENGTH) (nomark _)))))
  (pss_one (ps_ret pe_bl))
  pss_nil)
  (pss_cons (ps_for PassesOwn.never rfl (pi_str (pv 0)) (pg_name (i := 1) sc_is_name.nd rfl (Or.inl rfl))
  (pss_one (ps_if (pt_cmpR op_notIn_sign (pv 1) (pe_gstr rfl T.c__SIGNS) (by rfl))
  (pss_one (ps_ret pe_bl))
  pss_nil)))
  (pss_one (ps_ret pe_bl)))), ?_⟩
    have hl : z.length = (tl z).length := rfl
    have hs : z.length ≤ sizeLine := by rw [hl]; have := hz.2.1; rw [sizeLine_eq]; omega
    have h1 := hz.1
    have h2 := hz.2.1
    walk_at "rd"
    refine dF (by omega) ?_
    walk_at "rd"
    refine dF (by omega) ?_
    walk_at "rd"
    refine for_it walk_str (fun i σ H' => H' = H ∧ ∃ x, σ = [some (.str z), x]) ⟨rfl, _, rfl⟩ (fun _ _ _ _ _ => trivial) ?_ ?_
    · rintro i x σ H1 H2 hi ⟨rfl, x0, rfl⟩ ⟨rfl, c, hc, rfl⟩
      walk_at "rd"
      have hm : c ∈ tl z := by
        unfold tl
        exact Array.mem_toList_iff.mpr (Array.mem_of_getElem? hc)
      refine nF (sg_mem (hz.2.2 c hm)) ?_
      exact ⟨rfl, _, rfl⟩
    · rintro σ H1 ⟨rfl, x0, rfl⟩
      exact q

abbrev CIsName (P : Program) (w : World) (K : PySem.W.Frag) (mg : Str → Option Value) (base : Heap) : Prop := Cl P w K mg base 1 "is_name" ["text"] spIsName
abbrev s_name_word : Stmt := top 8
theorem sc_name_word : FnScope ["name", "word", "place"] ["name"] (defScope s_name_word) := ⟨rfl, rfl, rfl, by decide +kernel, rfl, by decide +kernel, by decide +kernel⟩
def spNameWord : Sp := fun vs H Q _ => ∃ z : Str, vs = [.str z] ∧ OkName (tl z) ∧ Q (.int (wordOf (tl z))) H
theorem wpart_step (z : Str) (i : Nat) : wpart (tl z) (i + 1) = wpart (tl z) i * 38 + dig (tl z) i := rfl
theorem ok_name_word {f : Addr} {fd : FuncData} (F : Fun K "name_word" "name_word" s_name_word f fd) (T : Txt mg) (C_is_name : CIsName P w K mg base) : FnOk P w K mg base CX0 2 f fd ["name"] spNameWord := by
  refine F.ok sc_name_word (fun vs H Q E h => ?_) (fun cdv A outer s H vs Q E hr h => ?_)
  · obtain ⟨z, rfl, _⟩ := h
    rfl
  · obtain ⟨z, rfl, hz, q⟩ := h
    refine ⟨_, (pss_cons (ps_if (pt_not (pt_val (pe_own C_is_name hr (by decide) rfl (pa_cons (pv 0) pa_nil))))
  (pss_one ps_never)
  pss_nil)
  (pss_cons (ps_set (i := 1) sc_name_word.nd rfl (Or.inl rfl) pe_int)
  (pss_cons (ps_for PassesOwn.never rfl (pi_range1 rfl T.b_range (pa_cons (pe_gint rfl T.c__NAME_LENGTH) pa_nil)) (pg_name (i := 2) sc_name_word.nd rfl (Or.inl rfl))
  (pss_cons (ps_set (i := 1) sc_name_word.nd rfl (Or.inl rfl) (pe_op op_mul (pv 1) (pe_gint rfl T.c__BASE)))
  (pss_one (ps_if (pt_cmpR op_lt (pv 2) (pe_callB call_len_str (by rfl) T.b_len (by decide +kernel) (pa_cons (pv 0) pa_nil)) (nomark _))
  (pss_one (ps_set (i := 1) sc_name_word.nd rfl (Or.inl rfl) (pe_op op_add (pe_op op_add (pv 1) (pe_bm PySem.F.plainAttrs_str PySem.F.slot_str_index PySem.F.type_str_index mt_sindex (pe_gstr rfl T.c__SIGNS) (pa_cons (pe_ix ix_str (pv 0) (pv 2) (fun _ _ => rfl)) pa_nil))) pe_int)))
  pss_nil))))
  (pss_one (ps_ret (pv 1)))))), ?_⟩
    have hl : z.length = (tl z).length := rfl
    have hs : z.length ≤ sizeLine := by rw [hl]; have := hz.2.1; rw [sizeLine_eq]; omega
    have h1 := hz.1
    have h2 := hz.2.1
    walk_at "rd"
    refine ⟨by omega, by omega, ?_⟩
    refine for_range (fun i σ H' => H' = H ∧ ∃ x, σ = [some (.str z), some (.int (wpart (tl z) i : Nat)), x]) ⟨rfl, _, rfl⟩ ?_ ?_
    · rintro i σ H1 hi ⟨rfl, x0, rfl⟩
      walk_at "rd"
      have hi : i < 11 := hi
      refine dI ?_ ?_ <;> intro hlt
      · have hlt : i < (tl z).length := by rw [← hl]; omega
        have hcc : (tl z)[i]? = some ((tl z)[i]) := List.getElem?_eq_getElem hlt
        have hok : 0 < code ((tl z)[i]) := hz.2.2 _ (List.getElem_mem hlt)
        walk_at "rd"
        refine ⟨z, 0 + ((i : Nat) : Int), (tl z)[i], rfl, rfl, hs, by rw [Int.zero_add]; exact atI_nat hcc, ?_⟩
        refine ⟨SG, ⟨#[(tl z)[i]]⟩, code ((tl z)[i]) - 1, [], rfl, rfl, sg_occ hok, ?_⟩
        walk_at "rd"
        refine ⟨some (.int (0 + (i : Int))), ?_⟩
        have e : wpart (tl z) i * 38 + dig (tl z) i = wpart (tl z) (i + 1) := rfl
        have e2 : dig (tl z) i = code ((tl z)[i]) := by unfold dig; rw [hcc]
        rw [← e, e2]
        have e3 : (wpart (tl z) i : Int) * 38 + ((code ((tl z)[i]) - 1 : Nat) : Int) + 1 = ((wpart (tl z) i * 38 + code ((tl z)[i]) : Nat) : Int) := by omega
        exact congrArg (fun q => [some (V.str z), some (V.int q), some (V.int (0 + (i : Int)))]) e3
      · have hge : (tl z).length ≤ i := by have hge := hlt; rw [← hl]; omega
        refine ⟨rfl, some (.int (0 + (i : Int))), ?_⟩
        have e : wpart (tl z) i * 38 + dig (tl z) i = wpart (tl z) (i + 1) := rfl
        have e2 : dig (tl z) i = 0 := by unfold dig; rw [List.getElem?_eq_none hge]
        rw [← e, e2]
        have e3 : (wpart (tl z) i : Int) * 38 = ((wpart (tl z) i * 38 + 0 : Nat) : Int) := by omega
        exact congrArg (fun q => [some (V.str z), some (V.int q), some (V.int (0 + (i : Int)))]) e3
    · rintro σ H1 ⟨rfl, x0, rfl⟩
      exact ⟨_, rfl, q⟩
/-! ### keys and packed nodes -/
abbrev CNameWord (P : Program) (w : World) (K : PySem.W.Frag) (mg : Str → Option Value) (base : Heap) : Prop := Cl P w K mg base 2 "name_word" ["name"] spNameWord
def spNodeKey : Sp := fun vs H Q _ => ∃ n, vs = [.int n] ∧ ∀ p, H p = none → Q (.ref p) (upd H p (.tup (tv (nk n))))
def spChargeKey : Sp := fun vs H Q _ => ∃ n, vs = [.int n] ∧ ∀ p, H p = none → Q (.ref p) (upd H p (.tup (tv (ck n))))
def spEntryKey : Sp := fun vs H Q _ => ∃ n z, vs = [.int n, .str z] ∧ OkName (tl z) ∧ ∀ p, H p = none → Q (.ref p) (upd H p (.tup (tv (n, 1, wordOf (tl z)))))
def spPack : Sp := fun vs H Q _ => ∃ a b c d, vs = [.int a, .int b, .int c, .int d] ∧ Q (.int (a + 2 * (c + 64 * (b + 1000 * d)))) H
def spUnpack : Sp := fun vs H Q _ => ∃ n, vs = [.int n] ∧ ∀ p, H p = none → Q (.ref p) (upd H p (.tup [.int (n % 2), .int (n / 2 / 64 % 1000), .int (n / 2 % 64), .int (n / 2 / 64 / 1000)]))
theorem len3v {a b c : V} : [a, b, c].length ≤ sizeLine := by rw [sizeLine_eq]; simp
theorem len2v {a b : V} : [a, b].length ≤ sizeLine := by rw [sizeLine_eq]; simp
theorem len4v {a b c d : V} : [a, b, c, d].length ≤ sizeLine := by rw [sizeLine_eq]; simp
abbrev s_node_key : Stmt := top 16
theorem sc_node_key : FnScope ["n"] ["n"] (defScope s_node_key) := ⟨rfl, rfl, rfl, by decide +kernel, rfl, by decide +kernel, by decide +kernel⟩
theorem ok_node_key {f : Addr} {fd : FuncData} (F : Fun K "node_key" "node_key" s_node_key f fd) (T : Txt mg) : FnOk P w K mg base CX0 1 f fd ["n"] spNodeKey := by
  refine F.ok sc_node_key (fun vs H Q E h => ?_) (fun cdv A outer s H vs Q E hr h => ?_)
  · obtain ⟨z, rfl, _⟩ := h
    rfl
  · obtain ⟨n, rfl, q⟩ := h
    refine ⟨_, (pss_one (ps_ret (pe_tup (pa_cons (pv 0) (pa_cons (pe_gint rfl T.c_NODE_nodes) (pa_cons pe_int pa_nil)))))), ?_⟩
    walk_at "rd"
    exact ⟨len3v, q⟩
abbrev s_charge_key : Stmt := top 18
theorem sc_charge_key : FnScope ["owner"] ["owner"] (defScope s_charge_key) := ⟨rfl, rfl, rfl, by decide +kernel, rfl, by decide +kernel, by decide +kernel⟩
theorem ok_charge_key {f : Addr} {fd : FuncData} (F : Fun K "charge_key" "charge_key" s_charge_key f fd) (T : Txt mg) : FnOk P w K mg base CX0 1 f fd ["owner"] spChargeKey := by
  refine F.ok sc_charge_key (fun vs H Q E h => ?_) (fun cdv A outer s H vs Q E hr h => ?_)
  · obtain ⟨z, rfl, _⟩ := h
    rfl
  · obtain ⟨n, rfl, q⟩ := h
    refine ⟨_, (pss_one (ps_ret (pe_tup (pa_cons pe_int (pa_cons (pe_gint rfl T.c_CHARGE_nodes) (pa_cons (pv 0) pa_nil)))))), ?_⟩
    walk_at "rd"
    exact ⟨len3v, q⟩
abbrev s_entry_key : Stmt := top 17
theorem sc_entry_key : FnScope ["n", "name"] ["n", "name"] (defScope s_entry_key) := ⟨rfl, rfl, rfl, by decide +kernel, rfl, by decide +kernel, by decide +kernel⟩
theorem ok_entry_key {f : Addr} {fd : FuncData} (F : Fun K "entry_key" "entry_key" s_entry_key f fd) (T : Txt mg) (C_name_word : CNameWord P w K mg base) : FnOk P w K mg base CX0 3 f fd ["n", "name"] spEntryKey := by
  refine F.ok sc_entry_key (fun vs H Q E h => ?_) (fun cdv A outer s H vs Q E hr h => ?_)
  · obtain ⟨n, z, rfl, _⟩ := h
    rfl
  · obtain ⟨n, z, rfl, hz, q⟩ := h
    refine ⟨_, (pss_one (ps_ret (pe_tup (pa_cons (pv 0) (pa_cons (pe_gint rfl T.c_ENTRY_nodes) (pa_cons (pe_own C_name_word hr (by decide) rfl (pa_cons (pv 1) pa_nil)) pa_nil)))))), ?_⟩
    walk_at "rd"
    exact ⟨len3v, q⟩
abbrev s_pack_node : Stmt := top 19
theorem sc_pack_node : FnScope ["kind", "owner", "mode", "links"] ["kind", "owner", "mode", "links"] (defScope s_pack_node) := ⟨rfl, rfl, rfl, by decide +kernel, rfl, by decide +kernel, by decide +kernel⟩
theorem ok_pack_node {f : Addr} {fd : FuncData} (F : Fun K "pack_node" "pack_node" s_pack_node f fd) (T : Txt mg) : FnOk P w K mg base CX0 1 f fd ["kind", "owner", "mode", "links"] spPack := by
  refine F.ok sc_pack_node (fun vs H Q E h => ?_) (fun cdv A outer s H vs Q E hr h => ?_)
  · obtain ⟨a, b, c, d, rfl, _⟩ := h
    rfl
  · obtain ⟨a, b, c, d, rfl, q⟩ := h
    refine ⟨_, (pss_one (ps_ret (pe_op op_add (pv 0) (pe_op op_mul (pe_gint rfl T.c__KINDS) (pe_op op_add (pv 2) (pe_op op_mul (pe_gint rfl T.c__MODES) (pe_op op_add (pv 1) (pe_op op_mul (pe_gint rfl T.c__OWNERS) (pv 3))))))))), ?_⟩
    walk_at "rd"
    exact q
abbrev s_unpack_node : Stmt := top 20
theorem sc_unpack_node : FnScope ["packed", "kind", "rest", "mode"] ["packed"] (defScope s_unpack_node) := ⟨rfl, rfl, rfl, by decide +kernel, rfl, by decide +kernel, by decide +kernel⟩
theorem ok_unpack_node {f : Addr} {fd : FuncData} (F : Fun K "unpack_node" "unpack_node" s_unpack_node f fd) (T : Txt mg) : FnOk P w K mg base CX0 1 f fd ["packed"] spUnpack := by
  refine F.ok sc_unpack_node (fun vs H Q E h => ?_) (fun cdv A outer s H vs Q E hr h => ?_)
  · obtain ⟨n, rfl, q⟩ := h
    rfl
  · obtain ⟨n, rfl, q⟩ := h
    refine ⟨_, (pss_cons (ps_set (i := 1) sc_unpack_node.nd rfl (Or.inl rfl) (pe_op op_mod (pv 0) (pe_gint rfl T.c__KINDS)))
  (pss_cons (ps_set (i := 2) sc_unpack_node.nd rfl (Or.inl rfl) (pe_op op_fdivW (pv 0) (pe_gint rfl T.c__KINDS)))
  (pss_cons (ps_set (i := 3) sc_unpack_node.nd rfl (Or.inl rfl) (pe_op op_mod (pv 2) (pe_gint rfl T.c__MODES)))
  (pss_cons (ps_set (i := 2) sc_unpack_node.nd rfl (Or.inl rfl) (pe_op op_fdivW (pv 2) (pe_gint rfl T.c__MODES)))
  (pss_one (ps_ret (pe_tup (pa_cons (pv 1) (pa_cons (pe_op op_mod (pv 2) (pe_gint rfl T.c__OWNERS)) (pa_cons (pv 3) (pa_cons (pe_op op_fdivW (pv 2) (pe_gint rfl T.c__OWNERS)) pa_nil))))))))))), ?_⟩
    walk_at "rd"
    exact ⟨len4v, q⟩
end
end K41

/-! The state of mending on the heap; loops over the sorted keys. -/
namespace K41
open PySem PySem.Spec PyProof.Rows L2 TL
/-- what stands for a loss -/
def LossAt (H : Hp) (x : V) : Loss → Prop
  | .root => ∃ a, x = .ref a ∧ H a = some (.tup [.str "root"])
  | .item k => ∃ a b, x = .ref a ∧ H a = some (.tup [.str "item", .ref b]) ∧ T3 H b k
  | .entry k c => ∃ a b, x = .ref a ∧ H a = some (.tup [.str "entry", .ref b, .int c]) ∧ T3 H b k
  | .moved n j => ∃ a z, x = .ref a ∧ H a = some (.tup [.str "moved", .int n, .str z]) ∧ tl z = nmL cN n.toNat j
  | .links n o u => ∃ a, x = .ref a ∧ H a = some (.tup [.str "links", .int n, .int o, .int u])
  | .charge o u v => ∃ a, x = .ref a ∧ H a = some (.tup [.str "charge", .int o, .int u, .int v])
theorem LossAt.keep {H H' : Hp} {x : V} {m : Loss} (k : TupK H H') (h : LossAt H x m) : LossAt H' x m := by
  cases m with
  | root => obtain ⟨a, e, h1⟩ := h; exact ⟨a, e, k _ _ h1⟩
  | item _ => obtain ⟨a, b, e, h1, h2⟩ := h; exact ⟨a, b, e, k _ _ h1, k _ _ h2⟩
  | entry _ _ => obtain ⟨a, b, e, h1, h2⟩ := h; exact ⟨a, b, e, k _ _ h1, k _ _ h2⟩
  | moved _ _ => obtain ⟨a, b, e, h1, h2⟩ := h; exact ⟨a, b, e, k _ _ h1, h2⟩
  | links _ _ _ => obtain ⟨a, e, h1⟩ := h; exact ⟨a, e, k _ _ h1⟩
  | charge _ _ _ => obtain ⟨a, e, h1⟩ := h; exact ⟨a, e, k _ _ h1⟩
abbrev LossesAt (H : Hp) (xs : List V) (ls : List Loss) : Prop := Paired (LossAt H) xs ls
/-- the losses at l -/
def LsAt (H : Hp) (l : Addr) (ls : List Loss) : Prop := ∃ xs, H l = some (.lst xs) ∧ LossesAt H xs ls
structure SS (H : Hp) (d l : Addr) (L : List Itm) (ls : List Loss) : Prop where
  rep : Rep H d L
  los : LsAt H l ls
theorem T3.keep {H H' : Hp} {b : Addr} {k : K3} (u : TupK H H') (h : T3 H b k) : T3 H' b k := u _ _ h
theorem T2.keep {H H' : Hp} {b : Addr} {k : Val} (u : TupK H H') (h : T2 H b k) : T2 H' b k := u _ _ h
theorem T3.new {H : Hp} {b p : Addr} {k : K3} {o : HO} (h : T3 H b k) (hp : H p = none) : T3 (upd H p o) b k := h.keep (TupK.new hp)
theorem T2.new {H : Hp} {b p : Addr} {k : Val} {o : HO} (h : T2 H b k) (hp : H p = none) : T2 (upd H p o) b k := h.keep (TupK.new hp)
theorem T3.at {H : Hp} {p : Addr} {k : K3} : T3 (upd H p (.tup (tv k))) p k := upd_same
theorem T2.at {H : Hp} {p : Addr} {a b : Int} : T2 (upd H p (.tup [.int a, .int b])) p (a, b) := upd_same
theorem Rep.new {H : Hp} {d p : Addr} {L : List Itm} {o : HO} (h : Rep H d L) (hp : H p = none) : Rep (upd H p o) d L := h.keep (TupK.new hp) fun u e => by rw [upd_ne (ne_of_none e hp)]; exact e
theorem LsAt.new {H : Hp} {l p : Addr} {ls : List Loss} {o : HO} (h : LsAt H l ls) (hp : H p = none) : LsAt (upd H p o) l ls := by
  obtain ⟨xs, h1, h2⟩ := h
  exact ⟨xs, by rw [upd_ne (ne_of_none h1 hp)]; exact h1, Paired.mapP h2 fun _ _ r => r.keep (TupK.new hp)⟩
theorem SS.new {H : Hp} {d l p : Addr} {L : List Itm} {ls : List Loss} {o : HO} (h : SS H d l L ls) (hp : H p = none) : SS (upd H p o) d l L ls := ⟨h.rep.new hp, h.los.new hp⟩
theorem Rep.len {H : Hp} {d : Addr} {L : List Itm} (h : Rep H d L) : ∃ kvs, H d = some (.dT kvs) ∧ kvs.length = L.length := let ⟨kvs, h1, h2⟩ := h; ⟨kvs, h1, h2.len⟩
/-- looking up -/
theorem Rep.get {H : Hp} {d b : Addr} {L : List Itm} {k : K3} {v : Val} (h : Rep H d L) (hb : T3 H b k) (e : lk L k = some v) : ∃ a, DGet H d (.ref b) (some (.ref a)) ∧ T2 H a v := by
  obtain ⟨kvs, h1, h2⟩ := h
  obtain ⟨a, e1, e2⟩ := h2.some e
  refine ⟨a, ?_, e2⟩
  rw [← e1]
  exact DGet.t (k := tk k) h1 hb
theorem Rep.has {H : Hp} {d b : Addr} {L : List Itm} {k : K3} (h : Rep H d L) (hb : T3 H b k) : ∃ o, DGet H d (.ref b) o ∧ o.isSome = (lk L k).isSome := by
  obtain ⟨kvs, h1, h2⟩ := h
  exact ⟨_, DGet.t (k := tk k) h1 hb, h2.isSome⟩
theorem Rep.get? {H : Hp} {d b : Addr} {L : List Itm} {k : K3} (h : Rep H d L) (hb : T3 H b k) : ∃ o, DGet H d (.ref b) o ∧ ((o = none ∧ lk L k = none) ∨ ∃ a v, o = some (.ref a) ∧ lk L k = some v ∧ T2 H a v) := by
  cases e : lk L k with
  | none =>
    obtain ⟨o, h1, h2⟩ := h.has hb
    refine ⟨o, h1, .inl ⟨?_, rfl⟩⟩
    rw [e] at h2
    cases o with
    | none => rfl
    | some x => cases h2
  | some v =>
    obtain ⟨a, h1, h2⟩ := h.get hb e
    exact ⟨_, h1, .inr ⟨a, v, rfl, rfl, h2⟩⟩
theorem Rep.put {H : Hp} {d b a : Addr} {L : List Itm} {k : K3} {v : Val} (h : Rep H d L) (hb : T3 H b k) (ha : T2 H a v) (hl : L.length < 100000) :
    ∃ o, DPut H d (.ref b) (.ref a) (upd H d o) ∧ Rep (upd H d o) d (put L k v) ∧ (∀ xs, o ≠ .tup xs) ∧ (∀ xs, o ≠ .lst xs) ∧ TupK H (upd H d o) := by
  obtain ⟨kvs, h1, h2⟩ := h
  have hk : TupK H (upd H d (.dT (putK kvs (tk k) (.ref a)))) := TupK.set h1 fun xs z => nomatch z
  exact ⟨_, DPut.t (k := tk k) h1 hb (by rw [h2.len, sizeLine_eq]; omega), ⟨_, upd_same, (h2.put ha).keep hk⟩, fun xs z => (nomatch z), fun xs z => (nomatch z), hk⟩
theorem LsAt.other {H : Hp} {d l : Addr} {ls : List Loss} {o : HO} (h : LsAt H l ls) (hd : d ≠ l) (k : TupK H (upd H d o)) : LsAt (upd H d o) l ls := by
  obtain ⟨xs, h1, h2⟩ := h
  exact ⟨xs, by rw [upd_ne (fun z => hd z.symm)]; exact h1, Paired.mapP h2 fun _ _ r => r.keep k⟩
theorem SS.ne {H : Hp} {d l : Addr} {L : List Itm} {ls : List Loss} (h : SS H d l L ls) : d ≠ l := by
  obtain ⟨kvs, h1, _⟩ := h.rep
  obtain ⟨xs, h2, _⟩ := h.los
  exact ne_of h1 h2 fun z => nomatch z
theorem SS.put {H : Hp} {d l b a : Addr} {L : List Itm} {ls : List Loss} {k : K3} {v : Val} (h : SS H d l L ls) (hb : T3 H b k) (ha : T2 H a v) (hl : L.length < 100000) :
    ∃ H', DPut H d (.ref b) (.ref a) H' ∧ SS H' d l (K41.put L k v) ls ∧ Keep [d, l] H H' ∧ TupK H H' := by
  obtain ⟨o, h1, h2, h3, _, h4⟩ := h.rep.put hb ha hl
  exact ⟨_, h1, ⟨h2, h.los.other h.ne h4⟩, Keep.set List.mem_cons_self, h4⟩
theorem SS.app {H : Hp} {d l : Addr} {L : List Itm} {ls : List Loss} {m : Loss} {x : V} (h : SS H d l L ls) (hm : LossAt H x m) (hl : ls.length < 100000) :
    ∃ xs, H l = some (.lst xs) ∧ xs.length < sizeLine ∧ SS (upd H l (.lst (xs ++ [x]))) d l L (ls ++ [m]) ∧ Keep [d, l] H (upd H l (.lst (xs ++ [x]))) ∧ TupK H (upd H l (.lst (xs ++ [x]))) := by
  obtain ⟨xs, h1, h2⟩ := h.los
  have k : TupK H (upd H l (.lst (xs ++ [x]))) := TupK.set h1 fun _ z => nomatch z
  refine ⟨xs, h1, by rw [Paired.length h2, sizeLine_eq]; omega, ⟨h.rep.keep k fun o e => ?_, xs ++ [x], upd_same, Paired.snoc (Paired.mapP h2 fun _ _ r => r.keep k) (hm.keep k)⟩, Keep.set (by simp), k⟩
  rw [upd_ne h.ne]
  exact e
theorem SS.noTup {H : Hp} {d l : Addr} {L : List Itm} {ls : List Loss} (h : SS H d l L ls) : NoTup [d, l] H := by
  obtain ⟨kvs, h1, _⟩ := h.rep
  obtain ⟨xs, h2, _⟩ := h.los
  exact .cons h1 (fun _ z => nomatch z) (.one h2 fun _ z => nomatch z)
theorem SS.ty {K : PySem.W.Frag} {H : Hp} {d l : Addr} {L : List Itm} {ls : List Loss} (h : SS H d l L ls) : tyV K "list" (.ref l) H := let ⟨xs, h2, _⟩ := h.los; .inl ⟨rfl, xs, .inl (.inl h2)⟩
theorem LsAt.ty {K : PySem.W.Frag} {H : Hp} {l : Addr} {ls : List Loss} (h : LsAt H l ls) : tyV K "list" (.ref l) H := let ⟨xs, h2, _⟩ := h; .inl ⟨rfl, xs, .inl (.inl h2)⟩
theorem SS.there {H : Hp} {d l : Addr} {L : List Itm} {ls : List Loss} (h : SS H d l L ls) : ∀ a ∈ [d, l], H a ≠ none := by
  obtain ⟨kvs, h1, _⟩ := h.rep
  obtain ⟨xs, h2, _⟩ := h.los
  intro a m e
  rcases List.mem_cons.mp m with z | z
  · rw [z, h1] at e; cases e
  · rcases List.mem_cons.mp z with z | z
    · rw [z, h2] at e; cases e
    · cases z
/-- a key is taken out -/
theorem SS.del {H : Hp} {d l b : Addr} {L : List Itm} {ls : List Loss} {k : K3} {v : Val} (h : SS H d l L ls) (hb : T3 H b k) (e : lk L k = some v) :
    ∃ kvs x, H d = some (.dT kvs) ∧ H b = some (.tup ((tk k).map kV)) ∧ valV kvs (tk k) = some x ∧ SS (upd H d (.dT (dropK kvs (tk k)))) d l (K41.del L k) ls ∧ Keep [d, l] H (upd H d (.dT (dropK kvs (tk k)))) ∧ TupK H (upd H d (.dT (dropK kvs (tk k)))) := by
  obtain ⟨kvs, h1, h2⟩ := h.rep
  obtain ⟨a, e1, e2⟩ := h2.some e
  have hk : TupK H (upd H d (.dT (dropK kvs (tk k)))) := TupK.set h1 fun xs z => nomatch z
  exact ⟨kvs, _, h1, hb, e1, ⟨⟨_, upd_same, h2.del.keep hk⟩, h.los.other h.ne hk⟩, Keep.set List.mem_cons_self, hk⟩
/-! ### readings of triples and pairs -/
section
variable {K : PySem.W.Frag} {H : Hp} {b : Addr} {Q : VK}
theorem sqT_of {xs : List V} (h : H b = some (.tup xs)) : SqT K H b xs := .inl (.inl h)
theorem rx0 {k : K3} (h : T3 H b k) (q : Q (.int k.1) H) : rIxT K (.ref b) (.int 0) H Q := ⟨b, _, 0, .int k.1, rfl, rfl, sqT_of h, rfl, q⟩
theorem rx1 {k : K3} (h : T3 H b k) (q : Q (.int k.2.1) H) : rIxT K (.ref b) (.int 1) H Q := ⟨b, _, 1, .int k.2.1, rfl, rfl, sqT_of h, rfl, q⟩
theorem rx2 {k : K3} (h : T3 H b k) (q : Q (.int k.2.2) H) : rIxT K (.ref b) (.int 2) H Q := ⟨b, _, 2, .int k.2.2, rfl, rfl, sqT_of h, rfl, q⟩
theorem rv0 {v : Val} (h : T2 H b v) (q : Q (.int v.1) H) : rIxT K (.ref b) (.int 0) H Q := ⟨b, _, 0, .int v.1, rfl, rfl, sqT_of h, rfl, q⟩
theorem rv1 {v : Val} (h : T2 H b v) (q : Q (.int v.2) H) : rIxT K (.ref b) (.int 1) H Q := ⟨b, _, 1, .int v.2, rfl, rfl, sqT_of h, rfl, q⟩
end
/-! ### loops -/
/-- a dict that may be locked -/
def RepR (H : Hp) (d : Addr) (L : List Itm) : Prop := ∃ kvs, Rd H d (.dT kvs) ∧ Ents H kvs L
theorem Rep.r {H : Hp} {d : Addr} {L : List Itm} (h : Rep H d L) : RepR H d L := let ⟨kvs, h1, h2⟩ := h; ⟨kvs, .inl h1, h2⟩
/-- for key in sorted(found) -/
theorem for_sorted {K : PySem.W.Frag} {te : TA} {g : TG} {tb : TS} {D : Ends} {σ : L2.St} {H : Hp} {d : Addr} {L : List Itm} {S : List Addr} (rep : RepR H d L) (ht : ∀ Q, Q [.ref d] H → te σ H Q)
    (hS : ∀ a ∈ S, H a ≠ none) (nt : NoTup S H) (Pv : Nat → L2.St → Hp → Prop) (h0 : ∀ p o, H p = none → Pv 0 σ (upd H p o))
    (hs : ∀ G i q b σ H1, L[i]? = some q → Pv i σ H1 → Keep S H G → Keep S G H1 → T3 H1 b q.1 → g (.ref b) σ H1 fun σ2 H2 => tb { D with nx := fun σ3 H3 => Keep S G H3 ∧ Pv (i + 1) σ3 H3, ct := fun σ3 H3 => Keep S G H3 ∧ Pv (i + 1) σ3 H3, bk := D.nx } σ2 H2)
    (hd : ∀ σ H1, Keep S H H1 → Pv L.length σ H1 → D.nx σ H1) : tFor (iList K (tCB rSortD te)) g tb D σ H := by
  obtain ⟨kvs, h1, h2⟩ := rep
  obtain ⟨ks, e1, e2⟩ := h2.keys
  refine ht _ ⟨d, kvs, ks, rfl, h1, e1, fun p bs hp pm pw hb => ?_⟩
  have hk : bs.map (·.2) = L.map (·.1) := keys_sorted h2.1 (pm.trans e2) pw
  have hl : bs.length = L.length := by
    have := congrArg List.length hk
    simpa using this
  have hpS : p ∉ S := fun m => hS p m hp
  have h1k : Keep S H (upd H p (.lst (bs.map fun x => V.ref x.1))) := Keep.new hp
  refine ⟨p, rfl, ⟨_, .inl (.inl upd_same)⟩, ?_⟩
  refine for_it (n := L.length) (G := fun H1 => SqL K H1 p (bs.map fun x => V.ref x.1)) (Y := YAt (bs.map fun x => V.ref x.1)) ?_ (fun i σ H1 => Keep S (upd H p (.lst (bs.map fun x => V.ref x.1))) H1 ∧ Pv i σ H1) ⟨Keep.refl S _, h0 _ _ hp⟩ (fun i σ H1 _ h => .inl (.inl (h.1.at upd_same hpS))) ?_ ?_
  · have := walk_list (K := K) (a := p) (xs := bs.map fun x => V.ref x.1)
    rw [List.length_map, hl] at this
    exact this
  · rintro i x σ1 H1 H2 hi ⟨k1, pv⟩ ⟨rfl, hx⟩
    rw [List.getElem?_map] at hx
    cases e : bs[i]? with
    | none => rw [e] at hx; cases hx
    | some bk =>
      rw [e] at hx
      obtain rfl := Option.some.inj hx
      obtain ⟨q, hq⟩ : ∃ q, L[i]? = some q := ⟨L[i], List.getElem?_eq_getElem hi⟩
      have ek : bk.2 = q.1 := by
        have := congrArg (fun l => l[i]?) hk
        simp only [List.getElem?_map, e, hq] at this
        exact Option.some.inj this
      have t3 : T3 H bk.1 q.1 := by
        have := hb bk (List.mem_of_getElem? e)
        rw [ek] at this
        exact this
      have k2 : Keep S H H2 := h1k.trans k1
      exact hs _ i q bk.1 σ1 H2 hq pv h1k k1 (t3.keep (k2.tup nt))
  · rintro σ1 H1 ⟨k1, pv⟩
    exact hd σ1 H1 (h1k.trans k1) pv
end K41

/-! The walks of mending: root, items, entries. -/
namespace K41
open PySem PySem.Spec PyProof.Rows L2 TL
/-! ### a filter, step by step -/
def Fi (keep : Itm → Bool) (L : List Itm) (i : Nat) : List Itm := (L.take i).filter keep ++ L.drop i
def Fx (keep : Itm → Bool) (L : List Itm) (i : Nat) : List Itm := (L.take i).filter fun p => !keep p
theorem fi_zero (keep : Itm → Bool) (L : List Itm) : Fi keep L 0 = L := rfl
theorem fi_all (keep : Itm → Bool) (L : List Itm) : Fi keep L L.length = L.filter keep := by unfold Fi; simp
theorem fx_all (keep : Itm → Bool) (L : List Itm) : Fx keep L L.length = L.filter fun p => !keep p := by unfold Fx; simp
theorem take_snoc {L : List Itm} {i : Nat} {q : Itm} (h : L[i]? = some q) : L.take (i + 1) = L.take i ++ [q] := by rw [List.take_add_one, h]; rfl
theorem drop_cons' {L : List Itm} {i : Nat} {q : Itm} (h : L[i]? = some q) : L.drop i = q :: L.drop (i + 1) := by
  have hi : i < L.length := (List.getElem?_eq_some_iff.mp h).1
  rw [List.drop_eq_getElem_cons hi]
  congr 1
  exact (List.getElem?_eq_some_iff.mp h).2
theorem fi_keep {keep : Itm → Bool} {L : List Itm} {i : Nat} {q : Itm} (h : L[i]? = some q) (k : keep q = true) : Fi keep L (i + 1) = Fi keep L i := by
  unfold Fi
  rw [take_snoc h, drop_cons' h, List.filter_append, List.filter_cons_of_pos k]
  simp
theorem fx_keep {keep : Itm → Bool} {L : List Itm} {i : Nat} {q : Itm} (h : L[i]? = some q) (k : keep q = true) : Fx keep L (i + 1) = Fx keep L i := by
  unfold Fx
  rw [take_snoc h, List.filter_append, List.filter_cons_of_neg (by simp [k])]
  simp
theorem fx_drop {keep : Itm → Bool} {L : List Itm} {i : Nat} {q : Itm} (h : L[i]? = some q) (k : keep q = false) : Fx keep L (i + 1) = Fx keep L i ++ [q] := by
  unfold Fx
  rw [take_snoc h, List.filter_append, List.filter_cons_of_pos (by simp [k])]
  simp
theorem fi_sub (keep : Itm → Bool) (L : List Itm) (i : Nat) : (Fi keep L i).Sublist L := by
  unfold Fi
  have := (List.filter_sublist (p := keep) (l := L.take i)).append (List.Sublist.refl (L.drop i))
  rw [List.take_append_drop] at this
  exact this
theorem fi_mem_at {keep : Itm → Bool} {L : List Itm} {i : Nat} {q : Itm} (h : L[i]? = some q) : q ∈ Fi keep L i := by
  unfold Fi
  rw [drop_cons' h]
  simp
theorem fi_mem_keep {keep : Itm → Bool} {L : List Itm} {i : Nat} {q : Itm} (h : q ∈ L) (k : keep q = true) : q ∈ Fi keep L i := by
  unfold Fi
  rw [← List.take_append_drop i L] at h
  rcases List.mem_append.mp h with m | m
  · exact List.mem_append_left _ (List.mem_filter.mpr ⟨m, k⟩)
  · exact List.mem_append_right _ m
theorem fi_drop {keep : Itm → Bool} {L : List Itm} {i : Nat} {q : Itm} (s : Srt L) (h : L[i]? = some q) (k : keep q = false) : Fi keep L (i + 1) = del (Fi keep L i) q.1 := by
  refine srt_ext (srt_sub s (fi_sub _ _ _)) (srt_del (srt_sub s (fi_sub _ _ _)) _) fun p => ?_
  have e : L = L.take i ++ q :: L.drop (i + 1) := by rw [← drop_cons' h, List.take_append_drop]
  have s' := s
  rw [e] at s'
  unfold Srt at s'
  rw [List.pairwise_append] at s'
  obtain ⟨s1, s2, s3⟩ := s'
  have n1 : ∀ p ∈ L.take i, p.1 ≠ q.1 := fun p m z => by
    have := s3 p m q List.mem_cons_self
    rw [z] at this
    exact ltK_irrefl _ this
  have n2 : ∀ p ∈ L.drop (i + 1), p.1 ≠ q.1 := fun p m z => by
    have := (List.pairwise_cons.mp s2).1 p m
    rw [z] at this
    exact ltK_irrefl _ this
  rw [mem_del]
  unfold Fi
  rw [take_snoc h, drop_cons' h, List.filter_append, List.filter_cons_of_neg (by simp [k])]
  simp only [List.filter_nil, List.append_nil, List.mem_append, List.mem_cons, List.mem_filter]
  constructor
  · rintro (⟨m, z⟩ | m)
    · exact ⟨.inl ⟨m, z⟩, n1 p m⟩
    · exact ⟨.inr (.inr m), n2 p m⟩
  · rintro ⟨⟨m, z⟩ | z | m, ne⟩
    · exact .inl ⟨m, z⟩
    · rw [z] at ne; exact absurd rfl ne
    · exact .inr m
theorem fi_node {keep : Itm → Bool} {L : List Itm} (s : Srt L) (i : Nat) {k : K3} (h : ∀ v, (k, v) ∈ L → keep (k, v) = true) : lk (Fi keep L i) k = lk L k := by
  have s' : Srt (Fi keep L i) := srt_sub s (fi_sub _ _ _)
  cases e : lk L k with
  | none =>
    rw [lk_none] at *
    exact fun p m => e p ((fi_sub _ _ _).subset m)
  | some v =>
    exact lk_of_mem s' (fi_mem_keep (lk_some_mem e) (h v (lk_some_mem e)))
theorem keepI_node {L : List Itm} {a : Int} {v : Val} (s : Srt L) (h : (nk a, v) ∈ L) : keepI L (nk a, v) = true := by
  unfold keepI
  have : (lk L (nk a)).isSome = true := by rw [lk_of_mem s h]; rfl
  simp only [Bool.or_eq_true]
  right
  exact this
theorem keepI_F {L : List Itm} {q : Itm} (h : q.1.2.1 ≠ 4) (h2 : (lk L (nk q.1.1)).isSome = false) : keepI L q = false := by
  unfold keepI
  rw [decide_eq_false h, h2]
  rfl
theorem keepI_T {L : List Itm} {q : Itm} (h : q.1.2.1 = 4 ∨ (lk L (nk q.1.1)).isSome = true) : keepI L q = true := by
  unfold keepI
  rcases h with h | h
  · rw [decide_eq_true h]; rfl
  · rw [h, Bool.or_true]
theorem keepE_F {L : List Itm} {q : Itm} (h : q.1.2.1 = 1) (h2 : (lk L (nk q.2.1)).isSome = false) : keepE L q = false := by
  unfold keepE
  rw [decide_eq_true h, h2]
  rfl
theorem keepE_T {L : List Itm} {q : Itm} (h : q.1.2.1 ≠ 1 ∨ (lk L (nk q.2.1)).isSome = true) : keepE L q = true := by
  unfold keepE
  rcases h with h | h
  · rw [decide_eq_false h]; rfl
  · rw [h, Bool.or_true]
theorem keepE_node {L : List Itm} {a : Int} {v : Val} : keepE L (nk a, v) = true := rfl
theorem len_fx (keep : Itm → Bool) (L : List Itm) (i : Nat) : (Fx keep L i).length ≤ L.length := by
  unfold Fx
  have := List.length_filter_le (fun p => !keep p) (L.take i)
  rw [List.length_take] at this
  omega
theorem len1v {a : V} : [a].length ≤ sizeLine := by rw [sizeLine_eq]; simp
section
variable {P : Program} {w : World} {K : PySem.W.Frag} {mg : Str → Option Value} {base : Heap}
local macro_rules | `(tactic| walk_at "rd") => `(tactic| repeat (first | refine ⟨_, rfl, ?_⟩ | refine ⟨_, _, rfl, rfl, ?_⟩ | refine ⟨_, _, rfl, ?_⟩ | refine ⟨_, _, _, rfl, ?_⟩ | refine ⟨_, _, _, _, rfl, ?_⟩ | refine ⟨rfl, ?_⟩ | refine ⟨(by show (0 : Int) < _; decide), ?_⟩ | refine ⟨cdw (by decide) (by decide), ?_⟩ | refine ⟨Or.inl (by decide), ?_⟩ | refine ⟨Or.inr (by decide), ?_⟩ | refine And.intro len4v ?_ | refine And.intro len3v ?_ | refine And.intro len2v ?_ | refine And.intro len1v ?_ | refine And.intro (by assumption) ?_ | refine And.intro (SS.ty (by assumption)) ?_ | refine ⟨_, _, _, _, rfl, rfl, sqT_of (by assumption), (by rfl), ?_⟩ | refine ⟨_, _, _, rfl, rfl, (by assumption), (by assumption), ?_⟩ | refine ⟨_, _, rfl, (by assumption), ?_⟩ | refine ⟨_, _, _, _, _, rfl, (by assumption), rfl, (by assumption), (by assumption), ?_⟩))
/-- a step of mending, as its callers see it -/
def spSt (f : List Itm → List Itm) (g : List Itm → List Loss) (pre : List Itm → Prop) : Sp := fun vs H Q _ => ∃ d l L ls, vs = [.ref d, .ref l] ∧ SS H d l L ls ∧ L.length < 30000 ∧ ls.length < 30000 ∧ pre L ∧
  ∀ H', Keep [d, l] H H' → SS H' d l (f L) (ls ++ g L) → Q .non H'
abbrev CNodeKey (P : Program) (w : World) (K : PySem.W.Frag) (mg : Str → Option Value) (base : Heap) : Prop := Cl P w K mg base 1 "node_key" ["n"] spNodeKey
abbrev CPack (P : Program) (w : World) (K : PySem.W.Frag) (mg : Str → Option Value) (base : Heap) : Prop := Cl P w K mg base 1 "pack_node" ["kind", "owner", "mode", "links"] spPack
abbrev CUnpack (P : Program) (w : World) (K : PySem.W.Frag) (mg : Str → Option Value) (base : Heap) : Prop := Cl P w K mg base 1 "unpack_node" ["packed"] spUnpack
abbrev CEntryKey (P : Program) (w : World) (K : PySem.W.Frag) (mg : Str → Option Value) (base : Heap) : Prop := Cl P w K mg base 3 "entry_key" ["n", "name"] spEntryKey
abbrev CChargeKey (P : Program) (w : World) (K : PySem.W.Frag) (mg : Str → Option Value) (base : Heap) : Prop := Cl P w K mg base 1 "charge_key" ["owner"] spChargeKey
abbrev s__mend_root : Stmt := top 29
theorem sc__mend_root : FnScope ["found", "losses", "key"] ["found", "losses"] (defScope s__mend_root) := ⟨rfl, rfl, rfl, by decide +kernel, rfl, by decide +kernel, by decide +kernel⟩
theorem ok__mend_root {f : Addr} {fd : FuncData} (F : Fun K "_mend_root" "_mend_root" s__mend_root f fd) (T : Txt mg) (C_node_key : CNodeKey P w K mg base) (C_pack_node : CPack P w K mg base) :
    FnOk P w K mg base CX0 2 f fd ["found", "losses"] (spSt rootS rootLs fun _ => True) := by
  refine F.ok sc__mend_root (fun vs H Q E h => ?_) (fun cdv A outer s H vs Q E hr h => ?_)
  · obtain ⟨_, _, _, _, rfl, _⟩ := h
    rfl
  · obtain ⟨d, l, L, ls, rfl, ss, hL, hl, _, q⟩ := h
    refine ⟨_, (pss_cons (ps_set (i := 2) sc__mend_root.nd rfl (Or.inl rfl) (pe_own C_node_key hr (by decide) rfl (pa_cons (pe_gint rfl T.c__ROOT) pa_nil)))
  (pss_one (ps_if (pt_cmp (pc_dnotin (hu_of hr) (pv 2) (pv 0)))
  (pss_cons (ps_dput (hu_of hr) (pv 0) (pv 2) (pe_tup (pa_cons (pe_own C_pack_node hr (by decide) rfl (pa_cons (pe_gint rfl T.c__FOLDER) (pa_cons pe_int (pa_cons (pe_gint rfl T.c__ROOT_MODE) (pa_cons pe_int pa_nil))))) (pa_cons (pe_gint rfl T.c__ROOT) pa_nil))) rfl)
  (pss_one (ps_expr (pe_bm PySem.F.plainAttrs_list PySem.F.slot_list_append PySem.F.type_list_append mt_append (pv 1) (pa_cons (pe_tup (pa_cons pe_str pa_nil)) pa_nil)))))
  pss_nil))), ?_⟩
    walk_at "rd"
    intro p hp
    have ss1 := ss.new (o := .tup (tv (nk 1))) hp
    have hb : T3 (upd H p (.tup (tv (nk 1)))) p (nk 1) := T3.at
    obtain ⟨o, g1, g2⟩ := ss1.rep.has hb
    walk_at "rd"
    refine bI ?_ ?_ <;> intro hc
    · have hn : (lk L (nk 1)).isSome = false := by rw [← g2]; simpa using hc
      walk_at "rd"
      intro p2 hp2
      have ss2 := ss1.new (o := .tup [.int 128123, .int 1]) hp2
      obtain ⟨H3, g3, ss3, k3, t3⟩ := ss2.put (hb.new hp2) (T2.at (a := 128123) (b := 1)) (by omega)
      walk_at "rd"
      intro p4 hp4
      have ss4 := ss3.new (o := .tup [.str "root"]) hp4
      obtain ⟨xs, a1, a2, s5, k5, t5⟩ := ss4.app (m := .root) ⟨p4, rfl, upd_same⟩ (by omega)
      walk_at "rd"
      refine q _ ((((Keep.new hp).trans (Keep.new hp2)).trans k3).trans ((Keep.new hp4).trans k5)) ?_
      unfold rootS rootLs
      rw [if_neg (by rw [hn]; exact Bool.false_ne_true), if_neg (by rw [hn]; exact Bool.false_ne_true)]
      exact s5
    · have hn : (lk L (nk 1)).isSome = true := by rw [← g2]; simpa using hc
      refine q _ (Keep.new hp) ?_
      unfold rootS rootLs
      rw [if_pos hn, if_pos hn, List.append_nil]
      exact ss1
abbrev s__remove_items : Stmt := top 30
theorem sc__remove_items : FnScope ["found", "losses", "key"] ["found", "losses"] (defScope s__remove_items) := ⟨rfl, rfl, rfl, by decide +kernel, rfl, by decide +kernel, by decide +kernel⟩
theorem ok__remove_items {f : Addr} {fd : FuncData} (F : Fun K "_remove_items" "_remove_items" s__remove_items f fd) (T : Txt mg) (C_node_key : CNodeKey P w K mg base) :
    FnOk P w K mg base CX0 2 f fd ["found", "losses"] (spSt itemS itemLs fun _ => True) := by
  refine F.ok sc__remove_items (fun vs H Q E h => ?_) (fun cdv A outer s H vs Q E hr h => ?_)
  · obtain ⟨_, _, _, _, rfl, _⟩ := h
    rfl
  · obtain ⟨d, l, L, ls, rfl, ss, hL, hl, _, q⟩ := h
    refine ⟨_, (pss_one (ps_for PassesOwn.never rfl (pi_list (pe_callB (cr_sortD rfl) (by rfl) T.b_sorted (by decide +kernel) (pa_cons (pv 0) pa_nil))) (pg_name (i := 2) sc__remove_items.nd rfl (Or.inl rfl))
  (pss_one (ps_if (PW.pt (pw_and (pt_cmpR op_ne (pe_ix ix_tup (pv 2) pe_int (fun _ _ => rfl)) (pe_gint rfl T.c_CHARGE_mending) (nomark _)) (pw_and1 (pt_cmp (pc_dnotin (hu_of hr) (pe_own C_node_key hr (by decide) rfl (pa_cons (pe_ix ix_tup (pv 2) pe_int (fun _ _ => rfl)) pa_nil)) (pv 0))))))
  (pss_cons (ps_ddelT (hu_of hr) (pv 0) (pv 2))
  (pss_one (ps_expr (pe_bm PySem.F.plainAttrs_list PySem.F.slot_list_append PySem.F.type_list_append mt_append (pv 1) (pa_cons (pe_tup (pa_cons pe_str (pa_cons (pv 2) pa_nil))) pa_nil)))))
  pss_nil)))), ?_⟩
    have sL := ss.rep.srt
    refine for_sorted ss.rep.r (fun Q q => ⟨_, rfl, q⟩) (S := [d, l]) ss.there ss.noTup (fun i σ H1 => (∃ x, σ = [some (.ref d), some (.ref l), x]) ∧ SS H1 d l (Fi (keepI L) L i) (ls ++ (Fx (keepI L) L i).map fun p => .item p.1)) ?_ ?_ ?_
    · intro p o hp
      refine ⟨⟨_, rfl⟩, ?_⟩
      have e : (Fx (keepI L) L 0).map (fun p => Loss.item p.1) = [] := rfl
      rw [fi_zero, e, List.append_nil]
      exact ss.new hp
    · rintro G i q b σ H1 hq ⟨⟨x0, rfl⟩, s1⟩ kG k1 hb
      have eF := fi_node sL i (k := nk q.1.1) fun v h => keepI_node sL h
      have hlF : (Fi (keepI L) L i).length < 30000 := Nat.lt_of_le_of_lt (fi_sub _ _ _).length_le hL
      have hlx := len_fx (keepI L) L i
      have stay : keepI L q = true → SS H1 d l (Fi (keepI L) L (i + 1)) (ls ++ (Fx (keepI L) L (i + 1)).map fun p => .item p.1) := fun hk => by
        rw [fi_keep hq hk, fx_keep hq hk]
        exact s1
      walk_at "rd"
      refine bI ?_ ?_ <;> intro h4
      · walk_at "rd"
        intro p hp
        have s2 := s1.new (o := .tup (tv (nk q.1.1))) hp
        obtain ⟨o, g1, g2⟩ := s2.rep.has (k := nk q.1.1) T3.at
        walk_at "rd"
        refine bI ?_ ?_ <;> intro hc
        · have hk : keepI L q = false := keepI_F (by simpa using h4) (by rw [← eF, ← g2]; simpa using hc)
          obtain ⟨kvs, x, g3, g4, g5, s3, k3, t3⟩ := s2.del (hb.new hp) (lk_of_mem s2.rep.srt (fi_mem_at hq))
          walk_at "rd"
          intro p4 hp4
          have s4 := s3.new (o := .tup [.str "item", .ref b]) hp4
          obtain ⟨xs, a1, a2, s5, k5, t5⟩ := s4.app (m := .item q.1) (x := .ref p4) ⟨p4, b, rfl, upd_same, ((hb.new hp).keep t3).new hp4⟩ (by rw [List.length_append, List.length_map]; omega)
          walk_at "rd"
          refine ⟨((((k1.trans (Keep.new hp)).trans k3).trans (Keep.new hp4)).trans k5), ⟨_, rfl⟩, ?_⟩
          rw [fi_drop sL hq hk, fx_drop hq hk, List.map_append, ← List.append_assoc]
          exact s5
        · have hk : keepI L q = true := keepI_T (.inr (by rw [← eF, ← g2]; simpa using hc))
          exact ⟨k1.trans (Keep.new hp), ⟨_, rfl⟩, (stay hk).new hp⟩
      · have hk : keepI L q = true := keepI_T (.inl (by simpa using h4))
        exact ⟨k1, ⟨_, rfl⟩, stay hk⟩
    · rintro σ H1 k1 ⟨_, s1⟩
      rw [fi_all, fx_all] at s1
      exact q _ k1 s1
abbrev s__remove_entries : Stmt := top 31
theorem sc__remove_entries : FnScope ["found", "losses", "key", "child"] ["found", "losses"] (defScope s__remove_entries) := ⟨rfl, rfl, rfl, by decide +kernel, rfl, by decide +kernel, by decide +kernel⟩
theorem ok__remove_entries {f : Addr} {fd : FuncData} (F : Fun K "_remove_entries" "_remove_entries" s__remove_entries f fd) (T : Txt mg) (C_node_key : CNodeKey P w K mg base) :
    FnOk P w K mg base CX0 2 f fd ["found", "losses"] (spSt entS entLs fun _ => True) := by
  refine F.ok sc__remove_entries (fun vs H Q E h => ?_) (fun cdv A outer s H vs Q E hr h => ?_)
  · obtain ⟨_, _, _, _, rfl, _⟩ := h
    rfl
  · obtain ⟨d, l, L, ls, rfl, ss, hL, hl, _, q⟩ := h
    refine ⟨_, (pss_one (ps_for PassesOwn.never rfl (pi_list (pe_callB (cr_sortD rfl) (by rfl) T.b_sorted (by decide +kernel) (pa_cons (pv 0) pa_nil))) (pg_name (i := 2) sc__remove_entries.nd rfl (Or.inl rfl))
  (pss_one (ps_if (pt_cmpR op_eq (pe_ix ix_tup (pv 2) pe_int (fun _ _ => rfl)) (pe_gint rfl T.c_ENTRY_mending) (nomark _))
  (pss_cons (ps_set (i := 3) sc__remove_entries.nd rfl (Or.inl rfl) (pe_ix ix_tup (pe_dget (hu_of hr) (pv 0) (pv 2) (fun _ _ => rfl)) pe_int (fun _ _ => rfl)))
  (pss_one (ps_if (pt_cmp (pc_dnotin (hu_of hr) (pe_own C_node_key hr (by decide) rfl (pa_cons (pv 3) pa_nil)) (pv 0)))
  (pss_cons (ps_ddelT (hu_of hr) (pv 0) (pv 2))
  (pss_one (ps_expr (pe_bm PySem.F.plainAttrs_list PySem.F.slot_list_append PySem.F.type_list_append mt_append (pv 1) (pa_cons (pe_tup (pa_cons pe_str (pa_cons (pv 2) (pa_cons (pv 3) pa_nil)))) pa_nil)))))
  pss_nil)))
  pss_nil)))), ?_⟩
    have sL := ss.rep.srt
    refine for_sorted ss.rep.r (fun Q q => ⟨_, rfl, q⟩) (S := [d, l]) ss.there ss.noTup (fun i σ H1 => (∃ x y, σ = [some (.ref d), some (.ref l), x, y]) ∧ SS H1 d l (Fi (keepE L) L i) (ls ++ (Fx (keepE L) L i).map fun p => .entry p.1 p.2.1)) ?_ ?_ ?_
    · intro p o hp
      refine ⟨⟨_, _, rfl⟩, ?_⟩
      have e : (Fx (keepE L) L 0).map (fun p => Loss.entry p.1 p.2.1) = [] := rfl
      rw [fi_zero, e, List.append_nil]
      exact ss.new hp
    · rintro G i q b σ H1 hq ⟨⟨x0, y0, rfl⟩, s1⟩ kG k1 hb
      have eF := fi_node sL i (k := nk q.2.1) fun v h => keepE_node (L := L) (v := v)
      have hlF : (Fi (keepE L) L i).length < 30000 := Nat.lt_of_le_of_lt (fi_sub _ _ _).length_le hL
      have hlx := len_fx (keepE L) L i
      have stay : keepE L q = true → SS H1 d l (Fi (keepE L) L (i + 1)) (ls ++ (Fx (keepE L) L (i + 1)).map fun p => .entry p.1 p.2.1) := fun hk => by
        rw [fi_keep hq hk, fx_keep hq hk]
        exact s1
      walk_at "rd"
      refine bI ?_ ?_ <;> intro h4
      · obtain ⟨a, ga, ta⟩ := s1.rep.get hb (lk_of_mem s1.rep.srt (fi_mem_at hq))
        walk_at "rd"
        intro p hp
        have s2 := s1.new (o := .tup (tv (nk q.2.1))) hp
        obtain ⟨o, g1, g2⟩ := s2.rep.has (k := nk q.2.1) T3.at
        walk_at "rd"
        refine bI ?_ ?_ <;> intro hc
        · have hk : keepE L q = false := keepE_F (by simpa using h4) (by rw [← eF, ← g2]; simpa using hc)
          obtain ⟨kvs, x, g3, g4, g5, s3, k3, t3⟩ := s2.del (hb.new hp) (lk_of_mem s2.rep.srt (fi_mem_at hq))
          walk_at "rd"
          intro p4 hp4
          have s4 := s3.new (o := .tup [.str "entry", .ref b, .int q.2.1]) hp4
          obtain ⟨xs, a1, a2, s5, k5, t5⟩ := s4.app (m := .entry q.1 q.2.1) (x := .ref p4) ⟨p4, b, rfl, upd_same, ((hb.new hp).keep t3).new hp4⟩ (by rw [List.length_append, List.length_map]; omega)
          walk_at "rd"
          refine ⟨((((k1.trans (Keep.new hp)).trans k3).trans (Keep.new hp4)).trans k5), ⟨_, _, rfl⟩, ?_⟩
          rw [fi_drop sL hq hk, fx_drop hq hk, List.map_append, ← List.append_assoc]
          exact s5
        · have hk : keepE L q = true := keepE_T (.inr (by rw [← eF, ← g2]; simpa using hc))
          exact ⟨k1.trans (Keep.new hp), ⟨_, _, rfl⟩, (stay hk).new hp⟩
      · have hk : keepE L q = true := keepE_T (.inl (by simpa using h4))
        exact ⟨k1, ⟨_, _, rfl⟩, stay hk⟩
    · rintro σ H1 k1 ⟨_, s1⟩
      rw [fi_all, fx_all] at s1
      exact q _ k1 s1
end
end K41

/-! Dicts with int keys; loops over a locked dict; the walks of entries, nodes, links. -/
namespace K41
open PySem PySem.Spec PyProof.Rows L2 TL
/-- a dict of ints: what stands for each -/
def IntD (H : Hp) (c : Addr) (g : Int → Option V) (B : Nat) : Prop := ∃ kvs : List (L2.Key × V), H c = some (.dK kvs) ∧ (∀ n, valV kvs (.inl n) = g n) ∧ kvs.length ≤ B ∧ ∃ ks : List Int, kvs.map (·.1) = ks.map Sum.inl ∧ ks.Nodup
theorem IntD.new {H : Hp} {c p : Addr} {g : Int → Option V} {B : Nat} {o : HO} (h : IntD H c g B) (hp : H p = none) : IntD (upd H p o) c g B := by
  obtain ⟨kvs, h1, h2⟩ := h
  exact ⟨kvs, by rw [upd_ne (ne_of_none h1 hp)]; exact h1, h2⟩
theorem IntD.ne {H : Hp} {c p : Addr} {g : Int → Option V} {B : Nat} {o : HO} (h : IntD H c g B) (hp : c ≠ p) : IntD (upd H p o) c g B := by
  obtain ⟨kvs, h1, h2⟩ := h
  exact ⟨kvs, by rw [upd_ne hp]; exact h1, h2⟩
theorem IntD.keep {H H' : Hp} {c : Addr} {S : List Addr} {g : Int → Option V} {B : Nat} (h : IntD H c g B) (k : Keep S H H') (n : c ∉ S) : IntD H' c g B := by
  obtain ⟨kvs, h1, h2⟩ := h
  exact ⟨kvs, k.at h1 n, h2⟩
theorem IntD.nil {H : Hp} {p : Addr} (B : Nat) : IntD (upd H p (.dK [])) p (fun _ => none) B := ⟨[], upd_same, fun _ => rfl, Nat.zero_le _, [], rfl, List.nodup_nil⟩
theorem IntD.get {H : Hp} {c : Addr} {g : Int → Option V} {B : Nat} (h : IntD H c g B) (n : Int) : DGet H c (.int n) (g n) := by
  obtain ⟨kvs, h1, h2, _⟩ := h
  rw [← h2 n]
  exact DGet.k (k := Sum.inl n) h1
theorem IntD.isD {H : Hp} {c : Addr} {g : Int → Option V} {B : Nat} (h : IntD H c g B) : IsD H c := let ⟨kvs, h1, _⟩ := h; .inl ⟨kvs, .inl h1⟩
theorem IntD.put {H : Hp} {c : Addr} {g : Int → Option V} {B : Nat} (h : IntD H c g B) (n : Int) (v : V) (hB : B < 100000) :
    ∃ o, DPut H c (.int n) v (upd H c o) ∧ IntD (upd H c o) c (fun m => if m = n then some v else g m) (B + 1) ∧ TupK H (upd H c o) := by
  obtain ⟨kvs, h1, h2, h3, ks, h4, h5⟩ := h
  refine ⟨_, DPut.k (k := Sum.inl n) h1 (by rw [sizeLine_eq]; omega), ⟨_, upd_same, fun m => ?_, ?_, ?_⟩, TupK.set h1 fun _ z => nomatch z⟩
  · rw [valV_put, h2]
    by_cases e : m = n
    · rw [if_pos (by rw [e])]; exact (if_pos e).symm
    · rw [if_neg fun z => e (Sum.inl.inj z)]; exact (if_neg e).symm
  · cases e : valV kvs (Sum.inl n) with
    | none =>
      rw [putK_new _ e, List.length_append]
      simp
      omega
    | some u =>
      have : (putK kvs (Sum.inl n) v).length = kvs.length := by
        unfold putK
        rw [if_pos (by rw [valV_any, e]; rfl), List.length_map]
      omega
  · cases e : valV kvs (Sum.inl n) with
    | none =>
      refine ⟨ks ++ [n], by rw [putK_new _ e, List.map_append, h4, List.map_append]; rfl, ?_⟩
      have hn : n ∉ ks := fun m => valV_not e (by rw [h4]; exact List.mem_map_of_mem m)
      rw [List.nodup_append]
      refine ⟨h5, by simp, fun a ha b hb => ?_⟩
      rw [List.mem_singleton] at hb
      rw [hb]
      rintro rfl
      exact hn ha
    | some u =>
      refine ⟨ks, ?_, h5⟩
      unfold putK
      rw [if_pos (by rw [valV_any, e]; rfl), List.map_map, ← h4]
      refine List.map_congr_left fun kv _ => ?_
      show (if kv.1 = Sum.inl n then (kv.1, v) else kv).1 = kv.1
      split <;> rfl
theorem IntD.mono {H : Hp} {c : Addr} {g g' : Int → Option V} {B B' : Nat} (h : IntD H c g B) (e : ∀ n, g n = g' n) (l : B ≤ B') : IntD H c g' B' := by
  obtain ⟨kvs, h1, h2, h3, h4⟩ := h
  exact ⟨kvs, h1, fun n => (h2 n).trans (e n), Nat.le_trans h3 l, h4⟩
/-- counts: what is 0 is not there -/
def cntV (f : Int → Nat) (n : Int) : Option V := if f n = 0 then none else some (.int (f n : Nat))
theorem cntV_get (f : Int → Nat) (n : Int) : (cntV f n).getD (.int 0) = .int (f n : Nat) := by
  unfold cntV
  split
  · rename_i e; rw [e]; rfl
  · rfl
theorem Rep.isD {H : Hp} {d : Addr} {L : List Itm} (h : Rep H d L) : IsD H d := let ⟨kvs, h1, _⟩ := h; .inr ⟨kvs, .inl h1⟩
theorem IntD.getZ {H : Hp} {c : Addr} {f : Int → Nat} {B : Nat} (h : IntD H c (cntV f) B) (n : Int) : ∃ o, DGet H c (.int n) o ∧ o.getD (.int 0) = .int (f n : Nat) := ⟨_, h.get n, cntV_get f n⟩
theorem RepR.get {H : Hp} {d b : Addr} {L : List Itm} {k : K3} {v : Val} (h : RepR H d L) (hb : T3 H b k) (e : lk L k = some v) : ∃ a, DGet H d (.ref b) (some (.ref a)) ∧ T2 H a v := by
  obtain ⟨kvs, h1, h2⟩ := h
  obtain ⟨a, e1, e2⟩ := h2.some e
  refine ⟨a, ?_, e2⟩
  rw [← e1]
  exact .inr ⟨kvs, tk k, b, h1, rfl, hb, rfl⟩
theorem RepR.keep {H H' : Hp} {d : Addr} {L : List Itm} (k : TupK H H') (h : RepR H d L) (e : ∀ o, H d = some o → H' d = some o) : RepR H' d L := by
  obtain ⟨kvs, h1, h2⟩ := h
  refine ⟨kvs, ?_, h2.keep k⟩
  rcases h1 with h1 | ⟨o, h1⟩
  · exact .inl (e _ h1)
  · exact .inr ⟨o, e _ h1⟩
theorem Paired.getR {α β : Type} {F : α → β → Prop} : ∀ {l : List α} {m : List β}, Paired F l m → ∀ {i : Nat} {x : α} {y : β}, l[i]? = some x → m[i]? = some y → F x y := fun h i x y e1 e2 => by
  obtain ⟨z, h1, h2⟩ := Paired.get h e1
  rw [e2] at h1
  cases h1
  exact h2
/-- for key in found: found is locked -/
theorem for_keysT {te : TE} {g : TG} {tb : TS} {D : Ends} {σ : L2.St} {H : Hp} {d : Addr} {L : List Itm} {S : List Addr} (rep : Rep H d L) (ht : ∀ H1 Q, Q (.ref d) H1 → te σ H1 Q)
    (hS : d ∉ S) (hS2 : ∀ a ∈ S, H a ≠ none) (nt : NoTup S H) (Pv : List Itm → L2.St → Hp → Prop) (h0 : ∀ HL, (∀ b, b ≠ d → HL b = H b) → Pv [] σ HL)
    (hs : ∀ G R q b σ H1 rt bk, q ∈ L → Pv R σ H1 → Keep S G H1 → RepR H1 d L → (R ++ [q]).length ≤ L.length → T3 H1 b q.1 → g (.ref b) σ H1 fun σ2 H2 => tb ⟨fun σ3 H3 => Keep S G H3 ∧ Pv (R ++ [q]) σ3 H3, rt, bk, fun σ3 H3 => Keep S G H3 ∧ Pv (R ++ [q]) σ3 H3⟩ σ2 H2)
    (hd : ∀ R σ H1 H2, R.Perm L → Pv R σ H1 → (∀ b, b ≠ d → H2 b = H1 b) → Rep H2 d L → Keep S H H2 → D.nx σ H2) : tLock (tFor (iKeys te) g tb) D σ H := by
  obtain ⟨kvs, h1, h2⟩ := rep
  obtain ⟨s, M, pm, pr⟩ := h2
  refine ⟨d, .dT kvs, h1, trivial, fun od => ?_⟩
  have tk1 : TupK H (upd H d (.frz od (.dT kvs))) := TupK.set h1 fun _ z => nomatch z
  have hne : ∀ b, b ≠ d → upd H d (.frz od (.dT kvs)) b = H b := fun b e => upd_ne e
  refine ht _ _ ⟨d, od, rfl, .inr ⟨kvs, upd_same, ?_⟩⟩
  have hl : kvs.length = M.length := Paired.length pr
  have nt1 : NoTup S (upd H d (.frz od (.dT kvs))) := fun b m xs e => by
    rw [hne b fun z => hS (z ▸ m)] at e
    exact nt b m xs e
  refine for_it walk_keysT (fun i σ H1 => Keep S (upd H d (.frz od (.dT kvs))) H1 ∧ Pv (M.take i) σ H1) ⟨Keep.refl S _, h0 _ hne⟩ (fun i σ H1 _ h => h.1.at upd_same hS) ?_ ?_
  · rintro i x σ1 H1 H2 hi ⟨k1, pv⟩ ⟨rfl, k, v, b, e1, rfl, e2⟩
    obtain ⟨q, e3, r1, a, r2, r3⟩ := Paired.get pr e1
    have r1 : k = tk q.1 := r1
    subst r1
    have hrr : RepR H2 d L := ⟨kvs, .inr ⟨od, k1.at upd_same hS⟩, s, M, pm, Paired.mapP pr fun _ _ r => (r.keep tk1).keep (k1.tup nt1)⟩
    have hq : q ∈ L := pm.mem_iff.mp (List.mem_of_getElem? e3)
    have et : M.take (i + 1) = M.take i ++ [q] := take_snoc e3
    have hlen : (M.take i ++ [q]).length ≤ L.length := by
      rw [← et, ← pm.length_eq, List.length_take]
      omega
    have := fun rt bk => hs (upd H d (.frz od (.dT kvs))) (M.take i) q b σ1 H2 rt bk hq pv k1 hrr hlen e2
    rw [← et] at this
    exact this _ _
  · rintro σ1 H1 ⟨k1, pv⟩
    rw [hl, List.take_length] at pv
    refine ⟨k1.at upd_same hS, ?_⟩
    have tk2 : TupK H1 (upd H1 d (.dT kvs)) := TupK.set (k1.at upd_same hS) fun _ z => nomatch z
    refine hd M σ1 H1 _ pm pv (fun b e => upd_ne e) ⟨kvs, upd_same, s, M, pm, Paired.mapP pr fun _ _ r => ((r.keep tk1).keep (k1.tup nt1)).keep tk2⟩ fun b u e m => ?_
    by_cases z : b = d
    · rw [z, upd_same, ← h1, ← z, e]
    · rw [upd_ne z]
      exact k1 b u (by rw [hne b z]; exact e) m
section
variable {P : Program} {w : World} {K : PySem.W.Frag} {mg : Str → Option Value} {base : Heap}
local macro_rules | `(tactic| walk_at "rd") => `(tactic| repeat (first | refine ⟨_, rfl, ?_⟩ | refine ⟨_, _, rfl, rfl, ?_⟩ | refine ⟨_, _, rfl, ?_⟩ | refine ⟨_, _, _, rfl, ?_⟩ | refine ⟨_, _, _, _, rfl, ?_⟩ | refine ⟨rfl, ?_⟩ | refine ⟨(by show (0 : Int) < _; decide), ?_⟩ | refine ⟨cdw (by decide) (by decide), ?_⟩ | refine ⟨Or.inl (by decide), ?_⟩ | refine ⟨Or.inr (by decide), ?_⟩ | refine And.intro len4v ?_ | refine And.intro len3v ?_ | refine And.intro len2v ?_ | refine And.intro len1v ?_ | refine And.intro (by assumption) ?_ | refine And.intro (SS.ty (by assumption)) ?_ | refine ⟨_, _, _, _, rfl, rfl, sqT_of (by assumption), (by rfl), ?_⟩ | refine ⟨_, _, _, rfl, rfl, (by assumption), (by assumption), ?_⟩ | refine ⟨_, _, rfl, (by assumption), ?_⟩ | refine ⟨_, _, _, _, _, rfl, (by assumption), rfl, (by assumption), (by assumption), ?_⟩ | refine And.intro (IntD.isD (by assumption)) ?_ | refine And.intro (Rep.isD (by assumption)) ?_))
def cntL (R : List Itm) (n : Int) : Nat := R.countP (isEnt n)
def spCounts : Sp := fun vs H Q _ => ∃ d L, vs = [.ref d] ∧ Rep H d L ∧ L.length < 30000 ∧ ∀ H' c, H c = none → Keep [] H H' → IntD H' c (cntV (cnt L)) L.length → Q (.ref c) H'
theorem cnt_snoc (R : List Itm) (q : Itm) (n : Int) : cnt (R ++ [q]) n = cnt R n + if isEnt n q = true then 1 else 0 := by
  unfold cnt
  rw [List.countP_append, List.countP_cons, List.countP_nil, Nat.zero_add]
abbrev s__entry_counts : Stmt := top 32
theorem sc__entry_counts : FnScope ["found", "counts", "key", "child"] ["found"] (defScope s__entry_counts) := ⟨rfl, rfl, rfl, by decide +kernel, rfl, by decide +kernel, by decide +kernel⟩
theorem ok__entry_counts {f : Addr} {fd : FuncData} (F : Fun K "_entry_counts" "_entry_counts" s__entry_counts f fd) (T : Txt mg) : FnOk P w K mg base CX0 1 f fd ["found"] spCounts := by
  refine F.ok sc__entry_counts (fun vs H Q E h => ?_) (fun cdv A outer s H vs Q E hr h => ?_)
  · obtain ⟨_, _, rfl, _⟩ := h
    rfl
  · obtain ⟨d, L, rfl, rep, hL, q⟩ := h
    refine ⟨_, (pss_cons (ps_set (i := 1) sc__entry_counts.nd rfl (Or.inl rfl) pe_dnewK)
  (pss_cons (ps_lock (ps_for PassesOwn.never rfl (pi_keys (pv 0)) (pg_name (i := 2) sc__entry_counts.nd rfl (Or.inl rfl))
  (pss_one (ps_if (pt_cmpR op_eq (pe_ix ix_tup (pv 2) pe_int (fun _ _ => rfl)) (pe_gint rfl T.c_ENTRY_mending) (nomark _))
  (pss_cons (ps_set (i := 3) sc__entry_counts.nd rfl (Or.inl rfl) (pe_ix ix_tup (pe_dget (hu_of hr) (pv 0) (pv 2) (fun _ _ => rfl)) pe_int (fun _ _ => rfl)))
  (pss_one (ps_dput (hu_of hr) (pv 1) (pv 3) (pe_op op_add (pe_dget2 (hu_of hr) (pv 1) (pv 3) pe_int ⟨rfl, rfl, rfl, rfl⟩) pe_int) rfl)))
  pss_nil))))
  (pss_one (ps_ret (pv 1))))), ?_⟩
    intro c hc
    walk_at "rd"
    have hdc : d ≠ c := by
      obtain ⟨kvs, h1, _⟩ := rep
      exact ne_of_none h1 hc
    refine for_keysT (rep.new hc) (fun H1 Q q => ⟨_, rfl, q⟩) (S := [c]) (by simpa using hdc) (fun a m => by rw [List.mem_singleton.mp m, upd_same]; simp) (.one upd_same fun _ z => nomatch z)
      (fun R σ H1 => (∃ x y, σ = [some (.ref d), some (.ref c), x, y]) ∧ IntD H1 c (cntV (cnt R)) R.length) ?_ ?_ ?_
    · intro HL hHL
      refine ⟨⟨_, _, rfl⟩, [], by rw [hHL c hdc.symm]; exact upd_same, fun n => rfl, Nat.le_refl _, [], rfl, List.nodup_nil⟩
    · rintro G R q b σ H1 rt bk hq ⟨⟨x0, y0, rfl⟩, ci⟩ k1 rr hlen hb
      walk_at "rd"
      refine bI ?_ ?_ <;> intro h4
      · obtain ⟨a, ga, ta⟩ := rr.get hb (lk_of_mem rep.srt hq)
        walk_at "rd"
        obtain ⟨o, ho, hoe⟩ := ci.getZ q.2.1
        refine ⟨o, ho, ?_⟩
        rw [hoe]
        walk_at "rd"
        obtain ⟨u, p1, p2, p3⟩ := ci.put q.2.1 (.int ((cnt R q.2.1 : Nat) + 1)) (by have := hlen; rw [List.length_append] at this; simp at this; omega)
        walk_at "rd"
        refine ⟨k1.trans (Keep.set (by simp)), ⟨_, _, rfl⟩, p2.mono (fun n => ?_) (by simp)⟩
        have h4 : q.1.2.1 = 1 := by simpa using h4
        unfold cntV
        rw [cnt_snoc]
        unfold isEnt
        by_cases e : n = q.2.1
        · simp [e, h4]
        · have : ¬ q.2.1 = n := fun z => e z.symm
          simp [e, this]
      · refine ⟨k1, ⟨_, _, rfl⟩, ci.mono (fun n => ?_) (by simp)⟩
        have h4 : q.1.2.1 ≠ 1 := by simpa using h4
        unfold cntV
        rw [cnt_snoc]
        unfold isEnt
        simp [h4]
    · rintro R σ H1 H2 pm ⟨⟨x0, y0, rfl⟩, ci⟩ e2 r2 k2
      refine ⟨_, rfl, q _ c hc (((Keep.new (S := [c]) hc).trans k2).drop hc) ?_⟩
      obtain ⟨kvs, g1, g2⟩ := ci
      have g : IntD H2 c (cntV (cnt R)) R.length := ⟨kvs, by rw [e2 c hdc.symm]; exact g1, g2⟩
      refine g.mono (fun n => ?_) (Nat.le_of_eq pm.length_eq)
      unfold cntV cnt
      rw [pm.countP_eq]
end
end K41

/-! The walks of names, moves, links. -/
namespace K41
open PySem PySem.Spec PyProof.Rows L2 TL
theorem freeJ_lt {L : List Itm} {n j : Nat} (h : j < freeJ L n) : freeAt L n j = false := by
  unfold freeJ at h
  repeat' split at h
  · omega
  · have : j = 0 := by omega
    subst this
    simp_all
  · have : j = 0 ∨ j = 1 := by omega
    rcases this with rfl | rfl <;> simp_all
  · have : j = 0 ∨ j = 1 ∨ j = 2 := by omega
    rcases this with rfl | rfl | rfl <;> simp_all
  · have : j = 0 ∨ j = 1 ∨ j = 2 ∨ j = 3 := by omega
    rcases this with rfl | rfl | rfl | rfl <;> simp_all
/-! ### moves, one behind the other -/
theorem mv_snoc (n : Int) : ∀ (r : List Int) (L : List Itm), mv (r ++ [n]) L = moveS (mv r L) n
  | [], _ => rfl
  | _ :: r, L => mv_snoc n r _
theorem mvLs_snoc (n : Int) : ∀ (r : List Int) (L : List Itm), mvLs (r ++ [n]) L = mvLs r L ++ [.moved n (freeJ (mv r L) n.toNat)]
  | [], _ => rfl
  | m :: r, L => congrArg (Loss.moved m (freeJ L m.toNat) :: ·) (mvLs_snoc n r _)
theorem mvLs_len : ∀ (r : List Int) (L : List Itm), (mvLs r L).length = r.length
  | [], _ => rfl
  | _ :: r, _ => congrArg (· + 1) (mvLs_len r _)
theorem len_moveS (L : List Itm) (n : Int) : (moveS L n).length ≤ L.length + 2 := by
  unfold moveS
  dsimp only
  have h1 := len_put L (1, 1, nw cN n.toNat (freeJ L n.toNat)) (n, 0)
  split
  · split
    · rename_i v _ _
      have h2 := len_put (put L (1, 1, nw cN n.toNat (freeJ L n.toNat)) (n, 0)) (nk n) (v.1, 1)
      omega
    · omega
  · omega
theorem len_mv : ∀ (r : List Int) (L : List Itm), (mv r L).length ≤ L.length + 2 * r.length
  | [], _ => by simp [mv]
  | n :: r, L => by
    have h1 := len_mv r (moveS L n)
    have h2 := len_moveS L n
    have e : mv (n :: r) L = mv r (moveS L n) := rfl
    rw [e, List.length_cons]
    omega
theorem Mov.after {rk : Int → Nat} (R : Rk rk) : ∀ (r : List Int) (s : List Int) (L : List Itm), Mov rk L (r ++ s) → Mov rk (mv r L) s
  | [], _, _, M => M
  | _ :: r, s, _, M => Mov.after R r s _ (M.step R)
def orphI (L : List Itm) (i : Nat) : List Int := ((L.take i).filter (isOrph L)).map (·.1.1)
theorem orphI_all (L : List Itm) : orphI L L.length = orphans L := by unfold orphI orphans; rw [List.take_length]
theorem orphI_no {L : List Itm} {i : Nat} {q : Itm} (h : L[i]? = some q) (k : isOrph L q = false) : orphI L (i + 1) = orphI L i := by
  unfold orphI
  rw [take_snoc h, List.filter_append, List.filter_cons_of_neg (by simp [k])]
  simp
theorem orphI_yes {L : List Itm} {i : Nat} {q : Itm} (h : L[i]? = some q) (k : isOrph L q = true) : orphI L (i + 1) = orphI L i ++ [q.1.1] := by
  unfold orphI
  rw [take_snoc h, List.filter_append, List.filter_cons_of_pos k]
  simp
theorem orphI_split {L : List Itm} {i : Nat} {q : Itm} (h : L[i]? = some q) (k : isOrph L q = true) : ∃ r, orphans L = orphI L i ++ q.1.1 :: r := by
  refine ⟨((L.drop (i + 1)).filter (isOrph L)).map (·.1.1), ?_⟩
  have e : L = L.take i ++ q :: L.drop (i + 1) := by rw [← drop_cons' h, List.take_append_drop]
  unfold orphans orphI
  generalize hA : isOrph L = A at *
  rw [e, List.filter_append, List.filter_cons_of_pos k, ← e]
  simp
theorem orphI_len (L : List Itm) (i : Nat) : (orphI L i).length ≤ L.length := by
  unfold orphI
  rw [List.length_map]
  have := List.length_filter_le (isOrph L) (L.take i)
  rw [List.length_take] at this
  omega
def MovPre (L : List Itm) : Prop := ∃ rk, Rk rk ∧ Mov rk L (orphans L)
theorem MovPre.at {L : List Itm} (h : MovPre L) {i : Nat} {q : Itm} (e : L[i]? = some q) (k : isOrph L q = true) : ∃ rk r, Mov rk (mv (orphI L i) L) (q.1.1 :: r) := by
  obtain ⟨rk, R, M⟩ := h
  obtain ⟨r, hr⟩ := orphI_split e k
  rw [hr] at M
  exact ⟨rk, r, M.after R _ _ _⟩
theorem MovPre.nk {L : List Itm} (h : MovPre L) {q : Itm} (m : q ∈ L) (e : q.1.2.1 = 0) : q.1 = nk q.1.1 := by
  obtain ⟨rk, R, M⟩ := h
  exact nk_of (v := q.2) (M.fit _ _ m) e
theorem log1920 {n : Nat} (hn : n < 10000000000) : (n : Int).natAbs.log2 < 1920 := by
  have h1 : (n : Int).natAbs = n := rfl
  rw [h1]
  by_cases e : n = 0
  · subst e; decide
  · have h2 : (10000000000 : Nat) < 2 ^ 1920 := by decide +kernel
    exact (Nat.log2_lt e (k := 1920)).mpr (Nat.lt_trans hn h2)
section
variable {P : Program} {w : World} {K : PySem.W.Frag} {mg : Str → Option Value} {base : Heap}
local macro_rules | `(tactic| walk_at "rd") => `(tactic| repeat (first | refine ⟨_, rfl, ?_⟩ | refine ⟨_, _, rfl, rfl, ?_⟩ | refine ⟨_, _, rfl, ?_⟩ | refine ⟨_, _, _, rfl, ?_⟩ | refine ⟨_, _, _, _, rfl, ?_⟩ | refine ⟨rfl, ?_⟩ | refine ⟨(by show (0 : Int) < _; decide), ?_⟩ | refine ⟨cdw (by decide) (by decide), ?_⟩ | refine ⟨Or.inl (by decide), ?_⟩ | refine ⟨Or.inr (by decide), ?_⟩ | refine And.intro len4v ?_ | refine And.intro len3v ?_ | refine And.intro len2v ?_ | refine And.intro len1v ?_ | refine And.intro (by assumption) ?_ | refine And.intro (SS.ty (by assumption)) ?_ | refine ⟨_, _, _, _, rfl, rfl, sqT_of (by assumption), (by rfl), ?_⟩ | refine ⟨_, _, _, rfl, rfl, (by assumption), (by assumption), ?_⟩ | refine ⟨_, _, rfl, (by assumption), ?_⟩ | refine ⟨_, _, _, _, _, rfl, (by assumption), rfl, (by assumption), (by assumption), ?_⟩ | refine And.intro (IntD.isD (by assumption)) ?_ | refine And.intro (Rep.isD (by assumption)) ?_ | refine ⟨_, _, rfl, sqT_of (by assumption), (by rfl), ?_⟩))
/-- the name is free, and short enough -/
def NewOk (L : List Itm) (n : Nat) : Prop := lk L (1, 1, nw cN n (freeJ L n)) = none ∧ freeJ L n ≤ 3 ∧ ∀ j, j ≤ freeJ L n → (nmL cN n j).length ≤ 11
def spNewEntry : Sp := fun vs H Q _ => ∃ (d : Addr) (n : Nat) (L : List Itm), vs = [.ref d, .int n] ∧ Rep H d L ∧ NewOk L n ∧ n < 10000000000 ∧
  ∀ H' p b z, Keep [] H H' → H' p = some (.tup [.str z, .ref b]) → tl z = nmL cN n (freeJ L n) → T3 H' b (1, 1, nw cN n (freeJ L n)) → Q (.ref p) H'
abbrev s__new_entry : Stmt := top 33
theorem sc__new_entry : FnScope ["found", "n", "name"] ["found", "n"] (defScope s__new_entry) := ⟨rfl, rfl, rfl, by decide +kernel, rfl, by decide +kernel, by decide +kernel⟩
theorem ok__new_entry {f : Addr} {fd : FuncData} (F : Fun K "_new_entry" "_new_entry" s__new_entry f fd) (T : Txt mg) (C_entry_key : CEntryKey P w K mg base) : FnOk P w K mg base CX0 4 f fd ["found", "n"] spNewEntry := by
  refine F.ok sc__new_entry (fun vs H Q E h => ?_) (fun cdv A outer s H vs Q E hr h => ?_)
  · obtain ⟨_, _, _, rfl, _⟩ := h
    rfl
  · obtain ⟨d, n, L, rfl, rep, ⟨hf, hj, hlen⟩, hn, q⟩ := h
    refine ⟨_, (pss_cons (ps_set (i := 2) sc__new_entry.nd rfl (Or.inl rfl) (pe_joined (PJ.cons pe_str (PJ.cons (pe_fmt (pv 1)) PJ.nil))))
  (pss_cons (ps_while PassesOwn.never (pt_cmp (pc_din (hu_of hr) (pe_own C_entry_key hr (by decide) rfl (pa_cons (pe_gint rfl T.c__ROOT) (pa_cons (pv 2) pa_nil))) (pv 0)))
  (pss_one (ps_set (i := 2) sc__new_entry.nd rfl (Or.inl rfl) (pe_op op_add_str (pv 2) pe_str))))
  (pss_one (ps_ret (pe_tup (pa_cons (pv 2) (pa_cons (pe_own C_entry_key hr (by decide) rfl (pa_cons (pe_gint rfl T.c__ROOT) (pa_cons (pv 2) pa_nil))) pa_nil))))))), ?_⟩
    walk_at "rd"
    refine ⟨by rw [sizeLine_eq]; decide, ?_⟩
    walk_at "rd"
    refine Or.inr ⟨(n : Int), rfl, ?_, ?_⟩
    · exact log1920 hn
    have hz0 : tl (Str.empty ++ Str.ofString "n" ++ Str.ofString (toString ((n : Nat) : Int))) = nmL cN n 0 := by
      rw [tl_append, tl_num]
      unfold nmL
      simp
      rfl
    have hl0 : (Str.empty ++ Str.ofString "n" ++ Str.ofString (toString ((n : Nat) : Int))).length ≤ sizeLine := by
      rw [len_tl, hz0]
      have := hlen 0 (Nat.zero_le _)
      rw [sizeLine_eq]
      omega
    refine ⟨_, rfl, hl0, ?_⟩
    refine ⟨fun m σ H' => Keep [] H H' ∧ ∃ j z, m = 4 - j ∧ j ≤ freeJ L n ∧ tl z = nmL cN n j ∧ σ = [some (.ref d), some (.int n), some (.str z)], ⟨4, Keep.refl _ _, 0, _, rfl, Nat.zero_le _, hz0, rfl⟩, ?_⟩
    rintro m σ H1 ⟨k1, j, z, rfl, hjj, hz, rfl⟩
    have hok : OkName (tl z) := by rw [hz]; exact nmL_ok code_cN (hlen j hjj)
    have rep1 : Rep H1 d L := rep.keep (k1.tup (NoTup.nil _)) fun o e => k1.at e (by simp)
    walk_at "rd"
    intro p hp
    have rep2 := rep1.new (o := .tup (tv (1, 1, wordOf (tl z)))) hp
    obtain ⟨o, g1, g2⟩ := rep2.has (k := (1, 1, wordOf (tl z))) T3.at
    walk_at "rd"
    refine bI ?_ ?_ <;> intro hc
    · have hne : j ≠ freeJ L n := fun e => by
        rw [hc, hz, e] at g2
        have g2 : true = (lk L (1, 1, nw cN n (freeJ L n))).isSome := g2
        rw [hf] at g2
        cases g2
      refine ⟨fun σ H' => Keep [] H H' ∧ ∃ z', tl z' = nmL cN n (j + 1) ∧ σ = [some (.ref d), some (.int n), some (.str z')], ?_, ?_⟩
      · rintro σ' H' ⟨k2, z', h1, h2⟩
        exact ⟨4 - (j + 1), by omega, k2, j + 1, z', rfl, by omega, h1, h2⟩
      · have hl := hlen j hjj
        have hzl : z.length ≤ 11 := by rw [len_tl, hz]; exact hl
        have hzl1 : z.length + (Str.ofString "_").length ≤ sizeLine := by
          have e1 : (Str.ofString "_").length = 1 := by decide
          rw [e1, sizeLine_eq]
          omega
        walk_at "rd"
        refine ⟨k1.trans (Keep.new hp), _, ?_, rfl⟩
        rw [tl_append, hz]
        unfold nmL
        rw [List.replicate_succ']
        simp
        rfl
    · have e : j = freeJ L n := by
        rcases Nat.lt_or_eq_of_le hjj with lt | e
        · have h1 := freeJ_lt lt
          unfold freeAt at h1
          have h2 : (lk L (1, 1, nw cN n j)).isSome = true := by
            cases q : lk L (1, 1, nw cN n j) with
            | none => rw [q] at h1; cases h1
            | some _ => rfl
          rw [hc, hz] at g2
          have g2 : false = (lk L (1, 1, nw cN n j)).isSome := g2
          rw [h2] at g2
          cases g2
        · exact e
      subst e
      walk_at "rd"
      intro p2 hp2
      walk_at "rd"
      intro p3 hp3
      refine q _ p3 p2 z (((k1.trans (Keep.new hp)).trans (Keep.new hp2)).trans (Keep.new hp3)) upd_same hz ?_
      have : T3 (upd (upd H1 p (.tup (tv (1, 1, wordOf (tl z))))) p2 (.tup (tv (1, 1, wordOf (tl z))))) p2 (1, 1, wordOf (tl z)) := T3.at
      have e : ((1 : Int), (1 : Int), nw cN n (freeJ L n)) = (1, 1, wordOf (tl z)) := by rw [hz]; rfl
      rw [e]
      exact this.new hp3
abbrev CCounts (P : Program) (w : World) (K : PySem.W.Frag) (mg : Str → Option Value) (base : Heap) : Prop := Cl P w K mg base 1 "_entry_counts" ["found"] spCounts
abbrev CNewEntry (P : Program) (w : World) (K : PySem.W.Frag) (mg : Str → Option Value) (base : Heap) : Prop := Cl P w K mg base 4 "_new_entry" ["found", "n"] spNewEntry
theorem SS.keep0 {H H' : Hp} {d l : Addr} {L : List Itm} {ls : List Loss} (h : SS H d l L ls) (k : Keep [] H H') : SS H' d l L ls := by
  have t := k.tup (NoTup.nil _)
  refine ⟨h.rep.keep t fun o e => k.at e (by simp), ?_⟩
  obtain ⟨xs, h1, h2⟩ := h.los
  exact ⟨xs, k.at h1 (by simp), Paired.mapP h2 fun _ _ r => r.keep t⟩
theorem IntD.neT {H : Hp} {c d : Addr} {g : Int → Option V} {B : Nat} {L : List Itm} (h : IntD H c g B) (r : Rep H d L) : c ≠ d := by
  obtain ⟨kvs, h1, _⟩ := h
  obtain ⟨kvs', h2, _⟩ := r
  exact ne_of h1 h2 fun z => nomatch z
theorem IntD.neL {H : Hp} {c l : Addr} {g : Int → Option V} {B : Nat} {ls : List Loss} (h : IntD H c g B) (r : LsAt H l ls) : c ≠ l := by
  obtain ⟨kvs, h1, _⟩ := h
  obtain ⟨kvs', h2, _⟩ := r
  exact ne_of h1 h2 fun z => nomatch z
theorem cntV_some (f : Int → Nat) (n : Int) : (cntV f n).isSome = !decide (f n = 0) := by
  unfold cntV
  split
  · rename_i h; simp [h]
  · rename_i h; simp [h]
abbrev s__move_nodes : Stmt := top 34
theorem sc__move_nodes : FnScope ["found", "losses", "counts", "key", "n", "name", "entry", "packed"] ["found", "losses"] (defScope s__move_nodes) := ⟨rfl, rfl, rfl, by decide +kernel, rfl, by decide +kernel, by decide +kernel⟩
theorem ok__move_nodes {f : Addr} {fd : FuncData} (F : Fun K "_move_nodes" "_move_nodes" s__move_nodes f fd) (T : Txt mg) (C__entry_counts : CCounts P w K mg base) (C__new_entry : CNewEntry P w K mg base) (C_unpack_node : CUnpack P w K mg base) :
    FnOk P w K mg base CX0 5 f fd ["found", "losses"] (spSt (fun L => mv (orphans L) L) (fun L => mvLs (orphans L) L) MovPre) := by
  refine F.ok sc__move_nodes (fun vs H Q E h => ?_) (fun cdv A outer s H vs Q E hr h => ?_)
  · obtain ⟨_, _, _, _, rfl, _⟩ := h
    rfl
  · obtain ⟨d, l, L, ls, rfl, ss0, hL, hl, pre, q⟩ := h
    refine ⟨_, (pss_cons (ps_set (i := 2) sc__move_nodes.nd rfl (Or.inl rfl) (pe_own C__entry_counts hr (by decide) rfl (pa_cons (pv 0) pa_nil)))
  (pss_one (ps_for PassesOwn.never rfl (pi_list (pe_callB (cr_sortD rfl) (by rfl) T.b_sorted (by decide +kernel) (pa_cons (pv 0) pa_nil))) (pg_name (i := 3) sc__move_nodes.nd rfl (Or.inl rfl))
  (pss_cons (ps_set (i := 4) sc__move_nodes.nd rfl (Or.inl rfl) (pe_ix ix_tup (pv 3) pe_int (fun _ _ => rfl)))
  (pss_one (ps_if (PW.pt (pw_and (pt_cmpR op_eq (pe_ix ix_tup (pv 3) pe_int (fun _ _ => rfl)) (pe_gint rfl T.c_NODE_mending) (nomark _)) (pw_and (pt_cmpR op_ne (pv 4) (pe_gint rfl T.c__ROOT) (nomark _)) (pw_and1 (pt_cmp (pc_dnotin (hu_of hr) (pv 4) (pv 2)))))))
  (pss_cons (ps_asg (pe_own C__new_entry hr (by decide) rfl (pa_cons (pv 0) (pa_cons (pv 4) pa_nil))) (pg_tup (by rfl) (pgs_cons (pg_name (i := 5) sc__move_nodes.nd rfl (Or.inl rfl)) (pgs_cons (pg_name (i := 6) sc__move_nodes.nd rfl (Or.inl rfl)) pgs_nil))))
  (pss_cons (ps_dput (hu_of hr) (pv 0) (pv 6) (pe_tup (pa_cons (pv 4) (pa_cons pe_int pa_nil))) rfl)
  (pss_cons (ps_set (i := 7) sc__move_nodes.nd rfl (Or.inl rfl) (pe_ix ix_tup (pe_dget (hu_of hr) (pv 0) (pv 3) (fun _ _ => rfl)) pe_int (fun _ _ => rfl)))
  (pss_cons (ps_if (pt_cmpR op_eq (pe_ix ix_tup (pe_own C_unpack_node hr (by decide) rfl (pa_cons (pv 7) pa_nil)) pe_int (fun _ _ => rfl)) (pe_gint rfl T.c__FOLDER) (nomark _))
  (pss_one (ps_dput (hu_of hr) (pv 0) (pv 3) (pe_tup (pa_cons (pv 7) (pa_cons (pe_gint rfl T.c__ROOT) pa_nil))) rfl))
  pss_nil)
  (pss_one (ps_expr (pe_bm PySem.F.plainAttrs_list PySem.F.slot_list_append PySem.F.type_list_append mt_append (pv 1) (pa_cons (pe_tup (pa_cons pe_str (pa_cons (pv 4) (pa_cons (pv 5) pa_nil)))) pa_nil))))))))
  pss_nil)))))), ?_⟩
    walk_at "rd"
    refine ⟨d, L, rfl, ss0.rep, hL, fun H0 c hc k0 ci => ?_⟩
    have ss := ss0.keep0 k0
    have sL := ss.rep.srt
    have cd := ci.neT ss.rep
    have cl := ci.neL ss.los
    have hcS : c ∉ [d, l] := by simp [cd, cl]
    dsimp only [gName]
    refine for_sorted ss.rep.r (fun Q q => ⟨_, rfl, q⟩) (S := [d, l]) ss.there ss.noTup (fun i σ H1 => (∃ x3 x4 x5 x6 x7, σ = [some (.ref d), some (.ref l), some (.ref c), x3, x4, x5, x6, x7]) ∧ SS H1 d l (mv (orphI L i) L) (ls ++ mvLs (orphI L i) L)) ?_ ?_ ?_
    · intro p o hp
      refine ⟨⟨_, _, _, _, _, rfl⟩, ?_⟩
      have e : mvLs (orphI L 0) L = [] := rfl
      rw [e, List.append_nil]
      exact ss.new hp
    · rintro G i q b σ H1 hq ⟨⟨x3, x4, x5, x6, x7, rfl⟩, s1⟩ kG k1 hb
      have ci1 := (ci.keep kG hcS).keep k1 hcS
      have stay : isOrph L q = false → SS H1 d l (mv (orphI L (i + 1)) L) (ls ++ mvLs (orphI L (i + 1)) L) := fun hk => by
        rw [orphI_no hq hk]
        exact s1
      walk_at "rd"
      refine bI ?_ ?_ <;> intro h0
      · walk_at "rd"
        refine bI ?_ ?_ <;> intro hn1
        · have g0 := ci1.get q.1.1
          walk_at "rd"
          refine bI ?_ ?_ <;> intro hc0
          · have h0' : q.1.2.1 = 0 := by simpa using h0
            have hn' : q.1.1 ≠ 1 := by simpa using hn1
            have hc' : cnt L q.1.1 = 0 := by rw [cntV_some] at hc0; simpa using hc0
            have hk : isOrph L q = true := decide_eq_true ⟨h0', hn', hc'⟩
            obtain ⟨rk, r, M⟩ := pre.at hq hk
            obtain ⟨gt1, num, u, hu, _⟩ := M.rem _ List.mem_cons_self
            have hqk : q.1 = nk q.1.1 := pre.nk (List.mem_of_getElem? hq) h0'
            obtain ⟨N, hN⟩ : ∃ N : Nat, q.1.1 = (N : Int) := ⟨q.1.1.toNat, by omega⟩
            have hok : NewOk (mv (orphI L i) L) N := by
              have := M.name
              rw [hN, Int.toNat_natCast] at this
              exact this
            have hlk : lk (mv (orphI L i) L) (nk q.1.1) = some u := lk_of_mem M.srt hu
            have hlen : (mv (orphI L i) L).length < 90000 := by
              have h1 := len_mv (orphI L i) L
              have h2 := orphI_len L i
              omega
            have hN10 : N < 10000000000 := by unfold NumOk at num; omega
            have eM : mv (orphI L (i + 1)) L = moveS (mv (orphI L i) L) q.1.1 := by rw [orphI_yes hq hk, mv_snoc]
            have eL : ls ++ mvLs (orphI L (i + 1)) L = ls ++ mvLs (orphI L i) L ++ [.moved q.1.1 (freeJ (mv (orphI L i) L) N)] := by rw [orphI_yes hq hk, mvLs_snoc, hN, Int.toNat_natCast, List.append_assoc]
            have hll : (ls ++ mvLs (orphI L i) L).length < 90000 := by
              have h2 := orphI_len L i
              rw [List.length_append, mvLs_len]
              omega
            rw [eM, eL]
            clear stay eM eL
            generalize mv (orphI L i) L = Mi at *
            generalize ls ++ mvLs (orphI L i) L = li at *
            walk_at "rd"
            refine ⟨d, N, Mi, (by rw [hN]; rfl), s1.rep, hok, hN10, fun H2 p b2 z k2 hp2 hz hb2 => ?_⟩
            have ss2 := s1.keep0 k2
            have hb' : T3 H2 b q.1 := hb.keep (k2.tup (NoTup.nil _))
            walk_at "rd"
            intro p3 hp3
            have ss3 := ss2.new (o := .tup [.int q.1.1, .int 0]) hp3
            obtain ⟨H4, g4, ss4, k4, t4⟩ := ss3.put (k := (1, 1, nw cN N (freeJ Mi N))) (hb2.new hp3) (T2.at (a := q.1.1) (b := 0)) (by omega)
            have ne1 : q.1 ≠ (1, 1, nw cN N (freeJ Mi N)) := fun z => by
              have := congrArg (fun k : K3 => k.2.1) z
              rw [h0'] at this
              have this : (0 : Int) = 1 := this
              omega
            have lk4 : lk (put Mi (1, 1, nw cN N (freeJ Mi N)) (q.1.1, 0)) q.1 = some u := by
              rw [lk_put M.srt, if_neg ne1, hqk]
              exact hlk
            have hb4 : T3 H4 b q.1 := (hb'.new hp3).keep t4
            obtain ⟨a5, g5, t5⟩ := ss4.rep.get hb4 lk4
            walk_at "rd"
            intro p6 hp6
            have e6 : (upd H4 p6 (.tup [.int (u.1 % 2), .int (u.1 / 2 / 64 % 1000), .int (u.1 / 2 % 64), .int (u.1 / 2 / 64 / 1000)])) p6 = some (.tup [.int (u.1 % 2), .int (u.1 / 2 / 64 % 1000), .int (u.1 / 2 % 64), .int (u.1 / 2 / 64 / 1000)]) := upd_same
            have ss6 := ss4.new (o := .tup [.int (u.1 % 2), .int (u.1 / 2 / 64 % 1000), .int (u.1 / 2 % 64), .int (u.1 / 2 / 64 / 1000)]) hp6
            walk_at "rd"
            refine bI ?_ ?_ <;> intro hf
            · have hf' : u.1 % 2 = 1 := by simpa using hf
              walk_at "rd"
              intro p7 hp7
              have ss7 := ss6.new (o := .tup [.int u.1, .int 1]) hp7
              have hlen2 := len_put Mi (1, 1, nw cN N (freeJ Mi N)) (q.1.1, 0)
              obtain ⟨H8, g8, ss8, k8, t8⟩ := ss7.put (k := q.1) ((hb4.new hp6).new hp7) (T2.at (a := u.1) (b := 1)) (by omega)
              walk_at "rd"
              intro p9 hp9
              have ss9 := ss8.new (o := .tup [.str "moved", .int q.1.1, .str z]) hp9
              obtain ⟨xs, a1, a2, s10, k10, t10⟩ := ss9.app (m := .moved q.1.1 (freeJ Mi N)) (x := .ref p9) ⟨p9, z, rfl, upd_same, by rw [hz, hN, Int.toNat_natCast]⟩ (by omega)
              walk_at "rd"
              refine ⟨?_, ⟨_, _, _, _, _, rfl⟩, ?_⟩
              · exact (((((((k1.trans (k2.mono (by simp))).trans (Keep.new hp3)).trans k4).trans (Keep.new hp6)).trans (Keep.new hp7)).trans k8).trans (Keep.new hp9)).trans k10
              · have e : moveS Mi q.1.1 = put (put Mi (1, 1, nw cN N (freeJ Mi N)) (q.1.1, 0)) q.1 (u.1, 1) := by
                  unfold moveS
                  rw [hlk, ← hqk]
                  dsimp only
                  rw [if_pos hf', hN, Int.toNat_natCast]
                rw [e]
                exact s10
            · have hf' : u.1 % 2 ≠ 1 := by simpa using hf
              walk_at "rd"
              intro p9 hp9
              have ss9 := ss6.new (o := .tup [.str "moved", .int q.1.1, .str z]) hp9
              obtain ⟨xs, a1, a2, s10, k10, t10⟩ := ss9.app (m := .moved q.1.1 (freeJ Mi N)) (x := .ref p9) ⟨p9, z, rfl, upd_same, by rw [hz, hN, Int.toNat_natCast]⟩ (by omega)
              walk_at "rd"
              refine ⟨?_, ⟨_, _, _, _, _, rfl⟩, ?_⟩
              · exact (((((k1.trans (k2.mono (by simp))).trans (Keep.new hp3)).trans k4).trans (Keep.new hp6)).trans (Keep.new hp9)).trans k10
              · have e : moveS Mi q.1.1 = put Mi (1, 1, nw cN N (freeJ Mi N)) (q.1.1, 0) := by
                  unfold moveS
                  rw [hlk]
                  dsimp only
                  rw [if_neg hf', hN, Int.toNat_natCast]
                rw [e]
                exact s10
          · have hk : isOrph L q = false := decide_eq_false fun z => by
              rw [cntV_some] at hc0
              have := z.2.2
              simp_all
            exact ⟨k1, ⟨_, _, _, _, _, rfl⟩, stay hk⟩
        · have hk : isOrph L q = false := decide_eq_false fun z => z.2.1 (by simpa using hn1)
          exact ⟨k1, ⟨_, _, _, _, _, rfl⟩, stay hk⟩
      · have hk : isOrph L q = false := decide_eq_false fun z => by
          have : q.1.2.1 ≠ 0 := by simpa using h0
          exact this z.1
        exact ⟨k1, ⟨_, _, _, _, _, rfl⟩, stay hk⟩
    · rintro σ H1 k1 ⟨_, s1⟩
      rw [orphI_all] at s1
      exact q _ ((k0.mono (by simp)).trans k1) s1
end
end K41

/-! The walks of links and charges. -/
namespace K41
open PySem PySem.Spec PyProof.Rows L2 TL
theorem put_at {k : K3} {u v : Val} {B : List Itm} : ∀ {A : List Itm}, (∀ p ∈ A, ltK p.1 k) → put (A ++ (k, u) :: B) k v = A ++ (k, v) :: B
  | [], _ => by
    show (if k = k then (k, v) :: B else _) = _
    rw [if_pos rfl]
    rfl
  | p :: A, h => by
    have hp := h p List.mem_cons_self
    have ne : ¬ p.1 = k := fun e => by rw [e] at hp; exact ltK_irrefl _ hp
    have e : put (p :: (A ++ (k, u) :: B)) k v = p :: put (A ++ (k, u) :: B) k v := by
      show (if p.1 = k then _ else if ltK k p.1 then _ else _) = _
      rw [if_neg ne, if_neg (ltK_asymm hp)]
    rw [List.cons_append, e, put_at fun q m => h q (List.mem_cons_of_mem _ m)]
    rfl
theorem put_last {k : K3} {v : Val} : ∀ {A : List Itm}, (∀ p ∈ A, ltK p.1 k) → put A k v = A ++ [(k, v)]
  | [], _ => rfl
  | p :: A, h => by
    have hp := h p List.mem_cons_self
    have ne : ¬ p.1 = k := fun e => by rw [e] at hp; exact ltK_irrefl _ hp
    have e : put (p :: A) k v = p :: put A k v := by
      show (if p.1 = k then _ else if ltK k p.1 then _ else _) = _
      rw [if_neg ne, if_neg (ltK_asymm hp)]
    rw [e, put_last fun q m => h q (List.mem_cons_of_mem _ m)]
    rfl
theorem srt_before {L : List Itm} (s : Srt L) {i : Nat} {q : Itm} (h : L[i]? = some q) : ∀ p ∈ L.take i, ltK p.1 q.1 := by
  have e : L = L.take i ++ q :: L.drop (i + 1) := by rw [← drop_cons' h, List.take_append_drop]
  rw [e] at s
  unfold Srt at s
  rw [List.pairwise_append] at s
  exact fun p m => s.2.2 p m q List.mem_cons_self
/-! ### a map, step by step -/
def Gi (f : Itm → Itm) (L : List Itm) (i : Nat) : List Itm := (L.take i).map f ++ L.drop i
theorem gi_zero (f : Itm → Itm) (L : List Itm) : Gi f L 0 = L := rfl
theorem gi_all (f : Itm → Itm) (L : List Itm) : Gi f L L.length = L.map f := by unfold Gi; simp
theorem gi_len (f : Itm → Itm) (L : List Itm) (i : Nat) : (Gi f L i).length = L.length := by unfold Gi; simp; omega
theorem gi_same {f : Itm → Itm} {L : List Itm} {i : Nat} {q : Itm} (h : L[i]? = some q) (e : f q = q) : Gi f L (i + 1) = Gi f L i := by
  unfold Gi
  rw [take_snoc h, drop_cons' h, List.map_append, List.map_cons, e]
  simp
theorem gi_mem {f : Itm → Itm} {L : List Itm} {i : Nat} {q : Itm} (h : L[i]? = some q) : q ∈ Gi f L i := by
  unfold Gi
  rw [drop_cons' h]
  simp
theorem gi_put {f : Itm → Itm} {L : List Itm} {i : Nat} {q : Itm} (s : Srt L) (hf : ∀ p, (f p).1 = p.1) (h : L[i]? = some q) : Gi f L (i + 1) = put (Gi f L i) q.1 (f q).2 := by
  unfold Gi
  rw [take_snoc h, drop_cons' h, List.map_append, List.append_assoc]
  have := put_at (k := q.1) (u := q.2) (v := (f q).2) (A := (L.take i).map f) (B := L.drop (i + 1)) fun p m => by
    obtain ⟨r, m', rfl⟩ := List.mem_map.mp m
    rw [hf]
    exact srt_before s h r m'
  rw [show (q :: L.drop (i + 1)) = (q.1, q.2) :: L.drop (i + 1) from rfl, this, ← hf q]
  rfl
section
variable {P : Program} {w : World} {K : PySem.W.Frag} {mg : Str → Option Value} {base : Heap}
local macro_rules | `(tactic| walk_at "rd") => `(tactic| repeat (first | refine ⟨_, rfl, ?_⟩ | refine ⟨_, _, rfl, rfl, ?_⟩ | refine ⟨_, _, rfl, ?_⟩ | refine ⟨_, _, _, rfl, ?_⟩ | refine ⟨_, _, _, _, rfl, ?_⟩ | refine ⟨rfl, ?_⟩ | refine ⟨(by show (0 : Int) < _; decide), ?_⟩ | refine ⟨cdw (by decide) (by decide), ?_⟩ | refine ⟨Or.inl (by decide), ?_⟩ | refine ⟨Or.inr (by decide), ?_⟩ | refine And.intro len4v ?_ | refine And.intro len3v ?_ | refine And.intro len2v ?_ | refine And.intro len1v ?_ | refine And.intro (by assumption) ?_ | refine And.intro (SS.ty (by assumption)) ?_ | refine ⟨_, _, _, _, rfl, rfl, sqT_of (by assumption), (by rfl), ?_⟩ | refine ⟨_, _, _, rfl, rfl, (by assumption), (by assumption), ?_⟩ | refine ⟨_, _, rfl, (by assumption), ?_⟩ | refine ⟨_, _, _, _, _, rfl, (by assumption), rfl, (by assumption), (by assumption), ?_⟩ | refine And.intro (IntD.isD (by assumption)) ?_ | refine And.intro (Rep.isD (by assumption)) ?_ | refine ⟨_, _, rfl, sqT_of (by assumption), (by rfl), ?_⟩))
def linkLi (L : List Itm) (i : Nat) : List Loss := ((L.take i).filter (badLinks L)).map fun p => .links p.1.1 (p.2.1 / 128000) (cnt L p.1.1)
theorem linkLi_all (L : List Itm) : linkLi L L.length = linkLs L := by unfold linkLi linkLs; rw [List.take_length]
theorem linkLi_no {L : List Itm} {i : Nat} {q : Itm} (h : L[i]? = some q) (k : badLinks L q = false) : linkLi L (i + 1) = linkLi L i := by
  unfold linkLi
  rw [take_snoc h, List.filter_append, List.filter_cons_of_neg (by simp [k])]
  simp
theorem linkLi_yes {L : List Itm} {i : Nat} {q : Itm} (h : L[i]? = some q) (k : badLinks L q = true) : linkLi L (i + 1) = linkLi L i ++ [.links q.1.1 (q.2.1 / 128000) (cnt L q.1.1)] := by
  unfold linkLi
  rw [take_snoc h, List.filter_append, List.filter_cons_of_pos k]
  simp
theorem linkLi_len (L : List Itm) (i : Nat) : (linkLi L i).length ≤ L.length := by
  unfold linkLi
  rw [List.length_map]
  have := List.length_filter_le (badLinks L) (L.take i)
  rw [List.length_take] at this
  omega
abbrev s__mend_links : Stmt := top 35
theorem sc__mend_links : FnScope ["found", "losses", "counts", "key", "packed", "size", "kind", "owner", "mode", "links", "count"] ["found", "losses"] (defScope s__mend_links) := ⟨rfl, rfl, rfl, by decide +kernel, rfl, by decide +kernel, by decide +kernel⟩
theorem ok__mend_links {f : Addr} {fd : FuncData} (F : Fun K "_mend_links" "_mend_links" s__mend_links f fd) (T : Txt mg) (C__entry_counts : CCounts P w K mg base) (C_pack_node : CPack P w K mg base) (C_unpack_node : CUnpack P w K mg base) :
    FnOk P w K mg base CX0 2 f fd ["found", "losses"] (spSt linkS linkLs fun _ => True) := by
  refine F.ok sc__mend_links (fun vs H Q E h => ?_) (fun cdv A outer s H vs Q E hr h => ?_)
  · obtain ⟨_, _, _, _, rfl, _⟩ := h
    rfl
  · obtain ⟨d, l, L, ls, rfl, ss0, hL, hl, _, q⟩ := h
    refine ⟨_, (pss_cons (ps_set (i := 2) sc__mend_links.nd rfl (Or.inl rfl) (pe_own C__entry_counts hr (by decide) rfl (pa_cons (pv 0) pa_nil)))
  (pss_one (ps_for PassesOwn.never rfl (pi_list (pe_callB (cr_sortD rfl) (by rfl) T.b_sorted (by decide +kernel) (pa_cons (pv 0) pa_nil))) (pg_name (i := 3) sc__mend_links.nd rfl (Or.inl rfl))
  (pss_one (ps_if (pt_cmpR op_eq (pe_ix ix_tup (pv 3) pe_int (fun _ _ => rfl)) (pe_gint rfl T.c_NODE_mending) (nomark _))
  (pss_cons (ps_asg (pe_dget (hu_of hr) (pv 0) (pv 3) (fun _ _ => rfl)) (pg_tup (by rfl) (pgs_cons (pg_name (i := 4) sc__mend_links.nd rfl (Or.inl rfl)) (pgs_cons (pg_name (i := 5) sc__mend_links.nd rfl (Or.inl rfl)) pgs_nil))))
  (pss_cons (ps_asg (pe_own C_unpack_node hr (by decide) rfl (pa_cons (pv 4) pa_nil)) (pg_tup (by rfl) (pgs_cons (pg_name (i := 6) sc__mend_links.nd rfl (Or.inl rfl)) (pgs_cons (pg_name (i := 7) sc__mend_links.nd rfl (Or.inl rfl)) (pgs_cons (pg_name (i := 8) sc__mend_links.nd rfl (Or.inl rfl)) (pgs_cons (pg_name (i := 9) sc__mend_links.nd rfl (Or.inl rfl)) pgs_nil))))))
  (pss_cons (ps_set (i := 10) sc__mend_links.nd rfl (Or.inl rfl) (pe_dget2 (hu_of hr) (pv 2) (pe_ix ix_tup (pv 3) pe_int (fun _ _ => rfl)) pe_int ⟨rfl, rfl, rfl, rfl⟩))
  (pss_one (ps_if (PW.pt (pw_and (pt_cmpR op_ne (pv 6) (pe_gint rfl T.c__FOLDER) (nomark _)) (pw_and1 (pt_cmpR op_ne (pv 9) (pv 10) (nomark _)))))
  (pss_cons (ps_dput (hu_of hr) (pv 0) (pv 3) (pe_tup (pa_cons (pe_own C_pack_node hr (by decide) rfl (pa_cons (pv 6) (pa_cons (pv 7) (pa_cons (pv 8) (pa_cons (pv 10) pa_nil))))) (pa_cons (pv 5) pa_nil))) rfl)
  (pss_one (ps_expr (pe_bm PySem.F.plainAttrs_list PySem.F.slot_list_append PySem.F.type_list_append mt_append (pv 1) (pa_cons (pe_tup (pa_cons pe_str (pa_cons (pe_ix ix_tup (pv 3) pe_int (fun _ _ => rfl)) (pa_cons (pv 9) (pa_cons (pv 10) pa_nil))))) pa_nil)))))
  pss_nil)))))
  pss_nil))))), ?_⟩
    walk_at "rd"
    refine ⟨d, L, rfl, ss0.rep, hL, fun H0 c hc k0 ci => ?_⟩
    have ss := ss0.keep0 k0
    have sL := ss.rep.srt
    have cd := ci.neT ss.rep
    have cl := ci.neL ss.los
    have hcS : c ∉ [d, l] := by simp [cd, cl]
    dsimp only [gName]
    refine for_sorted ss.rep.r (fun Q q => ⟨_, rfl, q⟩) (S := [d, l]) ss.there ss.noTup (fun i σ H1 => (∃ x3 x4 x5 x6 x7 x8 x9 x10, σ = [some (.ref d), some (.ref l), some (.ref c), x3, x4, x5, x6, x7, x8, x9, x10]) ∧ SS H1 d l (Gi (linkF L) L i) (ls ++ linkLi L i)) ?_ ?_ ?_
    · intro p o hp
      refine ⟨⟨_, _, _, _, _, _, _, _, rfl⟩, ?_⟩
      have e : linkLi L 0 = [] := rfl
      rw [e, List.append_nil]
      exact ss.new hp
    · rintro G i q b σ H1 hq ⟨⟨x3, x4, x5, x6, x7, x8, x9, x10, rfl⟩, s1⟩ kG k1 hb
      have ci1 := (ci.keep kG hcS).keep k1 hcS
      have stay : badLinks L q = false → SS H1 d l (Gi (linkF L) L (i + 1)) (ls ++ linkLi L (i + 1)) := fun hk => by
        rw [linkLi_no hq hk, gi_same hq (by unfold linkF; rw [hk]; rfl)]
        exact s1
      walk_at "rd"
      refine bI ?_ ?_ <;> intro h0
      · obtain ⟨a, g2, t2⟩ := s1.rep.get hb (lk_of_mem s1.rep.srt (gi_mem hq))
        walk_at "rd"
        intro p hp
        have e6 : (upd H1 p (.tup [.int (q.2.1 % 2), .int (q.2.1 / 2 / 64 % 1000), .int (q.2.1 / 2 % 64), .int (q.2.1 / 2 / 64 / 1000)])) p = some (.tup [.int (q.2.1 % 2), .int (q.2.1 / 2 / 64 % 1000), .int (q.2.1 / 2 % 64), .int (q.2.1 / 2 / 64 / 1000)]) := upd_same
        have ss2 := s1.new (o := .tup [.int (q.2.1 % 2), .int (q.2.1 / 2 / 64 % 1000), .int (q.2.1 / 2 % 64), .int (q.2.1 / 2 / 64 / 1000)]) hp
        have ci2 := ci1.new (o := .tup [.int (q.2.1 % 2), .int (q.2.1 / 2 / 64 % 1000), .int (q.2.1 / 2 % 64), .int (q.2.1 / 2 / 64 / 1000)]) hp
        have hb2 : T3 (upd H1 p (.tup [.int (q.2.1 % 2), .int (q.2.1 / 2 / 64 % 1000), .int (q.2.1 / 2 % 64), .int (q.2.1 / 2 / 64 / 1000)])) b q.1 := hb.new hp
        walk_at "rd"
        obtain ⟨o, ho, hoe⟩ := ci2.getZ q.1.1
        refine ⟨o, ho, ?_⟩
        rw [hoe]
        walk_at "rd"
        have h0' : q.1.2.1 = 0 := by simpa using h0
        refine bI ?_ ?_ <;> intro hf
        · walk_at "rd"
          have hf' : q.2.1 % 2 ≠ 1 := by simpa using hf
          refine bI ?_ ?_ <;> intro hn
          · have hn' : q.2.1 / 2 / 64 / 1000 ≠ (cnt L q.1.1 : Int) := by simpa using hn
            have ed : q.2.1 / 2 / 64 / 1000 = q.2.1 / 128000 := by omega
            have hk : badLinks L q = true := decide_eq_true ⟨h0', by omega, by rw [← ed]; exact hn'⟩
            have hl2 : (ls ++ linkLi L i).length < 90000 := by
              have := linkLi_len L i
              rw [List.length_append]
              omega
            have hg2 := gi_len (linkF L) L i
            rw [linkLi_yes hq hk, gi_put sL linkF_key hq, ← List.append_assoc]
            have ev : (linkF L q).2 = (q.2.1 % 2 + 2 * (q.2.1 / 2 % 64 + 64 * (q.2.1 / 2 / 64 % 1000 + 1000 * (cnt L q.1.1 : Int))), q.2.2) := by
              unfold linkF
              rw [if_pos hk]
              refine Prod.ext ?_ rfl
              show q.2.1 + 128000 * ((cnt L q.1.1 : Int) - q.2.1 / 128000) = q.2.1 % 2 + 2 * (q.2.1 / 2 % 64 + 64 * (q.2.1 / 2 / 64 % 1000 + 1000 * (cnt L q.1.1 : Int)))
              omega
            rw [ev, ← ed]
            walk_at "rd"
            intro p3 hp3
            have ss3 := ss2.new (o := .tup [.int (q.2.1 % 2 + 2 * (q.2.1 / 2 % 64 + 64 * (q.2.1 / 2 / 64 % 1000 + 1000 * (cnt L q.1.1 : Int)))), .int q.2.2]) hp3
            obtain ⟨H4, g4, ss4, k4, t4⟩ := ss3.put (hb2.new hp3) (T2.at (a := q.2.1 % 2 + 2 * (q.2.1 / 2 % 64 + 64 * (q.2.1 / 2 / 64 % 1000 + 1000 * (cnt L q.1.1 : Int)))) (b := q.2.2)) (by omega)
            have hb4 : T3 H4 b q.1 := (hb2.new hp3).keep t4
            walk_at "rd"
            intro p9 hp9
            have ss9 := ss4.new (o := .tup [.str "links", .int q.1.1, .int (q.2.1 / 2 / 64 / 1000), .int (cnt L q.1.1 : Int)]) hp9
            obtain ⟨xs, a1, a2, s10, k10, t10⟩ := ss9.app (m := .links q.1.1 (q.2.1 / 2 / 64 / 1000) (cnt L q.1.1)) (x := .ref p9) ⟨p9, rfl, upd_same⟩ (by omega)
            walk_at "rd"
            exact ⟨((((k1.trans (Keep.new hp)).trans (Keep.new hp3)).trans k4).trans (Keep.new hp9)).trans k10, ⟨_, _, _, _, _, _, _, _, rfl⟩, s10⟩
          · have hk : badLinks L q = false := decide_eq_false fun z => by
              have hn' : q.2.1 / 2 / 64 / 1000 = (cnt L q.1.1 : Int) := by simpa using hn
              have := z.2.2
              omega
            exact ⟨k1.trans (Keep.new hp), ⟨_, _, _, _, _, _, _, _, rfl⟩, (stay hk).new hp⟩
        · have hk : badLinks L q = false := decide_eq_false fun z => by
            have hf' : q.2.1 % 2 = 1 := by simpa using hf
            have := z.2.1
            omega
          exact ⟨k1.trans (Keep.new hp), ⟨_, _, _, _, _, _, _, _, rfl⟩, (stay hk).new hp⟩
      · have hk : badLinks L q = false := decide_eq_false fun z => by
          have : q.1.2.1 ≠ 0 := by simpa using h0
          exact this z.1
        exact ⟨k1, ⟨_, _, _, _, _, _, _, _, rfl⟩, stay hk⟩
    · rintro σ H1 k1 ⟨_, s1⟩
      rw [gi_all, linkLi_all] at s1
      exact q _ ((k0.mono (by simp)).trans k1) s1
end
end K41

/-! The walks of charges. -/
namespace K41
open PySem PySem.Spec PyProof.Rows L2 TL
def ChgPre (L : List Itm) : Prop := ∀ p ∈ L, p.1.2.1 = 0 ∨ p.1.2.1 = 3 → ∃ u, lk L (nk p.1.1) = some u
/-- what a prefix charges -/
def dueN (L R : List Itm) (o : Int) : Nat := R.countP (isChg L o)
def dueV (L R : List Itm) (o : Int) : Option V := if o ∈ ownersOf L R then some (.int (dueN L R o : Nat)) else none
theorem own_snoc {L R : List Itm} {q : Itm} {o : Int} : o ∈ ownersOf L (R ++ [q]) ↔ o ∈ ownersOf L R ∨ ownOf L q = some o := by
  rw [mem_ownersOf, mem_ownersOf]
  constructor
  · rintro ⟨p, m, e⟩
    rcases List.mem_append.mp m with m | m
    · exact .inl ⟨p, m, e⟩
    · rw [List.mem_singleton.mp m] at e; exact .inr e
  · rintro (⟨p, m, e⟩ | e)
    · exact ⟨p, List.mem_append_left _ m, e⟩
    · exact ⟨q, by simp, e⟩
theorem dueN_snoc (L R : List Itm) (q : Itm) (o : Int) : dueN L (R ++ [q]) o = dueN L R o + if isChg L o q = true then 1 else 0 := by
  unfold dueN
  rw [List.countP_append, List.countP_cons, List.countP_nil, Nat.zero_add]
theorem dueN_none {L R : List Itm} {o : Int} (h : o ∉ ownersOf L R) : dueN L R o = 0 := by
  unfold dueN
  rw [List.countP_eq_zero]
  intro p m e
  have e := of_decide_eq_true e
  refine h ((mem_ownersOf _ _ _).mpr ⟨p, m, ?_⟩)
  unfold ownOf
  rw [if_neg (by omega), if_pos e.1, e.2]
theorem dueV_get (L R : List Itm) (o : Int) : (dueV L R o).getD (.int 0) = .int (dueN L R o : Nat) := by
  unfold dueV
  split
  · rfl
  · rename_i h
    rw [dueN_none h]
    rfl
theorem dueV_perm {L R M : List Itm} (h : R.Perm M) (o : Int) : dueV L R o = dueV L M o := by
  unfold dueV dueN
  rw [h.countP_eq]
  have : o ∈ ownersOf L R ↔ o ∈ ownersOf L M := by
    rw [mem_ownersOf, mem_ownersOf]
    exact ⟨fun ⟨p, m, e⟩ => ⟨p, h.mem_iff.mp m, e⟩, fun ⟨p, m, e⟩ => ⟨p, h.mem_iff.mpr m, e⟩⟩
  by_cases e : o ∈ ownersOf L R
  · rw [if_pos e, if_pos (this.mp e)]
  · rw [if_neg e, if_neg fun z => e (this.mpr z)]
theorem due_four {L R : List Itm} {q : Itm} (h4 : q.1.2.1 = 4) (n : Int) : (if n = q.1.2.2 then some (V.int (dueN L R q.1.2.2 : Nat)) else dueV L R n) = dueV L (R ++ [q]) n := by
  have e1 : dueN L (R ++ [q]) n = dueN L R n := by
    rw [dueN_snoc]
    have : isChg L n q = false := decide_eq_false (by omega)
    rw [this]
    simp
  have e2 : ownOf L q = some q.1.2.2 := by unfold ownOf; rw [if_pos h4]
  unfold dueV
  rw [e1]
  by_cases e : n = q.1.2.2
  · rw [if_pos e, if_pos (own_snoc.mpr (.inr (by rw [e2, e]))), e]
  · rw [if_neg e]
    have : n ∈ ownersOf L (R ++ [q]) ↔ n ∈ ownersOf L R := by
      rw [own_snoc, e2]
      exact ⟨fun h => h.resolve_right fun z => e (Option.some.inj z).symm, .inl⟩
    by_cases z : n ∈ ownersOf L R
    · rw [if_pos z, if_pos (this.mpr z)]
    · rw [if_neg z, if_neg fun y => z (this.mp y)]
theorem due_add {L R : List Itm} {q : Itm} {o : Int} (hk : q.1.2.1 = 0 ∨ q.1.2.1 = 3) (ho : o = ownerAt L q.1.1) (n : Int) : (if n = o then some (V.int ((dueN L R o : Nat) + 1)) else dueV L R n) = dueV L (R ++ [q]) n := by
  have e2 : ownOf L q = some o := by unfold ownOf; rw [if_neg (by omega), if_pos hk, ho]
  unfold dueV
  rw [dueN_snoc]
  by_cases e : n = o
  · have : isChg L n q = true := decide_eq_true ⟨hk, by rw [e, ho]⟩
    rw [if_pos e, if_pos (own_snoc.mpr (.inr (by rw [e2, e]))), if_pos this, e]
    rfl
  · have : isChg L n q = false := decide_eq_false fun z => e (by rw [ho, z.2])
    rw [if_neg e, this]
    have : n ∈ ownersOf L (R ++ [q]) ↔ n ∈ ownersOf L R := by
      rw [own_snoc, e2]
      exact ⟨fun h => h.resolve_right fun z => e (Option.some.inj z).symm, .inl⟩
    by_cases z : n ∈ ownersOf L R
    · rw [if_pos z, if_pos (this.mpr z)]
      simp
    · rw [if_neg z, if_neg fun y => z (this.mp y)]
theorem due_no {L R : List Itm} {q : Itm} (h4 : q.1.2.1 ≠ 4) (hk : ¬ (q.1.2.1 = 0 ∨ q.1.2.1 = 3)) (n : Int) : dueV L (R ++ [q]) n = dueV L R n := by
  have e1 : dueN L (R ++ [q]) n = dueN L R n := by
    rw [dueN_snoc]
    have : isChg L n q = false := decide_eq_false fun z => hk z.1
    rw [this]
    simp
  have e2 : ownOf L q = none := by unfold ownOf; rw [if_neg h4, if_neg hk]
  unfold dueV
  rw [e1]
  have : n ∈ ownersOf L (R ++ [q]) ↔ n ∈ ownersOf L R := by
    rw [own_snoc, e2]
    exact ⟨fun h => h.resolve_right fun z => (nomatch z), .inl⟩
  by_cases z : n ∈ ownersOf L R
  · rw [if_pos z, if_pos (this.mpr z)]
  · rw [if_neg z, if_neg fun y => z (this.mp y)]
section
variable {P : Program} {w : World} {K : PySem.W.Frag} {mg : Str → Option Value} {base : Heap}
local macro_rules | `(tactic| walk_at "rd") => `(tactic| repeat (first | refine ⟨_, rfl, ?_⟩ | refine ⟨_, _, rfl, rfl, ?_⟩ | refine ⟨_, _, rfl, ?_⟩ | refine ⟨_, _, _, rfl, ?_⟩ | refine ⟨_, _, _, _, rfl, ?_⟩ | refine ⟨rfl, ?_⟩ | refine ⟨(by show (0 : Int) < _; decide), ?_⟩ | refine ⟨cdw (by decide) (by decide), ?_⟩ | refine ⟨Or.inl (by decide), ?_⟩ | refine ⟨Or.inr (by decide), ?_⟩ | refine And.intro len4v ?_ | refine And.intro len3v ?_ | refine And.intro len2v ?_ | refine And.intro len1v ?_ | refine And.intro (by assumption) ?_ | refine And.intro (SS.ty (by assumption)) ?_ | refine ⟨_, _, _, _, rfl, rfl, sqT_of (by assumption), (by rfl), ?_⟩ | refine ⟨_, _, _, rfl, rfl, (by assumption), (by assumption), ?_⟩ | refine ⟨_, _, rfl, (by assumption), ?_⟩ | refine ⟨_, _, _, _, _, rfl, (by assumption), rfl, (by assumption), (by assumption), ?_⟩ | refine And.intro (IntD.isD (by assumption)) ?_ | refine And.intro (Rep.isD (by assumption)) ?_ | refine ⟨_, _, rfl, sqT_of (by assumption), (by rfl), ?_⟩))
def spDue : Sp := fun vs H Q _ => ∃ d L, vs = [.ref d] ∧ Rep H d L ∧ L.length < 90000 ∧ ChgPre L ∧ ∀ H' c, H c = none → Keep [] H H' → IntD H' c (dueV L L) L.length → Q (.ref c) H'
abbrev s__due_charges : Stmt := top 36
theorem sc__due_charges : FnScope ["found", "due", "key", "owner"] ["found"] (defScope s__due_charges) := ⟨rfl, rfl, rfl, by decide +kernel, rfl, by decide +kernel, by decide +kernel⟩
theorem ok__due_charges {f : Addr} {fd : FuncData} (F : Fun K "_due_charges" "_due_charges" s__due_charges f fd) (T : Txt mg) (C_node_key : CNodeKey P w K mg base) (C_unpack_node : CUnpack P w K mg base) : FnOk P w K mg base CX0 2 f fd ["found"] spDue := by
  refine F.ok sc__due_charges (fun vs H Q E h => ?_) (fun cdv A outer s H vs Q E hr h => ?_)
  · obtain ⟨_, _, rfl, _⟩ := h
    rfl
  · obtain ⟨d, L, rfl, rep, hL, pre, q⟩ := h
    refine ⟨_, (pss_cons (ps_set (i := 1) sc__due_charges.nd rfl (Or.inl rfl) pe_dnewK)
  (pss_cons (ps_lock (ps_for PassesOwn.never rfl (pi_keys (pv 0)) (pg_name (i := 2) sc__due_charges.nd rfl (Or.inl rfl))
  (pss_one (ps_if (pt_cmpR op_eq (pe_ix ix_tup (pv 2) pe_int (fun _ _ => rfl)) (pe_gint rfl T.c_CHARGE_mending) (nomark _))
  (pss_one (ps_dput (hu_of hr) (pv 1) (pe_ix ix_tup (pv 2) pe_int (fun _ _ => rfl)) (pe_dget2 (hu_of hr) (pv 1) (pe_ix ix_tup (pv 2) pe_int (fun _ _ => rfl)) pe_int ⟨rfl, rfl, rfl, rfl⟩) rfl))
  (pss_one (ps_if (PW.pt (pw_or (pt_cmpR op_eq (pe_ix ix_tup (pv 2) pe_int (fun _ _ => rfl)) (pe_gint rfl T.c_NODE_mending) (nomark _)) (pw_or1 (pt_cmpR op_eq (pe_ix ix_tup (pv 2) pe_int (fun _ _ => rfl)) (pe_gint rfl T.c__CHUNK) (nomark _)))))
  (pss_cons (ps_set (i := 3) sc__due_charges.nd rfl (Or.inl rfl) (pe_ix ix_tup (pe_own C_unpack_node hr (by decide) rfl (pa_cons (pe_ix ix_tup (pe_dget (hu_of hr) (pv 0) (pe_own C_node_key hr (by decide) rfl (pa_cons (pe_ix ix_tup (pv 2) pe_int (fun _ _ => rfl)) pa_nil)) (fun _ _ => rfl)) pe_int (fun _ _ => rfl)) pa_nil)) pe_int (fun _ _ => rfl)))
  (pss_one (ps_dput (hu_of hr) (pv 1) (pv 3) (pe_op op_add (pe_dget2 (hu_of hr) (pv 1) (pv 3) pe_int ⟨rfl, rfl, rfl, rfl⟩) pe_int) rfl)))
  pss_nil))))))
  (pss_one (ps_ret (pv 1))))), ?_⟩
    intro c hc
    walk_at "rd"
    have hdc : d ≠ c := by
      obtain ⟨kvs, h1, _⟩ := rep
      exact ne_of_none h1 hc
    refine for_keysT (rep.new hc) (fun H1 Q q => ⟨_, rfl, q⟩) (S := [c]) (by simpa using hdc) (fun a m => by rw [List.mem_singleton.mp m, upd_same]; simp) (.one upd_same fun _ z => nomatch z)
      (fun R σ H1 => (∃ x y, σ = [some (.ref d), some (.ref c), x, y]) ∧ IntD H1 c (dueV L R) R.length) ?_ ?_ ?_
    · intro HL hHL
      refine ⟨⟨_, _, rfl⟩, [], by rw [hHL c hdc.symm]; exact upd_same, fun n => rfl, Nat.le_refl _, [], rfl, List.nodup_nil⟩
    · rintro G R q b σ H1 rt bk hq ⟨⟨x0, y0, rfl⟩, ci⟩ k1 rr hlen hb
      have hR : R.length < 90000 := by rw [List.length_append] at hlen; omega
      walk_at "rd"
      refine bI ?_ ?_ <;> intro h4
      · have h4 : q.1.2.1 = 4 := by simpa using h4
        walk_at "rd"
        have ho := ci.get q.1.2.2
        refine ⟨_, ho, ?_⟩
        rw [dueV_get]
        obtain ⟨u, p1, p2, p3⟩ := ci.put q.1.2.2 (.int (dueN L R q.1.2.2 : Nat)) (by omega)
        walk_at "rd"
        refine ⟨k1.trans (Keep.set (by simp)), ⟨_, _, rfl⟩, p2.mono (fun n => ?_) (by simp)⟩
        exact due_four h4 n
      · have h4 : q.1.2.1 ≠ 4 := by simpa using h4
        walk_at "rd"
        by_cases hk : q.1.2.1 = 0 ∨ q.1.2.1 = 3
        · obtain ⟨u, hu⟩ := pre q hq hk
          have eo : u.1 / 2 / 64 % 1000 = ownerAt L q.1.1 := by
            unfold ownerAt
            rw [hu]
            show _ = u.1 / 128 % 1000
            omega
          by_cases h0 : q.1.2.1 = 0
          · refine dT (congrArg V.int h0) ?_
            walk_at "rd"
            intro p hp
            have rr2 : RepR (upd H1 p (.tup (tv (nk q.1.1)))) d L := rr.keep (TupK.new hp) fun o e => by rw [upd_ne (ne_of_none e hp)]; exact e
            obtain ⟨a, g2, t2⟩ := rr2.get (k := nk q.1.1) T3.at hu
            walk_at "rd"
            intro p2 hp2
            have e6 : (upd (upd H1 p (.tup (tv (nk q.1.1)))) p2 (.tup [.int (u.1 % 2), .int (u.1 / 2 / 64 % 1000), .int (u.1 / 2 % 64), .int (u.1 / 2 / 64 / 1000)])) p2 = some (.tup [.int (u.1 % 2), .int (u.1 / 2 / 64 % 1000), .int (u.1 / 2 % 64), .int (u.1 / 2 / 64 / 1000)]) := upd_same
            have ci2 := (ci.new (o := .tup (tv (nk q.1.1))) hp).new (o := .tup [.int (u.1 % 2), .int (u.1 / 2 / 64 % 1000), .int (u.1 / 2 % 64), .int (u.1 / 2 / 64 / 1000)]) hp2
            walk_at "rd"
            have ho := ci2.get (u.1 / 2 / 64 % 1000)
            refine ⟨_, ho, ?_⟩
            rw [dueV_get]
            walk_at "rd"
            obtain ⟨u', p1, p3, p4⟩ := ci2.put (u.1 / 2 / 64 % 1000) (.int ((dueN L R (u.1 / 2 / 64 % 1000) : Nat) + 1)) (by omega)
            walk_at "rd"
            refine ⟨((k1.trans (Keep.new hp)).trans (Keep.new hp2)).trans (Keep.set (by simp)), ⟨_, _, rfl⟩, p3.mono (fun n => ?_) (by simp)⟩
            exact due_add hk (by rw [eo]) n
          · refine dF (fun z => h0 (V.int.inj z)) ?_
            walk_at "rd"
            refine dT (congrArg V.int (hk.resolve_left h0)) ?_
            walk_at "rd"
            intro p hp
            have rr2 : RepR (upd H1 p (.tup (tv (nk q.1.1)))) d L := rr.keep (TupK.new hp) fun o e => by rw [upd_ne (ne_of_none e hp)]; exact e
            obtain ⟨a, g2, t2⟩ := rr2.get (k := nk q.1.1) T3.at hu
            walk_at "rd"
            intro p2 hp2
            have e6 : (upd (upd H1 p (.tup (tv (nk q.1.1)))) p2 (.tup [.int (u.1 % 2), .int (u.1 / 2 / 64 % 1000), .int (u.1 / 2 % 64), .int (u.1 / 2 / 64 / 1000)])) p2 = some (.tup [.int (u.1 % 2), .int (u.1 / 2 / 64 % 1000), .int (u.1 / 2 % 64), .int (u.1 / 2 / 64 / 1000)]) := upd_same
            have ci2 := (ci.new (o := .tup (tv (nk q.1.1))) hp).new (o := .tup [.int (u.1 % 2), .int (u.1 / 2 / 64 % 1000), .int (u.1 / 2 % 64), .int (u.1 / 2 / 64 / 1000)]) hp2
            walk_at "rd"
            have ho := ci2.get (u.1 / 2 / 64 % 1000)
            refine ⟨_, ho, ?_⟩
            rw [dueV_get]
            walk_at "rd"
            obtain ⟨u', p1, p3, p4⟩ := ci2.put (u.1 / 2 / 64 % 1000) (.int ((dueN L R (u.1 / 2 / 64 % 1000) : Nat) + 1)) (by omega)
            walk_at "rd"
            refine ⟨((k1.trans (Keep.new hp)).trans (Keep.new hp2)).trans (Keep.set (by simp)), ⟨_, _, rfl⟩, p3.mono (fun n => ?_) (by simp)⟩
            exact due_add hk (by rw [eo]) n
        · refine dF (fun z => hk (.inl (V.int.inj z))) ?_
          walk_at "rd"
          refine dF (fun z => hk (.inr (V.int.inj z))) ?_
          refine ⟨k1, ⟨_, _, rfl⟩, ci.mono (fun n => ?_) (by simp)⟩
          exact (due_no h4 hk n).symm
    · rintro R σ H1 H2 pm ⟨⟨x0, y0, rfl⟩, ci⟩ e2 r2 k2
      refine ⟨_, rfl, q _ c hc (((Keep.new (S := [c]) hc).trans k2).drop hc) ?_⟩
      obtain ⟨kvs, g1, g2⟩ := ci
      have g : IntD H2 c (dueV L R) R.length := ⟨kvs, by rw [e2 c hdc.symm]; exact g1, g2⟩
      exact g.mono (fun n => dueV_perm pm n) (Nat.le_of_eq pm.length_eq)
end
end K41

/-! The walk of _mend_charges. -/
namespace K41
open PySem PySem.Spec PyProof.Rows L2 TL
theorem srtI_of {ys : List Int} (h : ys.Pairwise (· ≤ ·)) (n : ys.Nodup) : SrtI ys := by
  refine List.Pairwise.imp_of_mem ?_ (h.and n)
  rintro a b _ _ ⟨x, y⟩
  have : a ≠ b := y
  omega
/-- for o in sorted(a dict of ints) -/
theorem for_sortedI {K : PySem.W.Frag} {te : TA} {g : TG} {tb : TS} {D : Ends} {σ : L2.St} {H : Hp} {c : Addr} {gv : Int → Option V} {B : Nat} {os : List Int} {S : List Addr} (ci : IntD H c gv B) (so : SrtI os) (ho : ∀ n, n ∈ os ↔ gv n ≠ none) (ht : ∀ Q, Q [.ref c] H → te σ H Q)
    (hS : ∀ a ∈ S, H a ≠ none) (Pv : Nat → L2.St → Hp → Prop) (h0 : ∀ p o, H p = none → Pv 0 σ (upd H p o))
    (hs : ∀ G i q σ H1, os[i]? = some q → Pv i σ H1 → Keep S H G → Keep S G H1 → g (.int q) σ H1 fun σ2 H2 => tb { D with nx := fun σ3 H3 => Keep S G H3 ∧ Pv (i + 1) σ3 H3, ct := fun σ3 H3 => Keep S G H3 ∧ Pv (i + 1) σ3 H3, bk := D.nx } σ2 H2)
    (hd : ∀ σ H1, Keep S H H1 → Pv os.length σ H1 → D.nx σ H1) : tFor (iList K (tCB rSortI te)) g tb D σ H := by
  obtain ⟨kvs, h1, h2, _, ks, h4, h5⟩ := ci
  refine ht _ ⟨c, kvs, ks, rfl, .inl h1, h4, fun ys p pm pw hp => ?_⟩
  have e : ys = os := by
    refine srtI_ext (srtI_of pw (pm.nodup_iff.mpr h5)) so fun z => ?_
    rw [pm.mem_iff, ho, ← h2]
    constructor
    · intro m e
      exact valV_not e (by rw [h4]; exact List.mem_map_of_mem m)
    · intro ne
      cases q : valV kvs (Sum.inl z) with
      | none => exact absurd q ne
      | some v =>
        have := valV_in q
        rw [h4] at this
        obtain ⟨y, m, e⟩ := List.mem_map.mp this
        rw [← Sum.inl.inj e]
        exact m
  subst e
  have hpS : p ∉ S := fun m => hS p m hp
  have h1k : Keep S H (upd H p (.lst (ys.map V.int))) := Keep.new hp
  refine ⟨p, rfl, ⟨_, .inl (.inl upd_same)⟩, ?_⟩
  refine for_it (n := ys.length) (G := fun H1 => SqL K H1 p (ys.map V.int)) (Y := YAt (ys.map V.int)) ?_ (fun i σ H1 => Keep S (upd H p (.lst (ys.map V.int))) H1 ∧ Pv i σ H1) ⟨Keep.refl S _, h0 _ _ hp⟩ (fun i σ H1 _ h => .inl (.inl (h.1.at upd_same hpS))) ?_ ?_
  · have := walk_list (K := K) (a := p) (xs := ys.map V.int)
    rw [List.length_map] at this
    exact this
  · rintro i x σ1 H1 H2 hi ⟨k1, pv⟩ ⟨rfl, hx⟩
    rw [List.getElem?_map] at hx
    cases e : ys[i]? with
    | none => rw [e] at hx; cases hx
    | some q =>
      rw [e] at hx
      obtain rfl := Option.some.inj hx
      exact hs _ i q σ1 H2 e pv h1k k1
  · rintro σ1 H1 ⟨k1, pv⟩
    exact hd σ1 H1 (h1k.trans k1) pv
theorem chg_snoc (u : Int → Int) (o : Int) : ∀ (r : List Int) (L : List Itm), chg u (r ++ [o]) L = chgS u (chg u r L) o
  | [], _ => rfl
  | _ :: r, L => chg_snoc u o r _
theorem chgLs_snoc (u : Int → Int) (o : Int) : ∀ (r : List Int) (L : List Itm), chgLs u (r ++ [o]) L = chgLs u r L ++ (if (oldC (chg u r L) o).1 = u o then [] else [.charge o (oldC (chg u r L) o).1 (u o)])
  | [], L => by
    show (if (oldC L o).1 = u o then [] else _) ++ [] = _
    rw [List.append_nil]
    rfl
  | p :: r, L => by
    show (if (oldC L p).1 = u p then [] else _) ++ chgLs u (r ++ [o]) (chgS u L p) = ((if (oldC L p).1 = u p then [] else _) ++ chgLs u r (chgS u L p)) ++ _
    rw [chgLs_snoc u o r _, List.append_assoc]
    rfl
theorem len_chgS (u : Int → Int) (L : List Itm) (o : Int) : (chgS u L o).length ≤ L.length + 1 := by
  unfold chgS
  split
  · omega
  · split
    · have := List.length_filter_le (fun p : Itm => decide (p.1 ≠ ck o)) L
      unfold del
      omega
    · exact len_put _ _ _
theorem len_chg (u : Int → Int) : ∀ (r : List Int) (L : List Itm), (chg u r L).length ≤ L.length + r.length
  | [], _ => Nat.le_refl _
  | o :: r, L => by
    have h1 := len_chg u r (chgS u L o)
    have h2 := len_chgS u L o
    have e : chg u (o :: r) L = chg u r (chgS u L o) := rfl
    rw [e, List.length_cons]
    omega
theorem len_chgLs (u : Int → Int) : ∀ (r : List Int) (L : List Itm), (chgLs u r L).length ≤ r.length
  | [], _ => Nat.le_refl _
  | o :: r, L => by
    have h1 := len_chgLs u r (chgS u L o)
    have e : chgLs u (o :: r) L = (if (oldC L o).1 = u o then [] else [.charge o (oldC L o).1 (u o)]) ++ chgLs u r (chgS u L o) := rfl
    rw [e, List.length_append, List.length_cons]
    split <;> simp <;> omega
theorem len_insI (x : Int) : ∀ l : List Int, (insI x l).length ≤ l.length + 1
  | [] => Nat.le_refl _
  | y :: r => by
    unfold insI
    split
    · simp
    · split
      · simp
      · have := len_insI x r
        simp
        omega
theorem len_ownersOf (L : List Itm) : ∀ M : List Itm, (ownersOf L M).length ≤ M.length
  | [] => Nat.le_refl _
  | p :: r => by
    have h1 := len_ownersOf L r
    unfold ownersOf
    split
    · have := len_insI ‹Int› (ownersOf L r)
      simp
      omega
    · simp
      omega
theorem len_owners (L : List Itm) : (owners L).length ≤ L.length := len_ownersOf L L
section
variable {P : Program} {w : World} {K : PySem.W.Frag} {mg : Str → Option Value} {base : Heap}
local macro_rules | `(tactic| walk_at "rd") => `(tactic| repeat (first | refine ⟨_, rfl, ?_⟩ | refine ⟨_, _, rfl, rfl, ?_⟩ | refine ⟨_, _, rfl, ?_⟩ | refine ⟨_, _, _, rfl, ?_⟩ | refine ⟨_, _, _, _, rfl, ?_⟩ | refine ⟨rfl, ?_⟩ | refine ⟨(by show (0 : Int) < _; decide), ?_⟩ | refine ⟨cdw (by decide) (by decide), ?_⟩ | refine ⟨Or.inl (by decide), ?_⟩ | refine ⟨Or.inr (by decide), ?_⟩ | refine And.intro len4v ?_ | refine And.intro len3v ?_ | refine And.intro len2v ?_ | refine And.intro len1v ?_ | refine And.intro (by assumption) ?_ | refine And.intro (SS.ty (by assumption)) ?_ | refine ⟨_, _, _, _, rfl, rfl, sqT_of (by assumption), (by rfl), ?_⟩ | refine ⟨_, _, _, rfl, rfl, (by assumption), (by assumption), ?_⟩ | refine ⟨_, _, rfl, (by assumption), ?_⟩ | refine ⟨_, _, _, _, _, rfl, (by assumption), rfl, (by assumption), (by assumption), ?_⟩ | refine And.intro (IntD.isD (by assumption)) ?_ | refine And.intro (Rep.isD (by assumption)) ?_ | refine ⟨_, _, rfl, sqT_of (by assumption), (by rfl), ?_⟩))
abbrev CDue (P : Program) (w : World) (K : PySem.W.Frag) (mg : Str → Option Value) (base : Heap) : Prop := Cl P w K mg base 2 "_due_charges" ["found"] spDue
abbrev s__mend_charges : Stmt := top 37
theorem sc__mend_charges : FnScope ["found", "losses", "due", "owner", "key", "used", "bound"] ["found", "losses"] (defScope s__mend_charges) := ⟨rfl, rfl, rfl, by decide +kernel, rfl, by decide +kernel, by decide +kernel⟩
theorem ok__mend_charges {f : Addr} {fd : FuncData} (F : Fun K "_mend_charges" "_mend_charges" s__mend_charges f fd) (T : Txt mg) (C__due_charges : CDue P w K mg base) (C_charge_key : CChargeKey P w K mg base) :
    FnOk P w K mg base CX0 3 f fd ["found", "losses"] (spSt (fun L => chg (usedI L) (owners L) L) (fun L => chgLs (usedI L) (owners L) L) ChgPre) := by
  refine F.ok sc__mend_charges (fun vs H Q E h => ?_) (fun cdv A outer s H vs Q E hr h => ?_)
  · obtain ⟨_, _, _, _, rfl, _⟩ := h
    rfl
  · obtain ⟨d, l, L, ls, rfl, ss0, hL, hl, pre, q⟩ := h
    refine ⟨_, (pss_cons (ps_set (i := 2) sc__mend_charges.nd rfl (Or.inl rfl) (pe_own C__due_charges hr (by decide) rfl (pa_cons (pv 0) pa_nil)))
  (pss_one (ps_for PassesOwn.never rfl (pi_list (pe_callB (cr_sortI rfl) (by rfl) T.b_sorted (by decide +kernel) (pa_cons (pv 2) pa_nil))) (pg_name (i := 3) sc__mend_charges.nd rfl (Or.inl rfl))
  (pss_cons (ps_set (i := 4) sc__mend_charges.nd rfl (Or.inl rfl) (pe_own C_charge_key hr (by decide) rfl (pa_cons (pv 3) pa_nil)))
  (pss_cons (ps_asg (pe_dget2 (hu_of hr) (pv 0) (pv 4) (pe_tup (pa_cons pe_int (pa_cons pe_int pa_nil))) ⟨rfl, rfl, rfl, rfl⟩) (pg_tup (by rfl) (pgs_cons (pg_name (i := 5) sc__mend_charges.nd rfl (Or.inl rfl)) (pgs_cons (pg_name (i := 6) sc__mend_charges.nd rfl (Or.inl rfl)) pgs_nil))))
  (pss_one (ps_if (pt_cmpR op_ne (pv 5) (pe_dget (hu_of hr) (pv 2) (pv 3) (fun _ _ => rfl)) (nomark _))
  (pss_cons (ps_if (PW.pt (pw_and (pt_cmpR op_eq (pe_dget (hu_of hr) (pv 2) (pv 3) (fun _ _ => rfl)) pe_int (nomark _)) (pw_and1 (pt_cmpR op_eq (pv 6) pe_int (nomark _)))))
  (pss_one (ps_ddelT (hu_of hr) (pv 0) (pv 4)))
  (pss_one (ps_dput (hu_of hr) (pv 0) (pv 4) (pe_tup (pa_cons (pe_dget (hu_of hr) (pv 2) (pv 3) (fun _ _ => rfl)) (pa_cons (pv 6) pa_nil))) rfl)))
  (pss_one (ps_expr (pe_bm PySem.F.plainAttrs_list PySem.F.slot_list_append PySem.F.type_list_append mt_append (pv 1) (pa_cons (pe_tup (pa_cons pe_str (pa_cons (pv 3) (pa_cons (pv 5) (pa_cons (pe_dget (hu_of hr) (pv 2) (pv 3) (fun _ _ => rfl)) pa_nil))))) pa_nil)))))
  pss_nil))))))), ?_⟩
    walk_at "rd"
    refine ⟨d, L, rfl, ss0.rep, by omega, pre, fun H0 c hc k0 ci => ?_⟩
    have ss := ss0.keep0 k0
    have sL := ss.rep.srt
    have cd := ci.neT ss.rep
    have cl := ci.neL ss.los
    have hcS : c ∉ [d, l] := by simp [cd, cl]
    dsimp only [gName]
    refine for_sortedI ci (srt_owners L) (fun n => ?_) (fun Q q => ⟨_, rfl, q⟩) (S := [d, l]) ss.there (fun i σ H1 => (∃ x3 x4 x5 x6, σ = [some (.ref d), some (.ref l), some (.ref c), x3, x4, x5, x6]) ∧ SS H1 d l (chg (usedI L) ((owners L).take i) L) (ls ++ chgLs (usedI L) ((owners L).take i) L)) ?_ ?_ ?_
    · unfold dueV owners
      by_cases e : n ∈ ownersOf L L
      · simp [e]
      · simp [e]
    · intro p o hp
      refine ⟨⟨_, _, _, _, rfl⟩, ?_⟩
      have e : chgLs (usedI L) ((owners L).take 0) L = [] := rfl
      rw [e, List.append_nil]
      exact ss.new hp
    · rintro G i q σ H1 hq ⟨⟨x3, x4, x5, x6, rfl⟩, s1⟩ kG k1
      have ci1 := (ci.keep kG hcS).keep k1 hcS
      have tq : (owners L).take (i + 1) = (owners L).take i ++ [q] := by rw [List.take_add_one, hq]; rfl
      have hlo := len_owners L
      have hlen := len_chg (usedI L) ((owners L).take i) L
      have hlen2 := len_chgLs (usedI L) ((owners L).take i) L
      have hlt : ((owners L).take i).length ≤ (owners L).length := by rw [List.length_take]; omega
      have hll : (ls ++ chgLs (usedI L) ((owners L).take i) L).length < 90000 := by rw [List.length_append]; omega
      have hl1 : (chg (usedI L) ((owners L).take i) L).length < 90000 := by omega
      have gqf : ∀ H', IntD H' c (dueV L L) L.length → DGet H' c (.int q) (some (.int (usedI L q))) := fun H' ci' => by
        have := ci'.get q
        have e : dueV L L q = some (.int (usedI L q)) := by
          have : q ∈ ownersOf L L := List.mem_of_getElem? hq
          unfold dueV
          rw [if_pos this]
          rfl
        rw [e] at this
        exact this
      rw [tq, chg_snoc, chgLs_snoc, ← List.append_assoc]
      generalize chg (usedI L) ((owners L).take i) L = Mi at *
      generalize ls ++ chgLs (usedI L) ((owners L).take i) L = li at *
      walk_at "rd"
      intro p hp
      have ss2 := s1.new (o := .tup (tv (ck q))) hp
      have hisd := ss2.rep.isD
      walk_at "rd"
      intro p2 hp2
      have ss3 := ss2.new (o := .tup [.int 0, .int 0]) hp2
      have hb : T3 (upd (upd H1 p (.tup (tv (ck q)))) p2 (.tup [.int 0, .int 0])) p (ck q) := (T3.at (H := H1)).new hp2
      have gq := gqf _ ((ci1.new (o := .tup (tv (ck q))) hp).new (o := .tup [.int 0, .int 0]) hp2)
      obtain ⟨o, a, g1, g2, t2⟩ : ∃ o a, DGet (upd (upd H1 p (.tup (tv (ck q)))) p2 (.tup [.int 0, .int 0])) d (.ref p) o ∧ o.getD (.ref p2) = .ref a ∧ T2 (upd (upd H1 p (.tup (tv (ck q)))) p2 (.tup [.int 0, .int 0])) a (oldC Mi q) := by
        obtain ⟨o, h1, h2⟩ := ss3.rep.get? hb
        rcases h2 with ⟨rfl, e⟩ | ⟨a, v, rfl, e, t⟩
        · refine ⟨_, p2, h1, rfl, ?_⟩
          unfold oldC
          rw [e]
          exact T2.at
        · refine ⟨_, a, h1, rfl, ?_⟩
          unfold oldC
          rw [e]
          exact t
      refine ⟨o, g1, ?_⟩
      rw [g2]
      have t2' : (upd (upd H1 p (.tup (tv (ck q)))) p2 (.tup [.int 0, .int 0])) a = some (.tup [.int (oldC Mi q).1, .int (oldC Mi q).2]) := t2
      walk_at "rd"
      have k3 := (k1.trans (Keep.new (o := .tup (tv (ck q))) hp)).trans (Keep.new (o := .tup [.int 0, .int 0]) hp2)
      have ci3 := (ci1.new (o := .tup (tv (ck q))) hp).new (o := .tup [.int 0, .int 0]) hp2
      by_cases hne : (oldC Mi q).1 = usedI L q
      · refine nF (congrArg V.int hne) ?_
        have e : chgS (usedI L) Mi q = Mi := if_pos hne
        rw [e, if_pos hne, List.append_nil]
        exact ⟨k3, ⟨_, _, _, _, rfl⟩, ss3⟩
      · refine nT (fun z => hne (V.int.inj z)) ?_
        rw [if_neg hne]
        by_cases hz : usedI L q = 0
        · walk_at "rd"
          refine dT (congrArg V.int hz) ?_
          walk_at "rd"
          by_cases hz2 : (oldC Mi q).2 = 0
          · refine dT (congrArg V.int hz2) ?_
            have e : chgS (usedI L) Mi q = del Mi (ck q) := by
              unfold chgS
              rw [if_neg hne, if_pos ⟨hz, hz2⟩]
            rw [e]
            obtain ⟨v, hv⟩ : ∃ v, lk Mi (ck q) = some v := by
              cases z : lk Mi (ck q) with
              | some v => exact ⟨v, rfl⟩
              | none =>
                exfalso
                refine hne ?_
                rw [hz]
                unfold oldC
                rw [z]
                rfl
            obtain ⟨kvs, x, g3, g4, g5, ss5, k5, t5⟩ := ss3.del hb hv
            have c5 := ci3.keep k5 hcS
            walk_at "rd"
            have gq5 := gqf _ c5
            walk_at "rd"
            intro p9 hp9
            have ss9 := ss5.new (o := .tup [.str "charge", .int q, .int (oldC Mi q).1, .int (usedI L q)]) hp9
            obtain ⟨xs, a1, a2, s10, k10, t10⟩ := ss9.app (m := .charge q (oldC Mi q).1 (usedI L q)) (x := .ref p9) ⟨p9, rfl, upd_same⟩ (by omega)
            walk_at "rd"
            exact ⟨((k3.trans k5).trans (Keep.new hp9)).trans k10, ⟨_, _, _, _, rfl⟩, s10⟩
          · refine dF (fun z => hz2 (V.int.inj z)) ?_
            have e : chgS (usedI L) Mi q = put Mi (ck q) (usedI L q, (oldC Mi q).2) := by
              unfold chgS
              rw [if_neg hne, if_neg (by omega)]
            rw [e]
            walk_at "rd"
            intro p4 hp4
            have ss4 := ss3.new (o := .tup [.int (usedI L q), .int (oldC Mi q).2]) hp4
            obtain ⟨H5, g5, ss5, k5', t5⟩ := ss4.put (hb.new hp4) (T2.at (a := usedI L q) (b := (oldC Mi q).2)) (by omega)
            have k5 := (Keep.new (S := [d, l]) (o := .tup [.int (usedI L q), .int (oldC Mi q).2]) hp4).trans k5'
            have c5 := ci3.keep k5 hcS
            walk_at "rd"
            have gq5 := gqf _ c5
            walk_at "rd"
            intro p9 hp9
            have ss9 := ss5.new (o := .tup [.str "charge", .int q, .int (oldC Mi q).1, .int (usedI L q)]) hp9
            obtain ⟨xs, a1, a2, s10, k10, t10⟩ := ss9.app (m := .charge q (oldC Mi q).1 (usedI L q)) (x := .ref p9) ⟨p9, rfl, upd_same⟩ (by omega)
            walk_at "rd"
            exact ⟨((k3.trans k5).trans (Keep.new hp9)).trans k10, ⟨_, _, _, _, rfl⟩, s10⟩
        · walk_at "rd"
          refine dF (fun z => hz (V.int.inj z)) ?_
          have e : chgS (usedI L) Mi q = put Mi (ck q) (usedI L q, (oldC Mi q).2) := by
            unfold chgS
            rw [if_neg hne, if_neg (by omega)]
          rw [e]
          walk_at "rd"
          intro p4 hp4
          have ss4 := ss3.new (o := .tup [.int (usedI L q), .int (oldC Mi q).2]) hp4
          obtain ⟨H5, g5, ss5, k5', t5⟩ := ss4.put (hb.new hp4) (T2.at (a := usedI L q) (b := (oldC Mi q).2)) (by omega)
          have k5 := (Keep.new (S := [d, l]) (o := .tup [.int (usedI L q), .int (oldC Mi q).2]) hp4).trans k5'
          have c5 := ci3.keep k5 hcS
          walk_at "rd"
          have gq5 := gqf _ c5
          walk_at "rd"
          intro p9 hp9
          have ss9 := ss5.new (o := .tup [.str "charge", .int q, .int (oldC Mi q).1, .int (usedI L q)]) hp9
          obtain ⟨xs, a1, a2, s10, k10, t10⟩ := ss9.app (m := .charge q (oldC Mi q).1 (usedI L q)) (x := .ref p9) ⟨p9, rfl, upd_same⟩ (by omega)
          walk_at "rd"
          exact ⟨((k3.trans k5).trans (Keep.new hp9)).trans k10, ⟨_, _, _, _, rfl⟩, s10⟩
    · rintro σ H1 k1 ⟨_, s1⟩
      rw [List.take_length] at s1
      exact q _ ((k0.mono (by simp)).trans k1) s1
end
end K41

/-! Comprehensions, loops over a list; the walk of mend_items. -/
namespace K41
open PySem PySem.Spec PyProof.Rows L2 TL
theorem SqL.keep {K : PySem.W.Frag} {S : List Addr} {H H' : Hp} {a : Addr} {xs : List V} (q : SqL K H a xs) (k : Keep S H H') (n : a ∉ S) : SqL K H' a xs := by
  rcases q with (q | ⟨o, q⟩) | q
  · exact .inl (.inl (k.at q n))
  · exact .inl (.inr ⟨o, k.at q n⟩)
  · exact .inr q
theorem for_seq {K : PySem.W.Frag} {te : TE} {g : TG} {tb : TS} {D : Ends} {σ : L2.St} {H : Hp} {a : Addr} {xs : List V} {S : List Addr} (sq : SqL K H a xs) (ht : ∀ Q, Q (.ref a) H → te σ H Q) (hS : a ∉ S)
    (Pv : Nat → L2.St → Hp → Prop) (h0 : Pv 0 σ H)
    (hs : ∀ i x σ H1, xs[i]? = some x → Pv i σ H1 → Keep S H H1 → g x σ H1 fun σ2 H2 => tb { D with nx := fun σ3 H3 => Keep S H H3 ∧ Pv (i + 1) σ3 H3, ct := fun σ3 H3 => Keep S H H3 ∧ Pv (i + 1) σ3 H3, bk := D.nx } σ2 H2)
    (hd : ∀ σ H1, Keep S H H1 → Pv xs.length σ H1 → D.nx σ H1) : tFor (iList K te) g tb D σ H := by
  refine ht _ ⟨a, rfl, ⟨xs, sq⟩, ?_⟩
  refine for_it walk_list (fun i σ H1 => Keep S H H1 ∧ Pv i σ H1) ⟨Keep.refl S _, h0⟩ (fun i σ H1 _ h => SqL.keep sq h.1 hS) ?_ ?_
  · rintro i x σ1 H1 H2 hi ⟨k1, pv⟩ ⟨rfl, hx⟩
    exact hs i x σ1 H2 hx pv k1
  · rintro σ1 H1 ⟨k1, pv⟩
    exact hd σ1 H1 k1 pv
/-- the inside of a comprehension that makes new things alone -/
theorem lc_gen {α : Type} {J : It} {Ls : List α} {G : Hp → Prop} {Y : Nat → Hp → V → Hp → Prop} {g : TG} {tt : TT} {te : TE} {vs : List Nat} {σ : L2.St} {H : Hp} {Q : VK} (Fx : Hp → V → α → Prop) (Rl : Hp → V → α → Prop) (sel : α → Bool)
    (w : Walk J Ls.length G Y) (hl : Ls.length < 1000000) (hG : ∀ H1, Keep [] H H1 → G H1) (hY : ∀ i H1 x H2, Keep [] H H1 → Y i H1 x H2 → H2 = H1 ∧ ∃ q, Ls[i]? = some q ∧ Fx H1 x q)
    (keepR : ∀ H H' x q, TupK H H' → Rl H x q → Rl H' x q)
    (hs : ∀ x q H1 (N1 : V → Hp → Prop) (N2 : Hp → Prop), q ∈ Ls → Keep [] H H1 → Fx H1 x q → (∀ y H4, Keep [] H1 H4 → Rl H4 y q → sel q = true → N1 y H4) → (∀ H3, Keep [] H1 H3 → sel q = false → N2 H3) →
      g x (wipe σ vs) H1 fun σ2 H2 => wipe σ2 vs = wipe σ vs ∧ tt σ2 H2 fun c H3 => if c = true then te σ2 H3 N1 else N2 H3)
    (hd : ∀ D H1 ys, H D = none → Keep [] H H1 → H1 D = some (.lst ys) → Paired (Rl H1) ys (Ls.filter sel) → Q (.ref D) H1) :
    ∀ D, H D = none → ∃ W : Nat → Nat → Hp → Prop, (∃ m, W 0 m (upd H D (.lst []))) ∧ ∀ i m H, W i m H →
      (J.stop i H ∧ Q (.ref D) H) ∨ (J.go i H ∧ ∃ Nx : Hp → Prop, (∀ H', Nx H' → ∃ m', m' < m ∧ W (i + 1) m' H') ∧ ∀ x H', J.yld i H x H' → g x (wipe σ vs) H' fun σ2 H2 => wipe σ2 vs = wipe σ vs ∧ tt σ2 H2 fun b H3 =>
        if b = true then te σ2 H3 fun y H4 => ∃ acc, H4 D = some (.lst acc) ∧ acc.length < sizeLine ∧ Nx (upd H4 D (.lst (acc ++ [y]))) else Nx H3) := by
  intro D hD
  refine lc_it w (Qd := fun H1 => Q (.ref D) H1) (fun i H1 => Keep [] H H1 ∧ ∃ ys, H1 D = some (.lst ys) ∧ Paired (Rl H1) ys ((Ls.take i).filter sel)) ⟨Keep.new hD, [], upd_same, .nil⟩ (fun i H1 _ h => hG H1 h.1) ?_ ?_
  · rintro i x H1 H2 hi ⟨k1, ys, h1, h2⟩ y
    obtain ⟨rfl, q, hq, fx⟩ := hY i H1 x H2 k1 y
    have et : Ls.take (i + 1) = Ls.take i ++ [q] := by rw [List.take_add_one, hq]; rfl
    refine hs x q H2 _ _ (List.mem_of_getElem? hq) k1 fx (fun y H4 k4 r4 s4 => ?_) fun H3 k3 s3 => ?_
    · have h4 : H4 D = some (.lst ys) := k4.at h1 (by simp)
      have hlen : ys.length ≤ Ls.length := by
        rw [Paired.length h2]
        refine Nat.le_trans (List.length_filter_le _ _) ?_
        rw [List.length_take]
        omega
      have tk4 : TupK H4 (upd H4 D (.lst (ys ++ [y]))) := TupK.set h4 fun _ z => nomatch z
      refine ⟨ys, h4, by rw [sizeLine_eq]; omega, ?_, ys ++ [y], upd_same, ?_⟩
      · have := ((Keep.mono (T := [D]) k1 (by simp)).trans (Keep.mono (T := [D]) k4 (by simp))).trans (Keep.set (H := H4) (p := D) (o := .lst (ys ++ [y])) (by simp))
        exact this.drop hD
      · rw [et, List.filter_append, List.filter_cons_of_pos s4]
        exact Paired.snoc (Paired.mapP h2 fun a b r => keepR _ _ _ _ tk4 (keepR _ _ _ _ (k4.tup (NoTup.nil _)) r)) (keepR _ _ _ _ tk4 r4)
    · refine ⟨k1.trans k3, ys, k3.at h1 (by simp), ?_⟩
      rw [et, List.filter_append, List.filter_cons_of_neg (by simp [s3])]
      simp only [List.filter_nil, List.append_nil]
      exact Paired.mapP h2 fun a b r => keepR _ _ _ _ (k3.tup (NoTup.nil _)) r
  · rintro H1 ⟨k1, ys, h1, h2⟩
    rw [List.take_length] at h2
    exact hd D H1 ys hD k1 h1 h2
/-- [.. for key in sorted(found) if ..] -/
theorem lc_sorted {K : PySem.W.Frag} {ta : TA} {g : TG} {tt : TT} {te : TE} {vs : List Nat} {σ : L2.St} {H : Hp} {Q : VK} {d : Addr} {L : List Itm} (Rl : Hp → V → Itm → Prop) (sel : Itm → Bool) (rep : RepR H d L) (ht : ∀ Q, Q [.ref d] H → ta σ H Q) (hl : L.length < 1000000)
    (keepR : ∀ H H' x q, TupK H H' → Rl H x q → Rl H' x q)
    (hs : ∀ b q H1 (N1 : V → Hp → Prop) (N2 : Hp → Prop), q ∈ L → Keep [] H H1 → T3 H1 b q.1 → (∀ y H4, Keep [] H1 H4 → Rl H4 y q → sel q = true → N1 y H4) → (∀ H3, Keep [] H1 H3 → sel q = false → N2 H3) →
      g (.ref b) (wipe σ vs) H1 fun σ2 H2 => wipe σ2 vs = wipe σ vs ∧ tt σ2 H2 fun c H3 => if c = true then te σ2 H3 N1 else N2 H3)
    (hd : ∀ D H1 ys, H D = none → Keep [] H H1 → H1 D = some (.lst ys) → Paired (Rl H1) ys (L.filter sel) → Q (.ref D) H1) : tLc (iList K (tCB rSortD ta)) g tt te vs σ H Q := by
  obtain ⟨kvs, h1, h2⟩ := rep
  obtain ⟨ks, e1, e2⟩ := h2.keys
  refine ht _ ⟨d, kvs, ks, rfl, h1, e1, fun p bs hp pm pw hb => ?_⟩
  have hk : bs.map (·.2) = L.map (·.1) := keys_sorted h2.1 (pm.trans e2) pw
  have hll : bs.length = L.length := by
    have := congrArg List.length hk
    simpa using this
  refine ⟨p, rfl, ⟨_, .inl (.inl upd_same)⟩, ?_⟩
  have hw := walk_list (K := K) (a := p) (xs := bs.map fun x => V.ref x.1)
  rw [List.length_map, hll] at hw
  have kp : Keep [] H (upd H p (.lst (bs.map fun x => V.ref x.1))) := Keep.new hp
  refine lc_gen (Ls := L) (fun H1 x q => ∃ b, x = .ref b ∧ T3 H1 b q.1) Rl sel hw hl (fun H1 k => .inl (.inl (k.at upd_same (by simp)))) ?_ keepR ?_ ?_
  · rintro i H1 x H2 k1 ⟨rfl, hx⟩
    refine ⟨rfl, ?_⟩
    rw [List.getElem?_map] at hx
    cases e : bs[i]? with
    | none => rw [e] at hx; cases hx
    | some bk =>
      rw [e] at hx
      obtain rfl := Option.some.inj hx
      have hi : i < L.length := by rw [← hll]; exact (List.getElem?_eq_some_iff.mp e).1
      obtain ⟨q, hq⟩ : ∃ q, L[i]? = some q := ⟨L[i], List.getElem?_eq_getElem hi⟩
      have ek : bk.2 = q.1 := by
        have := congrArg (fun l => l[i]?) hk
        simp only [List.getElem?_map, e, hq] at this
        exact Option.some.inj this
      refine ⟨q, hq, bk.1, rfl, ?_⟩
      have := hb bk (List.mem_of_getElem? e)
      rw [ek] at this
      exact ((show T3 H bk.1 q.1 from this).keep (kp.tup (NoTup.nil _))).keep (k1.tup (NoTup.nil _))
  · rintro x q H1 N1 N2 hq k1 ⟨b, rfl, t⟩ n1 n2
    exact hs b q H1 N1 N2 hq (kp.trans k1) t n1 n2
  · intro D H1 ys hD k1 e1 e2
    refine hd D H1 ys ?_ (kp.trans k1) e1 e2
    exact kp.free hD (by simp)
end K41

/-! The walk of mend_items. -/
namespace K41
open PySem PySem.Spec PyProof.Rows L2 TL
/-- what is left of a sound list -/
def Left (L : List Itm) : Prop := ∃ W, Sound W ∧ Names W ∧ Srt L ∧ ∀ p ∈ L, p ∈ W
theorem Left.movPre {L : List Itm} (h : Left L) : MovPre (m3 L) := by
  obtain ⟨W, ⟨rk, R, S, C⟩, N, s, hW⟩ := h
  exact ⟨rk, R, (part_m3 s hW).mov S N⟩
theorem Left.chgPre {L : List Itm} (h : Left L) : ChgPre (m5 L) := by
  obtain ⟨rk, R, M⟩ := h.movPre
  have S := (M.all R).snd R
  intro p m e
  rcases S.fit _ _ m with f | ⟨_, _, w, f, _⟩
  · have := f.2.1
    omega
  · exact ⟨w, lk_of_mem S.srt f⟩
theorem len_m1 (L : List Itm) : (m1 L).length ≤ L.length + 1 := by
  unfold m1 rootS
  split
  · omega
  · exact len_put _ _ _
theorem len_m2 (L : List Itm) : (m2 L).length ≤ L.length + 1 := Nat.le_trans (List.length_filter_le _ _) (len_m1 L)
theorem len_m3 (L : List Itm) : (m3 L).length ≤ L.length + 1 := Nat.le_trans (List.length_filter_le _ _) (len_m2 L)
theorem len_orph (L : List Itm) : (orphans L).length ≤ L.length := by
  unfold orphans
  rw [List.length_map]
  exact List.length_filter_le _ _
theorem len_m4 (L : List Itm) : (m4 L).length ≤ 3 * L.length + 3 := by
  have h1 := len_mv (orphans (m3 L)) (m3 L)
  have h2 := len_orph (m3 L)
  have h3 := len_m3 L
  unfold m4
  omega
theorem len_m5 (L : List Itm) : (m5 L).length ≤ 3 * L.length + 3 := by
  unfold m5 linkS
  rw [List.length_map]
  exact len_m4 L
theorem len_m6 (L : List Itm) : (m6 L).length ≤ 6 * L.length + 6 := by
  have h1 := len_chg (usedI (m5 L)) (owners (m5 L)) (m5 L)
  have h2 := len_owners (m5 L)
  have h3 := len_m5 L
  unfold m6
  omega
theorem len_rootLs (L : List Itm) : (rootLs L).length ≤ 1 := by unfold rootLs; split <;> simp
theorem len_itemLs (L : List Itm) : (itemLs L).length ≤ L.length := by unfold itemLs; rw [List.length_map]; exact List.length_filter_le _ _
theorem len_entLs (L : List Itm) : (entLs L).length ≤ L.length := by unfold entLs; rw [List.length_map]; exact List.length_filter_le _ _
theorem len_linkLs (L : List Itm) : (linkLs L).length ≤ L.length := by unfold linkLs; rw [List.length_map]; exact List.length_filter_le _ _
theorem len0v : ([] : List V).length ≤ sizeLine := by rw [sizeLine_eq]; simp
section
variable {P : Program} {w : World} {K : PySem.W.Frag} {mg : Str → Option Value} {base : Heap}
local macro_rules | `(tactic| walk_at "rd") => `(tactic| repeat (first | refine ⟨_, rfl, ?_⟩ | refine ⟨_, _, rfl, rfl, ?_⟩ | refine ⟨_, _, rfl, ?_⟩ | refine ⟨_, _, _, rfl, ?_⟩ | refine ⟨_, _, _, _, rfl, ?_⟩ | refine ⟨rfl, ?_⟩ | refine ⟨(by show (0 : Int) < _; decide), ?_⟩ | refine ⟨cdw (by decide) (by decide), ?_⟩ | refine ⟨Or.inl (by decide), ?_⟩ | refine ⟨Or.inr (by decide), ?_⟩ | refine And.intro len4v ?_ | refine And.intro len3v ?_ | refine And.intro len2v ?_ | refine And.intro len1v ?_ | refine And.intro len0v ?_ | refine And.intro (by assumption) ?_ | refine And.intro (SS.ty (by assumption)) ?_ | refine ⟨_, _, _, _, rfl, rfl, sqT_of (by assumption), (by rfl), ?_⟩ | refine ⟨_, _, _, rfl, rfl, (by assumption), (by assumption), ?_⟩ | refine ⟨_, _, rfl, (by assumption), ?_⟩ | refine ⟨_, _, _, _, _, rfl, (by assumption), rfl, (by assumption), (by assumption), ?_⟩ | refine And.intro (IntD.isD (by assumption)) ?_ | refine And.intro (Rep.isD (by assumption)) ?_ | refine ⟨_, _, rfl, sqT_of (by assumption), (by rfl), ?_⟩))
def spMend : Sp := fun vs H Q _ => ∃ a xs L, vs = [.ref a] ∧ H a = some (.lst xs) ∧ Items H xs L ∧ L.length < 4000 ∧ Left L ∧
  ∀ H' p b c xs' ys, Keep [] H H' → H b = none → H' p = some (.tup [.ref b, .ref c]) → H' b = some (.lst xs') → Items H' xs' (m6 L) → H' c = some (.lst ys) → LossesAt H' ys (losses L) → Q (.ref p) H'
abbrev CSt (P : Program) (w : World) (K : PySem.W.Frag) (mg : Str → Option Value) (base : Heap) (k : Nat) (x : Str) (f : List Itm → List Itm) (g : List Itm → List Loss) (pre : List Itm → Prop) : Prop := Cl P w K mg base k x ["found", "losses"] (spSt f g pre)
abbrev s_mend_items : Stmt := top 38
theorem sc_mend_items : FnScope ["items", "found", "key", "value", "losses"] ["items"] (defScope s_mend_items) := ⟨rfl, rfl, rfl, by decide +kernel, rfl, by decide +kernel, by decide +kernel⟩
theorem ok_mend_items {f : Addr} {fd : FuncData} (F : Fun K "mend_items" "mend_items" s_mend_items f fd) (T : Txt mg) (C__mend_root : CSt P w K mg base 2 "_mend_root" rootS rootLs fun _ => True) (C__remove_items : CSt P w K mg base 2 "_remove_items" itemS itemLs fun _ => True) (C__remove_entries : CSt P w K mg base 2 "_remove_entries" entS entLs fun _ => True)
    (C__move_nodes : CSt P w K mg base 5 "_move_nodes" (fun L => mv (orphans L) L) (fun L => mvLs (orphans L) L) MovPre) (C__mend_links : CSt P w K mg base 2 "_mend_links" linkS linkLs fun _ => True)
    (C__mend_charges : CSt P w K mg base 3 "_mend_charges" (fun L => chg (usedI L) (owners L) L) (fun L => chgLs (usedI L) (owners L) L) ChgPre) : FnOk P w K mg base CX0 6 f fd ["items"] spMend := by
  refine F.ok sc_mend_items (fun vs H Q E h => ?_) (fun cdv A outer s H vs Q E hr h => ?_)
  · obtain ⟨_, _, _, rfl, _⟩ := h
    rfl
  · obtain ⟨a, xs, L, rfl, ha, it, hL, lf, q⟩ := h
    refine ⟨_, (pss_cons (ps_set (i := 1) sc_mend_items.nd rfl (Or.inr rfl) pe_dnewT)
  (pss_cons (ps_for PassesOwn.never rfl (pi_list (pv 0)) (pg_tup (by rfl) (pgs_cons (pg_name (i := 2) sc_mend_items.nd rfl (Or.inl rfl)) (pgs_cons (pg_name (i := 3) sc_mend_items.nd rfl (Or.inl rfl)) pgs_nil)))
  (pss_one (ps_dput (hu_of hr) (pv 1) (pv 2) (pv 3) rfl)))
  (pss_cons (ps_set (i := 4) sc_mend_items.nd rfl (Or.inl rfl) (pe_lst pa_nil))
  (pss_cons (ps_expr (pe_own C__mend_root hr (by decide) rfl (pa_cons (pv 1) (pa_cons (pv 4) pa_nil))))
  (pss_cons (ps_expr (pe_own C__remove_items hr (by decide) rfl (pa_cons (pv 1) (pa_cons (pv 4) pa_nil))))
  (pss_cons (ps_expr (pe_own C__remove_entries hr (by decide) rfl (pa_cons (pv 1) (pa_cons (pv 4) pa_nil))))
  (pss_cons (ps_expr (pe_own C__move_nodes hr (by decide) rfl (pa_cons (pv 1) (pa_cons (pv 4) pa_nil))))
  (pss_cons (ps_expr (pe_own C__mend_links hr (by decide) rfl (pa_cons (pv 1) (pa_cons (pv 4) pa_nil))))
  (pss_cons (ps_expr (pe_own C__mend_charges hr (by decide) rfl (pa_cons (pv 1) (pa_cons (pv 4) pa_nil))))
  (pss_one (ps_ret (pe_tup (pa_cons (pe_lc (own := [("key", 2)]) (g := gName 2) (tt := tYes) rfl sc_mend_items.nd (pi_list (pe_callB (cr_sortD rfl) (by rfl) T.b_sorted (by decide +kernel) (pa_cons (pv 1) pa_nil))) (blkOk_by (N := ["items", "found", "key", "value", "losses"]) (sc := defScope s_mend_items) (by decide +kernel)) (fun _ _ _ _ _ => pg_name (i := 2) sc_mend_items.nd rfl (Or.inl rfl)) (fun _ _ _ _ _ => pts_nil) (fun _ _ _ _ _ => (pe_tup (pa_cons (pv 2) (pa_cons (pe_dget (hu_of hr) (pv 1) (pv 2) (fun _ _ => rfl)) pa_nil))))) (pa_cons (pv 4) pa_nil)))))))))))))), ?_⟩
    intro d hd
    have sL : Srt L := let ⟨_, _, _, s, _⟩ := lf; s
    have had : a ≠ d := ne_of_none ha hd
    dsimp only [gName]
    have ha1 : upd H d (.dT []) a = some (.lst xs) := by rw [upd_ne had]; exact ha
    have lxs : xs.length = L.length := Paired.length it
    refine for_seq (a := a) (xs := xs) (S := [d]) (.inl (.inl ha1)) (fun Q q => ⟨_, rfl, q⟩) (by simpa using had) (fun i σ H1 => (∃ x2 x3 x4, σ = [some (.ref a), some (.ref d), x2, x3, x4]) ∧ Rep H1 d (L.take i)) ⟨⟨_, _, _, rfl⟩, [], upd_same, Ents.nil _⟩ ?_ ?_
    · rintro i x σ H1 hx ⟨⟨x2, x3, x4, rfl⟩, rep⟩ k1
      obtain ⟨p, hp, e, b, c, rfl, t1, t2, t3⟩ := Paired.get it hx
      have tk : TupK H H1 := (TupK.new (o := .dT []) hd).trans (k1.tup (.one upd_same fun _ z => nomatch z))
      have t1 := tk _ _ t1
      have t2 := T3.keep tk t2
      have t3 := T2.keep tk t3
      have hi : i < L.length := (List.getElem?_eq_some_iff.mp hp).1
      obtain ⟨o, g1, g2, _, _, g3⟩ := rep.put t2 t3 (by rw [List.length_take]; omega)
      walk_at "rd"
      refine ⟨k1.trans (Keep.set (by simp)), ⟨_, _, _, rfl⟩, ?_⟩
      rw [take_snoc hp, ← put_last (srt_before sL hp)]
      exact g2
    · rintro σ H1 k1 ⟨⟨x2, x3, x4, rfl⟩, rep⟩
      rw [lxs, List.take_length] at rep
      walk_at "rd"
      intro l hl
      have k1d : Keep [] H H1 := by
        have := (Keep.new (S := [d]) (o := .dT []) hd).trans k1
        exact this.drop hd
      have ss : SS (upd H1 l (.lst [])) d l L [] := ⟨rep.new hl, [], upd_same, .nil⟩
      have hl1 : H l = none := k1d.free hl (by simp)
      have h1 := len_m1 L
      have h2 := len_m2 L
      have h3 := len_m3 L
      have h4 := len_m4 L
      have h5 := len_m5 L
      have h6 := len_m6 L
      have g1 := len_rootLs L
      have g2 := len_itemLs (m1 L)
      have g3 := len_entLs (m2 L)
      have g4 := mvLs_len (orphans (m3 L)) (m3 L)
      have g4' := len_orph (m3 L)
      have g5 := len_linkLs (m4 L)
      walk_at "rd"
      refine ⟨d, l, L, [], rfl, ss, by omega, by simp, trivial, fun H2 k2 s2 => ?_⟩
      walk_at "rd"
      refine ⟨d, l, m1 L, _, rfl, s2, by omega, by simp; omega, trivial, fun H3 k3 s3 => ?_⟩
      walk_at "rd"
      refine ⟨d, l, m2 L, _, rfl, s3, by omega, by simp; omega, trivial, fun H4 k4 s4 => ?_⟩
      walk_at "rd"
      refine ⟨d, l, m3 L, _, rfl, s4, by omega, by simp; omega, lf.movPre, fun H5 k5 s5 => ?_⟩
      walk_at "rd"
      refine ⟨d, l, m4 L, _, rfl, s5, by omega, by simp; omega, trivial, fun H6 k6 s6 => ?_⟩
      walk_at "rd"
      refine ⟨d, l, m5 L, _, rfl, s6, by omega, by simp; omega, lf.chgPre, fun H7 k7 s7 => ?_⟩
      dsimp only [tRet, tTup, tCons]
      have kall : Keep [] H H7 := by
        have kk : Keep [d, l] H H7 := (((((((k1d.mono (by simp)).trans (Keep.new hl)).trans k2).trans k3).trans k4).trans k5).trans k6).trans k7
        intro z u e _
        exact kk z u e (by simp only [List.mem_cons, List.not_mem_nil, or_false]; rintro (rfl | rfl) <;> simp_all)
      have s7' : SS H7 d l (m6 L) (losses L) := s7
      refine lc_sorted ItemAt (fun _ => true) s7'.rep.r (fun Q q => ⟨_, rfl, q⟩) (by omega) (fun H H' x q k r => r.keep k) ?_ ?_
      · intro b q H8 N1 N2 hq k8 hb n1 n2
        have s8 := s7'.keep0 k8
        obtain ⟨a9, g9, t9⟩ := s8.rep.get hb (lk_of_mem s8.rep.srt hq)
        walk_at "rd"
        intro p hp
        exact n1 _ _ (Keep.new hp) ⟨p, b, a9, rfl, upd_same, hb.new hp, t9.new hp⟩ rfl
      · intro D H8 ys hD k8 e8 i8
        obtain ⟨zs, z1, z2⟩ := s7'.los
        walk_at "rd"
        intro p hp
        have tk9 : TupK H8 (upd H8 p (.tup [.ref D, .ref l])) := TupK.new hp
        have z1' := k8.at z1 (by simp)
        refine q _ p D l ys zs ((kall.trans k8).trans (Keep.new hp)) (kall.free hD (by simp)) upd_same ?_ ?_ ?_ ?_
        · rw [upd_ne (ne_of_none e8 hp)]
          exact e8
        · have e : (m6 L).filter (fun _ => true) = m6 L := List.filter_eq_self.mpr fun _ _ => rfl
          rw [e] at i8
          exact Items.keep tk9 i8
        · rw [upd_ne (ne_of_none z1' hp)]
          exact z1'
        · exact Paired.mapP z2 fun _ _ r => (r.keep (k8.tup (NoTup.nil _))).keep tk9
end
end K41

/-! The law's box and draws. -/
namespace K41
open PySem PySem.Spec PyProof.Rows L2 TL
theorem sqL_of {K : PySem.W.Frag} {H : Hp} {a : Addr} {xs : List V} (h : H a = some (.lst xs)) : SqL K H a xs := .inl (.inl h)
theorem cr_int {X : Cx} : CallR X (.type "int") (fun xs H Q => ∃ i, xs = [.int i] ∧ Q (.int i) H) := fun pins s σ H xs us Q I r h => call_int1 pins s σ H xs us Q I r (.inl h)
theorem atI_in {α : Type} {xs : List α} {i : Int} (h0 : 0 ≤ i) (h : i < xs.length) : ∃ x, x ∈ xs ∧ xs[i.toNat]? = some x ∧ atI xs i = some x := by
  have hlt : i.toNat < xs.length := by omega
  refine ⟨xs[i.toNat], List.getElem_mem hlt, List.getElem?_eq_getElem hlt, ?_⟩
  have e : ((i.toNat : Nat) : Int) = i := by omega
  have := atI_nat (xs := xs) (j := i.toNat) (List.getElem?_eq_getElem hlt)
  rw [e] at this
  exact this
theorem atI_ints {ns : List Int} {i : Int} (h0 : 0 ≤ i) (h : i < ns.length) : ∃ x, x ∈ ns ∧ atI (ns.map V.int) i = some (V.int x) := by
  obtain ⟨v, h1, h2, h3⟩ := atI_in (xs := ns.map V.int) h0 (by rw [List.length_map]; exact h)
  obtain ⟨x, hx, rfl⟩ := List.mem_map.mp h1
  exact ⟨x, hx, h3⟩
theorem lenNv {xs : List V} (h : xs.length < 1000) : xs.length ≤ sizeLine := by rw [sizeLine_eq]; omega
/-- [.. for x in a list if ..] -/
theorem lc_seq {K : PySem.W.Frag} {te0 : TE} {g : TG} {tt : TT} {te : TE} {vs : List Nat} {σ : L2.St} {H : Hp} {Q : VK} {xs : List V} (Rl : Hp → V → V → Prop) (sel : V → Bool) (ht : ∀ k : VK, (∀ p H1, Keep [] H H1 → SqL K H1 p xs → k (.ref p) H1) → te0 σ H k) (hl : xs.length < 1000000)
    (keepR : ∀ H H' x q, TupK H H' → Rl H x q → Rl H' x q)
    (hs : ∀ x H1 (N1 : V → Hp → Prop) (N2 : Hp → Prop), x ∈ xs → Keep [] H H1 → (∀ y H4, Keep [] H1 H4 → Rl H4 y x → sel x = true → N1 y H4) → (∀ H3, Keep [] H1 H3 → sel x = false → N2 H3) →
      g x (wipe σ vs) H1 fun σ2 H2 => wipe σ2 vs = wipe σ vs ∧ tt σ2 H2 fun c H3 => if c = true then te σ2 H3 N1 else N2 H3)
    (hd : ∀ D H1 ys, H D = none → Keep [] H H1 → H1 D = some (.lst ys) → Paired (Rl H1) ys (xs.filter sel) → Q (.ref D) H1) : tLc (iList K te0) g tt te vs σ H Q := by
  refine ht _ fun p H0 k0 sq => ?_
  refine ⟨p, rfl, ⟨_, sq⟩, ?_⟩
  refine lc_gen (Ls := xs) (fun _ x q => x = q) Rl sel walk_list hl (fun H1 k => SqL.keep sq k (by simp)) ?_ keepR ?_ ?_
  · rintro i H1 x H2 k1 ⟨rfl, hx⟩
    exact ⟨rfl, x, hx, rfl⟩
  · rintro x q H1 N1 N2 hq k1 rfl n1 n2
    exact hs x H1 N1 N2 hq (k0.trans k1) n1 n2
  · intro D H1 ys hD k1 e1 e2
    exact hd D H1 ys (k0.free hD (by simp)) (k0.trans k1) e1 e2
theorem ints_of : ∀ {ys : List V}, (∀ y ∈ ys, ∃ i, y = V.int i) → ∃ ms : List Int, ys = ms.map V.int
  | [], _ => ⟨[], rfl⟩
  | y :: ys, h => by
    obtain ⟨i, rfl⟩ := h y List.mem_cons_self
    obtain ⟨ms, rfl⟩ := ints_of (ys := ys) fun z m => h z (List.mem_cons_of_mem _ m)
    exact ⟨i :: ms, rfl⟩
theorem Paired.left {α β : Type} {F : α → β → Prop} : ∀ {l : List α} {m : List β}, Paired F l m → ∀ x ∈ l, ∃ y ∈ m, F x y
  | _, _, .nil, x, h => absurd h (by simp)
  | _, _, .cons r t, x, h => by
    rcases List.mem_cons.mp h with e | h
    · rw [e]; exact ⟨_, List.mem_cons_self, r⟩
    · obtain ⟨y, m, f⟩ := Paired.left t x h
      exact ⟨y, List.mem_cons_of_mem _ m, f⟩
theorem cut_mem {xs : List V} {lo hi : Option Int} {x : V} (h : x ∈ cutV xs lo hi) : x ∈ xs := List.mem_of_mem_drop (List.mem_of_mem_take h)
/-- a box: what is drawn from it is not told -/
def BoxAt (H : Hp) (b cs : Addr) : Prop := ∃ (pos num left seed : Int) (ns : List Int), H b = some (.lst [.ref cs, .int pos, .int num, .int left, .int seed]) ∧ H cs = some (.lst (ns.map V.int)) ∧ cs ≠ b ∧ 0 ≤ pos
theorem BoxAt.keep {S : List Addr} {H H' : Hp} {b cs : Addr} (h : BoxAt H b cs) (k : Keep S H H') (n1 : b ∉ S) (n2 : cs ∉ S) : BoxAt H' b cs := by
  obtain ⟨pos, num, left, seed, ns, h1, h2, h3⟩ := h
  exact ⟨pos, num, left, seed, ns, k.at h1 n1, k.at h2 n2, h3⟩
theorem BoxAt.new {H : Hp} {b cs p : Addr} {o : HO} (h : BoxAt H b cs) (hp : H p = none) : BoxAt (upd H p o) b cs := h.keep (Keep.new (S := []) hp) (by simp) (by simp)
theorem BoxAt.ne {H : Hp} {b cs : Addr} (h : BoxAt H b cs) : cs ≠ b := let ⟨_, _, _, _, _, _, _, h3, _⟩ := h; h3
theorem BoxAt.b {H : Hp} {b cs : Addr} (h : BoxAt H b cs) : ∃ xs, H b = some (.lst xs) := let ⟨_, _, _, _, _, h1, _⟩ := h; ⟨_, h1⟩
theorem BoxAt.cs {H : Hp} {b cs : Addr} (h : BoxAt H b cs) : ∃ xs, H cs = some (.lst xs) := let ⟨_, _, _, _, _, _, h1, _⟩ := h; ⟨_, h1⟩
section
variable {P : Program} {w : World} {K : PySem.W.Frag} {mg : Str → Option Value} {base : Heap}
local macro_rules | `(tactic| walk_at "rd") => `(tactic| repeat (first | refine ⟨_, rfl, ?_⟩ | refine ⟨_, _, rfl, rfl, ?_⟩ | refine ⟨_, _, rfl, ?_⟩ | refine ⟨_, _, _, rfl, ?_⟩ | refine ⟨_, _, _, _, rfl, ?_⟩ | refine ⟨rfl, ?_⟩ | refine ⟨(by show (0 : Int) < _; decide), ?_⟩ | refine ⟨cdw (by decide) (by decide), ?_⟩ | refine ⟨Or.inl (by decide), ?_⟩ | refine ⟨Or.inr (by decide), ?_⟩ | refine And.intro len4v ?_ | refine And.intro len3v ?_ | refine And.intro len2v ?_ | refine And.intro len1v ?_ | refine And.intro len0v ?_ | refine And.intro (by assumption) ?_ | refine And.intro (SS.ty (by assumption)) ?_ | refine ⟨_, _, _, _, rfl, rfl, sqT_of (by assumption), (by rfl), ?_⟩ | refine ⟨_, _, _, rfl, rfl, (by assumption), (by assumption), ?_⟩ | refine ⟨_, _, rfl, (by assumption), ?_⟩ | refine ⟨_, _, _, _, _, rfl, (by assumption), rfl, (by assumption), (by assumption), ?_⟩ | refine And.intro (IntD.isD (by assumption)) ?_ | refine And.intro (Rep.isD (by assumption)) ?_ | refine ⟨_, _, rfl, sqT_of (by assumption), (by rfl), ?_⟩ | refine ⟨_, _, _, _, rfl, rfl, sqL_of (by assumption), (by rfl), ?_⟩ | refine ⟨_, _, _, _, rfl, rfl, sqL_of upd_same, (by rfl), ?_⟩ | refine ⟨_, _, rfl, Or.inl (sqL_of (by assumption)), ?_⟩ | refine ⟨_, _, _, _, rfl, rfl, upd_same, (by rfl), ?_⟩ | refine ⟨_, _, _, _, rfl, rfl, (by assumption), (by rfl), ?_⟩ | refine ⟨⟨by decide, by decide, by decide⟩, ?_⟩ | refine And.intro (lenNv (by simp only [List.length_cons, List.length_nil]; omega)) ?_))
def spTake : Sp := fun vs H Q _ => ∃ b cs n, vs = [.ref b, .int n] ∧ BoxAt H b cs ∧ 0 < n ∧ n < 2 ^ 63 ∧ ∀ H' r, Keep [b] H H' → BoxAt H' b cs → 0 ≤ r → r < n → Q (.int r) H'
abbrev s__law_take : Stmt := top 41
theorem sc__law_take : FnScope ["box", "size", "cell", "digit", "low"] ["box", "size"] (defScope s__law_take) := ⟨rfl, rfl, rfl, by decide +kernel, rfl, by decide +kernel, by decide +kernel⟩
theorem ok__law_take {f : Addr} {fd : FuncData} (F : Fun K "_law_take" "_law_take" s__law_take f fd) (T : Txt mg) : FnOk P w K mg base CX0 1 f fd ["box", "size"] spTake := by
  refine F.ok sc__law_take (fun vs H Q E h => ?_) (fun cdv A outer s H vs Q E hr h => ?_)
  · obtain ⟨_, _, _, rfl, _⟩ := h
    rfl
  · obtain ⟨b, cs, n, rfl, ⟨pos, num, left, seed, ns, h1, h2, h3, h4⟩, hn0, hn1, q⟩ := h
    refine ⟨_, (Evl.pss_cut (ps_if (PW.pt (pw_or (pt_cmpR op_eq (pe_ix ix_list (pv 0) pe_int (fun _ _ => rfl)) pe_int (nomark _)) (pw_or1 (pt_cmpR op_eq (pe_ix ix_list (pv 0) pe_int (fun _ _ => rfl)) pe_int (nomark _)))))
  (pss_cons (ps_asg pe_int (pg_sub (pv 0) pe_int set_list))
  (pss_one (ps_if (pt_cmpR op_lt (pe_ix ix_list (pv 0) pe_int (fun _ _ => rfl)) (pe_callB call_len_seq (by rfl) T.b_len (by decide +kernel) (pa_cons (pe_ix ix_list (pv 0) pe_int (fun _ _ => rfl)) pa_nil)) (nomark _))
  (pss_cons (ps_set (i := 2) sc__law_take.nd rfl (Or.inl rfl) (pe_ix ix_list (pe_ix ix_list (pv 0) pe_int (fun _ _ => rfl)) (pe_ix ix_list (pv 0) pe_int (fun _ _ => rfl)) (fun _ _ => rfl)))
  (pss_cons (ps_asg (pe_op op_add (pe_ix ix_list (pv 0) pe_int (fun _ _ => rfl)) pe_int) (pg_sub (pv 0) pe_int set_list))
  (pss_cons (ps_asg (pe_op op_mod (pe_callTy cr_int (by rfl) T.b_int (by decide +kernel) (pa_cons (pe_op op_add (pe_op op_add (pe_op op_mul (pe_ix ix_list (pv 0) pe_int (fun _ _ => rfl)) pe_int) (pe_op op_mul (pe_op op_mod (pe_callTy cr_int (by rfl) T.b_int (by decide +kernel) (pa_cons (pv 2) pa_nil)) pe_int) pe_int)) pe_int) pa_nil)) pe_int) (pg_sub (pv 0) pe_int set_list))
  (pss_one (ps_if (pt_cmpR op_ge (pv 2) (pe_op op_pow pe_int pe_int) (nomark _))
  (pss_cons (ps_asg (pv 2) (pg_sub (pv 0) pe_int set_list))
  (pss_one (ps_asg pe_int (pg_sub (pv 0) pe_int set_list))))
  pss_nil)))))
  pss_nil)))
  pss_nil)
  (pss_cons (ps_if (PW.pt (pw_and (pt_cmpR op_gt (pe_ix ix_list (pv 0) pe_int (fun _ _ => rfl)) pe_int (nomark _)) (pw_and1 (pt_cmpR op_gt (pe_ix ix_list (pv 0) pe_int (fun _ _ => rfl)) pe_int (nomark _)))))
  (pss_cons (ps_set (i := 3) sc__law_take.nd rfl (Or.inl rfl) (pe_op op_mod (pe_callTy cr_int (by rfl) T.b_int (by decide +kernel) (pa_cons (pe_ix ix_list (pv 0) pe_int (fun _ _ => rfl)) pa_nil)) (pv 1)))
  (pss_cons (ps_asg (pe_op op_fdivW (pe_ix ix_list (pv 0) pe_int (fun _ _ => rfl)) (pv 1)) (pg_sub (pv 0) pe_int set_list))
  (pss_cons (ps_asg (pe_op op_sub (pe_ix ix_list (pv 0) pe_int (fun _ _ => rfl)) pe_int) (pg_sub (pv 0) pe_int set_list))
  (pss_one (ps_ret (pv 3))))))
  pss_nil)
  (pss_cons (ps_asg (pe_op op_mod (pe_callTy cr_int (by rfl) T.b_int (by decide +kernel) (pa_cons (pe_op op_add (pe_op op_mul (pe_ix ix_list (pv 0) pe_int (fun _ _ => rfl)) pe_int) pe_int) pa_nil)) pe_int) (pg_sub (pv 0) pe_int set_list))
  (pss_cons (ps_set (i := 4) sc__law_take.nd rfl (Or.inl rfl) (pe_ix ix_list (pv 0) pe_int (fun _ _ => rfl)))
  (pss_cons (ps_asg (pe_op op_mod (pe_callTy cr_int (by rfl) T.b_int (by decide +kernel) (pa_cons (pe_op op_add (pe_op op_mul (pe_ix ix_list (pv 0) pe_int (fun _ _ => rfl)) pe_int) pe_int) pa_nil)) pe_int) (pg_sub (pv 0) pe_int set_list))
  (pss_one (ps_ret (pe_op op_mod (pe_callTy cr_int (by rfl) T.b_int (by decide +kernel) (pa_cons (pe_op op_add (pe_op op_fdivW (pv 4) pe_int) (pe_op op_fdivW (pe_ix ix_list (pv 0) pe_int (fun _ _ => rfl)) pe_int)) pa_nil)) (pv 1))))))))), ?_⟩
    refine ⟨fun σ H' => (∃ x2 x3 x4, σ = [some (.ref b), some (.int n), x2, x3, x4]) ∧ Keep [b] H H' ∧ BoxAt H' b cs, ?_, ?_⟩
    · have no : ∃ x2 x3 x4, (L2.start ["box", "size", "cell", "digit", "low"] [V.ref b, V.int n] : L2.St) = [some (.ref b), some (.int n), x2, x3, x4] := ⟨_, _, _, rfl⟩
      have h2' : ∀ o, upd H b o cs = some (.lst (ns.map V.int)) := fun o => by rw [upd_ne h3]; exact h2
      have no3 : ∀ x : V, ∃ x2 x3 x4, ((L2.start ["box", "size", "cell", "digit", "low"] [V.ref b, V.int n] : L2.St).set 2 (some x)) = [some (.ref b), some (.int n), x2, x3, x4] := fun x => ⟨_, _, _, rfl⟩
      have keepb : ∀ {H1 : Hp}, (∀ c, c ≠ b → H1 c = H c) → Keep [b] H H1 := fun h c u e m => by
        rw [h c (by simpa using m)]
        exact e
      walk_at "rd"
      by_cases hz : num = 0
      · refine dT (congrArg V.int hz) ?_
        walk_at "rd"
        have h2a : upd H b (.lst [.ref cs, .int pos, .int num, .int 0, .int seed]) cs = some (.lst (ns.map V.int)) := h2' _
        walk_at "rd"
        refine dI ?_ ?_ <;> intro hp
        · obtain ⟨x, _, hx⟩ := atI_ints (ns := ns) h4 (by rw [List.length_map] at hp; exact hp)
          walk_at "rd"
          refine ⟨cs, _, pos, _, rfl, rfl, sqL_of h2a, hx, ?_⟩
          walk_at "rd"
          refine dI ?_ ?_ <;> intro hx
          · walk_at "rd"
            refine ⟨no3 _, keepb fun c hc => by simp only [upd_ne hc], _, _, _, _, ns, upd_same, by simp only [upd_ne h3]; exact h2, h3, by omega⟩
          · walk_at "rd"
            refine ⟨no3 _, keepb fun c hc => by simp only [upd_ne hc], _, _, _, _, ns, upd_same, by simp only [upd_ne h3]; exact h2, h3, by omega⟩
        · exact ⟨no, keepb fun c hc => by simp only [upd_ne hc], _, _, _, _, ns, upd_same, h2a, h3, h4⟩
      · refine dF (fun z => hz (V.int.inj z)) ?_
        walk_at "rd"
        by_cases hz2 : left = 0
        · refine dT (congrArg V.int hz2) ?_
          walk_at "rd"
          have h2a : upd H b (.lst [.ref cs, .int pos, .int num, .int 0, .int seed]) cs = some (.lst (ns.map V.int)) := h2' _
          walk_at "rd"
          refine dI ?_ ?_ <;> intro hp
          · obtain ⟨x, _, hx⟩ := atI_ints (ns := ns) h4 (by rw [List.length_map] at hp; exact hp)
            walk_at "rd"
            refine ⟨cs, _, pos, _, rfl, rfl, sqL_of h2a, hx, ?_⟩
            walk_at "rd"
            refine dI ?_ ?_ <;> intro hx
            · walk_at "rd"
              refine ⟨no3 _, keepb fun c hc => by simp only [upd_ne hc], _, _, _, _, ns, upd_same, by simp only [upd_ne h3]; exact h2, h3, by omega⟩
            · walk_at "rd"
              refine ⟨no3 _, keepb fun c hc => by simp only [upd_ne hc], _, _, _, _, ns, upd_same, by simp only [upd_ne h3]; exact h2, h3, by omega⟩
          · exact ⟨no, keepb fun c hc => by simp only [upd_ne hc], _, _, _, _, ns, upd_same, h2a, h3, h4⟩
        · refine dF (fun z => hz2 (V.int.inj z)) ?_
          exact ⟨no, Keep.refl _ _, _, _, _, _, ns, h1, h2, h3, h4⟩
    · rintro σ H1 ⟨⟨x2, x3, x4, rfl⟩, k1, pos, num, left, seed, ns, h1, h2, h3, h4⟩
      have keepb : ∀ {H2 : Hp}, (∀ c, c ≠ b → H2 c = H1 c) → Keep [b] H1 H2 := fun h c u e m => by
        rw [h c (by simpa using m)]
        exact e
      have hcd : ∀ i, CDivW i n := fun i => ⟨hn0, by
        have : n.natAbs.log2 < 64 := (Nat.log2_lt (by omega)).mpr (by omega)
        omega⟩
      walk_at "rd"
      refine dI ?_ ?_ <;> intro hnum
      · walk_at "rd"
        refine dI ?_ ?_ <;> intro hlef
        · have hcd1 := hcd num
          walk_at "rd"
          refine q _ _ (k1.trans (keepb fun c hc => by simp only [upd_ne hc])) ⟨_, _, _, _, ns, upd_same, by simp only [upd_ne h3]; exact h2, h3, h4⟩ (Int.emod_nonneg _ (by omega)) (Int.emod_lt_of_pos _ hn0)
        · walk_at "rd"
          walk_at "rd"
          refine q _ _ (k1.trans (keepb fun c hc => by simp only [upd_ne hc])) ⟨_, _, _, _, ns, upd_same, by simp only [upd_ne h3]; exact h2, h3, h4⟩ (Int.emod_nonneg _ (by omega)) (Int.emod_lt_of_pos _ hn0)
      · walk_at "rd"
        walk_at "rd"
        refine q _ _ (k1.trans (keepb fun c hc => by simp only [upd_ne hc])) ⟨_, _, _, _, ns, upd_same, by simp only [upd_ne h3]; exact h2, h3, h4⟩ (Int.emod_nonneg _ (by omega)) (Int.emod_lt_of_pos _ hn0)
end
end K41

/-! The law's box, words, owners. -/
namespace K41
open PySem PySem.Spec PyProof.Rows L2 TL
section
variable {P : Program} {w : World} {K : PySem.W.Frag} {mg : Str → Option Value} {base : Heap}
local macro_rules | `(tactic| walk_at "rd") => `(tactic| repeat (first | refine ⟨_, rfl, ?_⟩ | refine ⟨_, _, rfl, rfl, ?_⟩ | refine ⟨_, _, rfl, ?_⟩ | refine ⟨_, _, _, rfl, ?_⟩ | refine ⟨_, _, _, _, rfl, ?_⟩ | refine ⟨rfl, ?_⟩ | refine ⟨(by show (0 : Int) < _; decide), ?_⟩ | refine ⟨cdw (by decide) (by decide), ?_⟩ | refine ⟨Or.inl (by decide), ?_⟩ | refine ⟨Or.inr (by decide), ?_⟩ | refine And.intro len4v ?_ | refine And.intro len3v ?_ | refine And.intro len2v ?_ | refine And.intro len1v ?_ | refine And.intro len0v ?_ | refine And.intro (by assumption) ?_ | refine And.intro (SS.ty (by assumption)) ?_ | refine ⟨_, _, _, _, rfl, rfl, sqT_of (by assumption), (by rfl), ?_⟩ | refine ⟨_, _, _, rfl, rfl, (by assumption), (by assumption), ?_⟩ | refine ⟨_, _, rfl, (by assumption), ?_⟩ | refine ⟨_, _, _, _, _, rfl, (by assumption), rfl, (by assumption), (by assumption), ?_⟩ | refine And.intro (IntD.isD (by assumption)) ?_ | refine And.intro (Rep.isD (by assumption)) ?_ | refine ⟨_, _, rfl, sqT_of (by assumption), (by rfl), ?_⟩ | refine ⟨_, _, _, _, rfl, rfl, sqL_of (by assumption), (by rfl), ?_⟩ | refine ⟨_, _, _, _, rfl, rfl, sqL_of upd_same, (by rfl), ?_⟩ | refine ⟨_, _, rfl, Or.inl (sqL_of (by assumption)), ?_⟩ | refine ⟨_, _, _, _, rfl, rfl, upd_same, (by rfl), ?_⟩ | refine ⟨_, _, _, _, rfl, rfl, (by assumption), (by rfl), ?_⟩ | refine ⟨⟨by decide, by decide, by decide⟩, ?_⟩ | refine And.intro (lenNv (by simp only [List.length_cons, List.length_nil]; omega)) ?_))
abbrev CTake (P : Program) (w : World) (K : PySem.W.Frag) (mg : Str → Option Value) (base : Heap) : Prop := Cl P w K mg base 1 "_law_take" ["box", "size"] spTake
abbrev s__law_packed : Stmt := top 47
theorem sc__law_packed : FnScope ["kind", "owner", "mode", "links"] ["kind", "owner", "mode", "links"] (defScope s__law_packed) := ⟨rfl, rfl, rfl, by decide +kernel, rfl, by decide +kernel, by decide +kernel⟩
theorem ok__law_packed {f : Addr} {fd : FuncData} (F : Fun K "_law_packed" "_law_packed" s__law_packed f fd) (T : Txt mg) : FnOk P w K mg base CX0 1 f fd ["kind", "owner", "mode", "links"] spPack := by
  refine F.ok sc__law_packed (fun vs H Q E h => ?_) (fun cdv A outer s H vs Q E hr h => ?_)
  · obtain ⟨a, b, c, d, rfl, _⟩ := h
    rfl
  · obtain ⟨a, b, c, d, rfl, q⟩ := h
    refine ⟨_, (pss_one (ps_ret (pe_op op_add (pv 0) (pe_op op_mul pe_int (pe_op op_add (pv 2) (pe_op op_mul pe_int (pe_op op_add (pv 1) (pe_op op_mul pe_int (pv 3))))))))), ?_⟩
    walk_at "rd"
    exact q
def spOwner : Sp := fun vs H Q _ => ∃ b cs, vs = [.ref b] ∧ BoxAt H b cs ∧ ∀ H' r, Keep [b] H H' → BoxAt H' b cs → 0 ≤ r → r ≤ 999 → Q (.int r) H'
abbrev s__law_owner : Stmt := top 46
theorem sc__law_owner : FnScope ["box"] ["box"] (defScope s__law_owner) := ⟨rfl, rfl, rfl, by decide +kernel, rfl, by decide +kernel, by decide +kernel⟩
theorem ok__law_owner {f : Addr} {fd : FuncData} (F : Fun K "_law_owner" "_law_owner" s__law_owner f fd) (T : Txt mg) (C__law_take : CTake P w K mg base) : FnOk P w K mg base CX0 2 f fd ["box"] spOwner := by
  refine F.ok sc__law_owner (fun vs H Q E h => ?_) (fun cdv A outer s H vs Q E hr h => ?_)
  · obtain ⟨b, cs, rfl, _⟩ := h
    rfl
  · obtain ⟨b, cs, rfl, hb, q⟩ := h
    refine ⟨_, (pss_one (ps_ret (pe_ix ix_list (pe_lst (pa_cons pe_int (pa_cons pe_int (pa_cons pe_int (pa_cons pe_int (pa_cons (pe_own C__law_take hr (by decide) rfl (pa_cons (pv 0) (pa_cons pe_int pa_nil))) pa_nil)))))) (pe_own C__law_take hr (by decide) rfl (pa_cons (pv 0) (pa_cons pe_int pa_nil))) (fun _ _ => rfl)))), ?_⟩
    walk_at "rd"
    refine ⟨b, cs, _, rfl, hb, by decide, by decide, fun H1 r1 k1 b1 p1 p2 => ?_⟩
    walk_at "rd"
    intro p hp
    have b2 := b1.new (o := .lst [.int 0, .int 0, .int 5, .int 999, .int r1]) hp
    have pb : p ≠ b := fun e => by
      obtain ⟨_, e1⟩ := b1.b
      rw [e, e1] at hp
      cases hp
    walk_at "rd"
    refine ⟨b, cs, _, rfl, b2, by decide, by decide, fun H2 r2 k2 b3 p3 p4 => ?_⟩
    have hp2 : H2 p = some (.lst ([0, 0, 5, 999, r1].map V.int)) := k2.at upd_same (by simpa using pb)
    obtain ⟨x, hx, hx2⟩ := atI_ints (ns := [0, 0, 5, 999, r1]) p3 (by simpa using p4)
    refine ⟨p, _, r2, _, rfl, rfl, sqL_of hp2, hx2, ?_⟩
    refine q _ _ ((k1.trans (Keep.new hp)).trans k2) b3 ?_ ?_
    · simp only [List.mem_cons, List.not_mem_nil, or_false] at hx
      omega
    · simp only [List.mem_cons, List.not_mem_nil, or_false] at hx
      omega
abbrev s__law_word : Stmt := top 42
theorem sc__law_word : FnScope ["name", "word", "k", "code"] ["name"] (defScope s__law_word) := ⟨rfl, rfl, rfl, by decide +kernel, rfl, by decide +kernel, by decide +kernel⟩
theorem ok__law_word {f : Addr} {fd : FuncData} (F : Fun K "_law_word" "_law_word" s__law_word f fd) (T : Txt mg) : FnOk P w K mg base CX0 1 f fd ["name"] spNameWord := by
  refine F.ok sc__law_word (fun vs H Q E h => ?_) (fun cdv A outer s H vs Q E hr h => ?_)
  · obtain ⟨z, rfl, _⟩ := h
    rfl
  · obtain ⟨z, rfl, hz, q⟩ := h
    refine ⟨_, (pss_cons (ps_set (i := 1) sc__law_word.nd rfl (Or.inl rfl) pe_int)
  (pss_cons (ps_for PassesOwn.never rfl (pi_range1 rfl T.b_range (pa_cons pe_int pa_nil)) (pg_name (i := 2) sc__law_word.nd rfl (Or.inl rfl))
  (pss_cons (ps_set (i := 3) sc__law_word.nd rfl (Or.inl rfl) pe_int)
  (pss_cons (ps_if (pt_cmpR op_lt (pv 2) (pe_callB call_len_str (by rfl) T.b_len (by decide +kernel) (pa_cons (pv 0) pa_nil)) (nomark _))
  (pss_one (ps_set (i := 3) sc__law_word.nd rfl (Or.inl rfl) (pe_op op_add pe_int (pe_bm PySem.F.plainAttrs_str PySem.F.slot_str_index PySem.F.type_str_index mt_sindex pe_str (pa_cons (pe_ix ix_str (pv 0) (pv 2) (fun _ _ => rfl)) pa_nil)))))
  pss_nil)
  (pss_one (ps_set (i := 1) sc__law_word.nd rfl (Or.inl rfl) (pe_op op_add (pe_op op_mul (pv 1) pe_int) (pv 3)))))))
  (pss_one (ps_ret (pv 1))))), ?_⟩
    have hl : z.length = (tl z).length := rfl
    have hs : z.length ≤ sizeLine := by rw [hl]; have := hz.2.1; rw [sizeLine_eq]; omega
    have h1 := hz.1
    have h2 := hz.2.1
    walk_at "rd"
    refine ⟨by omega, by omega, ?_⟩
    refine for_range (fun i σ H' => H' = H ∧ ∃ x y, σ = [some (.str z), some (.int (wpart (tl z) i : Nat)), x, y]) ⟨rfl, _, _, rfl⟩ ?_ ?_
    · rintro i σ H1 hi ⟨rfl, x0, y0, rfl⟩
      have hi : i < 11 := hi
      walk_at "rd"
      refine dI ?_ ?_ <;> intro hlt
      · have hlt : i < (tl z).length := by rw [← hl]; omega
        have hcc : (tl z)[i]? = some ((tl z)[i]) := List.getElem?_eq_getElem hlt
        have hok : 0 < code ((tl z)[i]) := hz.2.2 _ (List.getElem_mem hlt)
        walk_at "rd"
        refine ⟨z, 0 + ((i : Nat) : Int), (tl z)[i], rfl, rfl, hs, by rw [Int.zero_add]; exact atI_nat hcc, ?_⟩
        refine ⟨SG, ⟨#[(tl z)[i]]⟩, code ((tl z)[i]) - 1, [], rfl, rfl, sg_occ hok, ?_⟩
        walk_at "rd"
        refine ⟨some (.int (0 + (i : Int))), some (.int (1 + ((code ((tl z)[i]) - 1 : Nat) : Int))), ?_⟩
        have e : wpart (tl z) i * 38 + dig (tl z) i = wpart (tl z) (i + 1) := rfl
        have e2 : dig (tl z) i = code ((tl z)[i]) := by unfold dig; rw [hcc]
        rw [← e, e2]
        have e3 : (wpart (tl z) i : Int) * 38 + (1 + ((code ((tl z)[i]) - 1 : Nat) : Int)) = ((wpart (tl z) i * 38 + code ((tl z)[i]) : Nat) : Int) := by omega
        exact congrArg (fun q => [some (V.str z), some (V.int q), some (V.int (0 + (i : Int))), some (.int (1 + ((code ((tl z)[i]) - 1 : Nat) : Int)))]) e3
      · have hge : (tl z).length ≤ i := by have hge := hlt; rw [← hl]; omega
        walk_at "rd"
        refine ⟨some (.int (0 + (i : Int))), some (.int 0), ?_⟩
        have e : wpart (tl z) i * 38 + dig (tl z) i = wpart (tl z) (i + 1) := rfl
        have e2 : dig (tl z) i = 0 := by unfold dig; rw [List.getElem?_eq_none hge]
        rw [← e, e2]
        have e3 : (wpart (tl z) i : Int) * 38 + 0 = ((wpart (tl z) i * 38 + 0 : Nat) : Int) := by omega
        exact congrArg (fun q => [some (V.str z), some (V.int q), some (V.int (0 + (i : Int))), some (.int 0)]) e3
    · rintro σ H1 ⟨rfl, x0, y0, rfl⟩
      exact ⟨_, rfl, q⟩
/-! ### the box of a script -/
def spBox (K : PySem.W.Frag) : Sp := fun vs H Q _ => ∃ (a : Addr) (ns : List Int), vs = [.ref a] ∧ SqL K H a (ns.map V.int) ∧ ns.length ≤ 63 ∧ ∀ H' b cs, Keep [] H H' → H b = none → H cs = none → BoxAt H' b cs → Q (.ref b) H'
abbrev s__law_box : Stmt := top 40
theorem sc__law_box : FnScope ["script", "cell"] ["script"] (defScope s__law_box) := ⟨rfl, rfl, rfl, by decide +kernel, rfl, by decide +kernel, by decide +kernel⟩
theorem ok__law_box {f : Addr} {fd : FuncData} (F : Fun K "_law_box" "_law_box" s__law_box f fd) (T : Txt mg) : FnOk P w K mg base CX0 1 f fd ["script"] (spBox K) := by
  refine F.ok sc__law_box (fun vs H Q E h => ?_) (fun cdv A outer s H vs Q E hr h => ?_)
  · obtain ⟨a, ns, rfl, _⟩ := h
    rfl
  · obtain ⟨a, ns, rfl, sq, hn, q⟩ := h
    refine ⟨_, (pss_one (ps_ret (pe_lst (pa_cons (pe_lc (own := [("cell", 1)]) (g := gName 1) (tt := tYes) rfl sc__law_box.nd (pi_list (pe_slice sl_list (pv 0) po_none (po_some pe_int))) (blkOk_by (N := ["script", "cell"]) (sc := defScope s__law_box) (by decide +kernel)) (fun _ _ _ _ _ => pg_name (i := 1) sc__law_box.nd rfl (Or.inl rfl)) (fun _ _ _ _ _ => pts_nil) (fun _ _ _ _ _ => (pe_callB call_abs (by rfl) T.b_abs (by decide +kernel) (pa_cons (pe_callTy cr_int (by rfl) T.b_int (by decide +kernel) (pa_cons (pv 1) pa_nil)) pa_nil)))) (pa_cons pe_int (pa_cons pe_int (pa_cons pe_int (pa_cons (pe_op op_add pe_int (pe_callB call_len_seq (by rfl) T.b_len (by decide +kernel) (pa_cons (pe_slice sl_list (pv 0) po_none (po_some pe_int)) pa_nil))) pa_nil)))))))), ?_⟩
    dsimp only [tRet, tLst, tCons]
    have hlen := cutV_length (ns.map V.int) none (some 63)
    rw [List.length_map] at hlen
    refine lc_seq (xs := cutV (ns.map V.int) none (some 63)) (fun _ y _ => ∃ i, y = V.int i) (fun _ => true) (fun k hk => ?_) (by omega) (fun _ _ _ _ _ h => h) ?_ ?_
    · walk_at "rd"
      intro p hp
      exact hk p _ (Keep.new hp) (sqL_of upd_same)
    · intro x H1 N1 N2 hx k1 n1 n2
      obtain ⟨i, _, rfl⟩ := List.mem_map.mp (cut_mem hx)
      walk_at "rd"
      exact n1 _ _ (Keep.refl _ _) ⟨_, rfl⟩ rfl
    · intro cs H1 ys hcs k1 e1 e2
      obtain ⟨ms, rfl⟩ := ints_of (ys := ys) fun y m => let ⟨_, _, h⟩ := Paired.left e2 y m; h
      have sq1 := SqL.keep sq k1 (by simp)
      walk_at "rd"
      intro p hp
      have hp2 : upd H1 p (.lst (cutV (ns.map V.int) none (some 63))) p = some (.lst (cutV (ns.map V.int) none (some 63))) := upd_same
      walk_at "rd"
      intro b hb
      have e3 : upd (upd H1 p (.lst (cutV (ns.map V.int) none (some 63)))) b (.lst [.ref cs, .int 0, .int 0, .int 0, .int (1 + ((cutV (ns.map V.int) none (some 63)).length : Int))]) cs = some (.lst (ms.map V.int)) := by
        have e4 : upd H1 p (.lst (cutV (ns.map V.int) none (some 63))) cs = some (.lst (ms.map V.int)) := by rw [upd_ne (ne_of_none e1 hp)]; exact e1
        rw [upd_ne (ne_of_none e4 hb)]
        exact e4
      have csb : cs ≠ b := fun e => by
        have : upd H1 p (.lst (cutV (ns.map V.int) none (some 63))) cs = some (.lst (ms.map V.int)) := by rw [upd_ne (ne_of_none e1 hp)]; exact e1
        rw [e, hb] at this
        cases this
      exact q _ b cs ((k1.trans (Keep.new hp)).trans (Keep.new hb)) ((k1.trans (Keep.new hp)).free hb (by simp)) hcs ⟨0, 0, 0, _, ms, upd_same, e3, csb, Int.le_refl _⟩
end
end K41

/-! The law's names. -/
namespace K41
open PySem PySem.Spec PyProof.Rows L2 TL
section
variable {P : Program} {w : World} {K : PySem.W.Frag} {mg : Str → Option Value} {base : Heap}
local macro_rules | `(tactic| walk_at "rd") => `(tactic| repeat (first | refine ⟨_, rfl, ?_⟩ | refine ⟨_, _, rfl, rfl, ?_⟩ | refine ⟨_, _, rfl, ?_⟩ | refine ⟨_, _, _, rfl, ?_⟩ | refine ⟨_, _, _, _, rfl, ?_⟩ | refine ⟨rfl, ?_⟩ | refine ⟨(by show (0 : Int) < _; decide), ?_⟩ | refine ⟨cdw (by decide) (by decide), ?_⟩ | refine ⟨Or.inl (by decide), ?_⟩ | refine ⟨Or.inr (by decide), ?_⟩ | refine And.intro len4v ?_ | refine And.intro len3v ?_ | refine And.intro len2v ?_ | refine And.intro len1v ?_ | refine And.intro len0v ?_ | refine And.intro (by assumption) ?_ | refine And.intro (SS.ty (by assumption)) ?_ | refine ⟨_, _, _, _, rfl, rfl, sqT_of (by assumption), (by rfl), ?_⟩ | refine ⟨_, _, _, rfl, rfl, (by assumption), (by assumption), ?_⟩ | refine ⟨_, _, rfl, (by assumption), ?_⟩ | refine ⟨_, _, _, _, _, rfl, (by assumption), rfl, (by assumption), (by assumption), ?_⟩ | refine And.intro (IntD.isD (by assumption)) ?_ | refine And.intro (Rep.isD (by assumption)) ?_ | refine ⟨_, _, rfl, sqT_of (by assumption), (by rfl), ?_⟩ | refine ⟨_, _, _, _, rfl, rfl, sqL_of (by assumption), (by rfl), ?_⟩ | refine ⟨_, _, _, _, rfl, rfl, sqL_of upd_same, (by rfl), ?_⟩ | refine ⟨_, _, rfl, Or.inl (sqL_of (by assumption)), ?_⟩ | refine ⟨_, _, _, _, rfl, rfl, upd_same, (by rfl), ?_⟩ | refine ⟨_, _, _, _, rfl, rfl, (by assumption), (by rfl), ?_⟩ | refine ⟨⟨by decide, by decide, by decide⟩, ?_⟩ | refine And.intro (lenNv (by simp only [List.length_cons, List.length_nil]; omega)) ?_))
def spName : Sp := fun vs H Q _ => ∃ (b cs l : Addr) (ns : List Int), vs = [.ref b, .ref l] ∧ BoxAt H b cs ∧ H l = some (.lst (ns.map V.int)) ∧ l ≠ b ∧ (∀ n ∈ ns, 1 ≤ n) ∧ ns.length < 1000 ∧
  ∀ H' z, Keep [b] H H' → BoxAt H' b cs → OkName (tl z) → NameOk (wordOf (tl z)) → (tl z).length ≤ 10 → Q (.str z) H'
abbrev ALPH : Str := "0123456789_abcdefghijklmopqrstuvwxyz"
theorem alph_ok : ∀ c ∈ ALPH.cps.toList, 0 < code c ∧ c ≠ cN := by decide +kernel
theorem sg_ok : ∀ c ∈ SG.cps.toList, 0 < code c := by decide +kernel
theorem name_n {N : Nat} (h1 : 1 ≤ N) (h6 : N < 1000000) {s : List Nat} (hs : s = [] ∨ s = [95] ∨ s = [95, 95] ∨ s = [48]) : OkName (cN :: (numL N ++ s)) ∧ NameOk (wordOf (cN :: (numL N ++ s))) ∧ (cN :: (numL N ++ s)).length ≤ 10 := by
  have hl := numL_len6 h6
  have hlen : (cN :: (numL N ++ s)).length ≤ 10 := by
    rw [List.length_cons, List.length_append]
    have : s.length ≤ 2 := by rcases hs with rfl | rfl | rfl | rfl <;> simp
    omega
  have key : ∃ n j, cN :: (numL N ++ s) = nmL cN n j ∧ n < 9000000000 ∧ j ≤ 2 := by
    rcases hs with rfl | rfl | rfl | rfl
    · exact ⟨N, 0, rfl, by omega, by omega⟩
    · exact ⟨N, 1, rfl, by omega, by omega⟩
    · exact ⟨N, 2, rfl, by omega, by omega⟩
    · exact ⟨10 * N, 0, nm_zero N h1, by omega, by omega⟩
  obtain ⟨n, j, e, hn, hj⟩ := key
  rw [e] at hlen ⊢
  exact ⟨nmL_ok code_cN (by omega), nameOk_nm hn hj (by omega), hlen⟩
theorem name_r {c : Nat} {r : List Nat} (h0 : 0 < code c) (h1 : c ≠ cN) (h2 : ∀ x ∈ r, 0 < code x) (h3 : (c :: r).length ≤ 10) : OkName (c :: r) ∧ NameOk (wordOf (c :: r)) ∧ (c :: r).length ≤ 10 := by
  have ok : OkName (c :: r) := ⟨by simp, by omega, fun x m => by
    rcases List.mem_cons.mp m with e | m
    · rw [e]; exact h0
    · exact h2 x m⟩
  exact ⟨ok, nameOk_other ok (by simp only [List.head?_cons]; intro z; exact h1 (Option.some.inj z)), h3⟩
theorem sufs : ∀ v ∈ [V.str "", V.str "", V.str "_", V.str "__", V.str "0"], ∃ s : Str, v = .str s ∧ (tl s = [] ∨ tl s = [95] ∨ tl s = [95, 95] ∨ tl s = [48]) := by
  intro v h
  simp only [List.mem_cons, List.not_mem_nil, or_false] at h
  rcases h with rfl | rfl | rfl | rfl | rfl
  · exact ⟨_, rfl, .inl rfl⟩
  · exact ⟨_, rfl, .inl rfl⟩
  · exact ⟨_, rfl, .inr (.inl (by decide))⟩
  · exact ⟨_, rfl, .inr (.inr (.inl (by decide)))⟩
  · exact ⟨_, rfl, .inr (.inr (.inr (by decide)))⟩
theorem tl_n (N : Nat) (s : Str) : tl (Str.ofString "n" ++ Str.ofString (toString ((N : Nat) : Int)) ++ s) = cN :: (numL N ++ tl s) := by
  rw [tl_append, tl_append, tl_num]
  have : tl (Str.ofString "n") = [cN] := by decide
  rw [this]
  simp
abbrev s__law_name : Stmt := top 43
theorem sc__law_name : FnScope ["box", "numbers", "way", "number", "size", "name", "k"] ["box", "numbers"] (defScope s__law_name) := ⟨rfl, rfl, rfl, by decide +kernel, rfl, by decide +kernel, by decide +kernel⟩
theorem ok__law_name {f : Addr} {fd : FuncData} (F : Fun K "_law_name" "_law_name" s__law_name f fd) (T : Txt mg) (C__law_take : CTake P w K mg base) : FnOk P w K mg base CX0 2 f fd ["box", "numbers"] spName := by
  refine F.ok sc__law_name (fun vs H Q E h => ?_) (fun cdv A outer s H vs Q E hr h => ?_)
  · obtain ⟨_, _, _, _, rfl, _⟩ := h
    rfl
  · obtain ⟨b, cs, l, ns, rfl, hb, hl, hlb, hns, hlen, q⟩ := h
    refine ⟨_, (pss_cons (ps_set (i := 2) sc__law_name.nd rfl (Or.inl rfl) (pe_own C__law_take hr (by decide) rfl (pa_cons (pv 0) (pa_cons pe_int pa_nil))))
  (Evl.pss_cut (ps_if (PW.pt (pw_and (pt_cmpR op_lt (pv 2) pe_int (nomark _)) (pw_and1 (pt_cmpR op_gt (pe_callB call_len_seq (by rfl) T.b_len (by decide +kernel) (pa_cons (pv 1) pa_nil)) pe_int (nomark _)))))
  (pss_cons (ps_set (i := 3) sc__law_name.nd rfl (Or.inl rfl) (pe_ix ix_list (pv 1) (pe_op op_mul (pe_own C__law_take hr (by decide) rfl (pa_cons (pv 0) (pa_cons (pe_callB call_len_seq (by rfl) T.b_len (by decide +kernel) (pa_cons (pv 1) pa_nil)) pa_nil))) (pe_own C__law_take hr (by decide) rfl (pa_cons (pv 0) (pa_cons pe_int pa_nil)))) (fun _ _ => rfl)))
  (pss_one (ps_if (pt_cmpR op_lt (pv 3) (pe_op op_pow pe_int pe_int) (nomark _))
  (pss_one (ps_ret (pe_op op_add_str (pe_op op_add_str pe_str (pe_callTy call_str_int (by rfl) T.b_str (by decide +kernel) (pa_cons (pv 3) pa_nil))) (pe_ix ix_list (pe_lst (pa_cons pe_str (pa_cons pe_str (pa_cons pe_str (pa_cons pe_str (pa_cons pe_str pa_nil)))))) (pe_own C__law_take hr (by decide) rfl (pa_cons (pv 0) (pa_cons pe_int pa_nil))) (fun _ _ => rfl)))))
  pss_nil)))
  pss_nil)
  (pss_cons (ps_set (i := 4) sc__law_name.nd rfl (Or.inl rfl) (pe_op op_add pe_int (pe_own C__law_take hr (by decide) rfl (pa_cons (pv 0) (pa_cons pe_int pa_nil)))))
  (Evl.pss_cut (ps_if (pt_cmpR op_eq (pv 2) pe_int (nomark _))
  (pss_one (ps_set (i := 4) sc__law_name.nd rfl (Or.inl rfl) (pe_op op_add pe_int (pe_own C__law_take hr (by decide) rfl (pa_cons (pv 0) (pa_cons pe_int pa_nil))))))
  pss_nil)
  (pss_cons (ps_set (i := 5) sc__law_name.nd rfl (Or.inl rfl) (pe_ix ix_str pe_str (pe_own C__law_take hr (by decide) rfl (pa_cons (pv 0) (pa_cons pe_int pa_nil))) (fun _ _ => rfl)))
  (pss_cons (ps_for PassesOwn.never rfl (pi_range1 rfl T.b_range (pa_cons (pe_op op_sub (pv 4) pe_int) pa_nil)) (pg_name (i := 6) sc__law_name.nd rfl (Or.inl rfl))
  (pss_one (ps_set (i := 5) sc__law_name.nd rfl (Or.inl rfl) (pe_op op_add_str (pv 5) (pe_ix ix_str pe_str (pe_own C__law_take hr (by decide) rfl (pa_cons (pv 0) (pa_cons pe_int pa_nil))) (fun _ _ => rfl))))))
  (pss_one (ps_ret (pv 5))))))))), ?_⟩
    walk_at "rd"
    refine ⟨b, cs, _, rfl, hb, by decide, by decide, fun H1 way k1 b1 w0 w1 => ?_⟩
    have hl1 := k1.at hl (by simpa using hlb)
    dsimp only [gName]
    refine ⟨fun σ H' => (∃ x3 x4 x5 x6, σ = [some (.ref b), some (.ref l), some (.int way), x3, x4, x5, x6]) ∧ Keep [b] H1 H' ∧ BoxAt H' b cs, ?_, ?_⟩
    · have out : ∀ H' x3 x4 x5 x6, Keep [b] H1 H' → BoxAt H' b cs → (∃ y3 y4 y5 y6, [some (V.ref b), some (V.ref l), some (V.int way), x3, x4, x5, x6] = [some (V.ref b), some (.ref l), some (.int way), y3, y4, y5, y6]) ∧ Keep [b] H1 H' ∧ BoxAt H' b cs := fun H' x3 x4 x5 x6 k b => ⟨⟨_, _, _, _, rfl⟩, k, b⟩
      walk_at "rd"
      refine dI ?_ ?_ <;> intro hw
      · walk_at "rd"
        refine dI ?_ ?_ <;> intro hlp
        · have hlp' : (0 : Int) < ns.length := by rw [List.length_map] at hlp; exact hlp
          walk_at "rd"
          refine ⟨b, cs, _, rfl, b1, hlp, by rw [List.length_map]; omega, fun H2 r1 k2 b2 p0 p1 => ?_⟩
          rw [List.length_map] at p1
          walk_at "rd"
          refine ⟨b, cs, _, rfl, b2, by decide, by decide, fun H3 r2 k3 b3 p2 p3 => ?_⟩
          have hm : CMul r1 r2 := Or.inr ⟨by omega, by omega⟩
          have hl3 := k3.at (k2.at hl1 (by simpa using hlb)) (by simpa using hlb)
          have hx01 : 0 ≤ r1 * r2 ∧ r1 * r2 < ns.length := by
            have : r2 = 0 ∨ r2 = 1 := by omega
            rcases this with rfl | rfl
            · rw [Int.mul_zero]; omega
            · rw [Int.mul_one]; omega
          obtain ⟨x, hx, hx2⟩ := atI_ints hx01.1 hx01.2
          have hx1 := hns x hx
          obtain ⟨N, hN⟩ : ∃ N : Nat, x = (N : Int) := ⟨x.toNat, by omega⟩
          walk_at "rd"
          refine ⟨l, _, r1 * r2, _, rfl, rfl, sqL_of hl3, hx2, ?_⟩
          walk_at "rd"
          refine dI ?_ ?_ <;> intro hsm
          · have hsm6 : N < 1000000 := by
              have e : (10 : Int) ^ (Int.toNat 6) = 1000000 := by decide
              rw [e] at hsm
              omega
            subst hN
            have lg := log1920 (n := N) (by omega)
            have ln1 : (Str.ofString "n").length = 1 := by decide
            have ln2 : (Str.ofString (toString ((N : Nat) : Int))).length ≤ 6 := by rw [len_tl, tl_num]; exact numL_len6 hsm6
            have ls1 : (Str.ofString "n").length + (Str.ofString (toString ((N : Nat) : Int))).length ≤ sizeLine := by rw [sizeLine_eq]; omega
            walk_at "rd"
            intro p hp
            have b4 := b3.new (o := .lst [.str "", .str "", .str "_", .str "__", .str "0"]) hp
            have pb : p ≠ b := fun e => by
              obtain ⟨_, e1⟩ := b3.b
              rw [e, e1] at hp
              cases hp
            walk_at "rd"
            refine ⟨b, cs, _, rfl, b4, by decide, by decide, fun H5 r5 k5 b5 p4 p5 => ?_⟩
            have hp5 : H5 p = some (.lst [.str "", .str "", .str "_", .str "__", .str "0"]) := k5.at upd_same (by simpa using pb)
            obtain ⟨v, hv, _, hv2⟩ := atI_in (xs := [V.str "", V.str "", V.str "_", V.str "__", V.str "0"]) p4 (by simpa using p5)
            obtain ⟨s, rfl, hs⟩ := sufs v hv
            refine ⟨p, _, r5, _, rfl, rfl, sqL_of hp5, hv2, ?_⟩
            have lns : s.length ≤ 2 := by rw [len_tl]; rcases hs with h | h | h | h <;> rw [h] <;> simp
            have lns2 : (Str.ofString "n" ++ Str.ofString (toString ((N : Nat) : Int))).length ≤ 7 := by
              rw [len_tl, tl_append, List.length_append, ← len_tl, ← len_tl]
              omega
            have ls3 : (Str.ofString "n" ++ Str.ofString (toString ((N : Nat) : Int))).length + s.length ≤ sizeLine := by rw [sizeLine_eq]; omega
            refine ⟨_, s, rfl, rfl, ls3, ?_⟩
            obtain ⟨n1, n2, n3⟩ := name_n (by omega) hsm6 hs
            rw [← tl_n N s] at n1 n2 n3
            exact q _ _ ((((k1.trans k2).trans k3).trans (Keep.new hp)).trans k5) b5 n1 n2 n3
          · exact out _ _ _ _ _ (k2.trans k3) b3
        · exact out _ _ _ _ _ (Keep.refl _ _) b1
      · exact out _ _ _ _ _ (Keep.refl _ _) b1
    · rintro σ H2 ⟨⟨x3, x4, x5, x6, rfl⟩, k2, b2⟩
      walk_at "rd"
      refine ⟨b, cs, _, rfl, b2, by decide, by decide, fun H3 r3 k3 b3 p3 p3' => ?_⟩
      walk_at "rd"
      refine ⟨fun σ H' => (∃ (sz : Int) (x3 x5 x6 : Option V), 1 ≤ sz ∧ sz ≤ 10 ∧ σ = [some (.ref b), some (.ref l), some (.int way), x3, some (.int sz), x5, x6]) ∧ Keep [b] H3 H' ∧ BoxAt H' b cs, ?_, ?_⟩
      · walk_at "rd"
        refine bI ?_ ?_ <;> intro hw2
        · walk_at "rd"
          refine ⟨b, cs, _, rfl, b3, by decide, by decide, fun H4 r4 k4 b4 p4 p4' => ?_⟩
          walk_at "rd"
          exact ⟨⟨1 + r4, _, _, _, by omega, by omega, rfl⟩, k4, b4⟩
        · exact ⟨⟨1 + r3, _, _, _, by omega, by omega, rfl⟩, Keep.refl _ _, b3⟩
      · rintro σ H4 ⟨⟨sz, x3, x5, x6, s0, s1, rfl⟩, k4, b4⟩
        walk_at "rd"
        refine ⟨b, cs, _, rfl, b4, by decide, by decide, fun H5 r5 k5 b5 p5 p5' => ?_⟩
        have la : ALPH.length = 36 := by decide
        obtain ⟨c, hc, _, hc2⟩ := atI_in (xs := ALPH.cps.toList) p5 (by show r5 < ((ALPH.cps.toList.length : Nat) : Int); rw [show ALPH.cps.toList.length = 36 by decide]; exact p5')
        obtain ⟨c1, c2⟩ := alph_ok c hc
        refine ⟨ALPH, r5, c, rfl, rfl, by rw [la, sizeLine_eq]; omega, hc2, ?_⟩
        walk_at "rd"
        refine ⟨by omega, by omega, ?_⟩
        refine for_range (fun i σ H' => (∃ z x6, σ = [some (.ref b), some (.ref l), some (.int way), x3, some (.int sz), some (.str z), x6] ∧ ∃ r, tl z = c :: r ∧ r.length = i ∧ ∀ x ∈ r, 0 < code x) ∧ Keep [b] H5 H' ∧ BoxAt H' b cs) ⟨⟨_, _, rfl, [], rfl, rfl, by simp⟩, Keep.refl _ _, b5⟩ ?_ ?_
        · rintro i σ H6 hi ⟨⟨z, x6, rfl, r, hz, hri, hr0⟩, k6, b6⟩
          walk_at "rd"
          refine ⟨b, cs, _, rfl, b6, by decide, by decide, fun H7 r7 k7 b7 p7 p7' => ?_⟩
          have lsg : SG.length = 37 := by decide
          obtain ⟨c', hc', _, hc2'⟩ := atI_in (xs := SG.cps.toList) p7 (by show r7 < ((SG.cps.toList.length : Nat) : Int); rw [show SG.cps.toList.length = 37 by decide]; exact p7')
          refine ⟨SG, r7, c', rfl, rfl, by rw [lsg, sizeLine_eq]; omega, hc2', ?_⟩
          have hzl : z.length = i + 1 := by rw [len_tl, hz, List.length_cons, hri]
          have h1l : (⟨#[c']⟩ : Str).length = 1 := rfl
          refine ⟨z, ⟨#[c']⟩, rfl, rfl, by rw [hzl, h1l, sizeLine_eq]; omega, ?_⟩
          refine ⟨⟨_, _, rfl, r ++ [c'], ?_, by rw [List.length_append, hri]; rfl, ?_⟩, k6.trans k7, b7⟩
          · rw [tl_append, hz]
            rfl
          · intro x m
            rcases List.mem_append.mp m with m | m
            · exact hr0 x m
            · rw [List.mem_singleton.mp m]; exact sg_ok c' hc'
        · rintro σ H6 ⟨⟨z, x6, rfl, r, hz, hri, hr0⟩, k6, b6⟩
          obtain ⟨n1, n2, n3⟩ := name_r c1 c2 hr0 (by rw [List.length_cons, hri]; omega)
          rw [← hz] at n1 n2 n3
          exact ⟨_, rfl, q _ _ (((((k1.trans k2).trans k3).trans k4).trans k5).trans k6) b6 n1 n2 n3⟩
end
end K41

/-! The law's numbers. -/
namespace K41
open PySem PySem.Spec PyProof.Rows L2 TL
theorem tyL {K : PySem.W.Frag} {H : Hp} {l : Addr} {xs : List V} (h : H l = some (.lst xs)) : tyV K "list" (.ref l) H := .inl ⟨rfl, xs, .inl (.inl h)⟩
section
variable {P : Program} {w : World} {K : PySem.W.Frag} {mg : Str → Option Value} {base : Heap}
local macro_rules | `(tactic| walk_at "rd") => `(tactic| repeat (first | refine ⟨_, rfl, ?_⟩ | refine ⟨_, _, rfl, rfl, ?_⟩ | refine ⟨_, _, rfl, ?_⟩ | refine ⟨_, _, _, rfl, ?_⟩ | refine ⟨_, _, _, _, rfl, ?_⟩ | refine ⟨rfl, ?_⟩ | refine ⟨(by show (0 : Int) < _; decide), ?_⟩ | refine ⟨cdw (by decide) (by decide), ?_⟩ | refine ⟨Or.inl (by decide), ?_⟩ | refine ⟨Or.inr (by decide), ?_⟩ | refine And.intro len4v ?_ | refine And.intro len3v ?_ | refine And.intro len2v ?_ | refine And.intro len1v ?_ | refine And.intro len0v ?_ | refine And.intro (by assumption) ?_ | refine And.intro (SS.ty (by assumption)) ?_ | refine And.intro (tyL (by assumption)) ?_ | refine ⟨_, _, _, _, rfl, rfl, sqT_of (by assumption), (by rfl), ?_⟩ | refine ⟨_, _, _, rfl, rfl, (by assumption), (by assumption), ?_⟩ | refine ⟨_, _, rfl, (by assumption), ?_⟩ | refine ⟨_, _, _, _, _, rfl, (by assumption), rfl, (by assumption), (by assumption), ?_⟩ | refine And.intro (IntD.isD (by assumption)) ?_ | refine And.intro (Rep.isD (by assumption)) ?_ | refine ⟨_, _, rfl, sqT_of (by assumption), (by rfl), ?_⟩ | refine ⟨_, _, _, _, rfl, rfl, sqL_of (by assumption), (by rfl), ?_⟩ | refine ⟨_, _, _, _, rfl, rfl, sqL_of upd_same, (by rfl), ?_⟩ | refine ⟨_, _, rfl, Or.inl (sqL_of (by assumption)), ?_⟩ | refine ⟨_, _, _, _, rfl, rfl, upd_same, (by rfl), ?_⟩ | refine ⟨_, _, _, _, rfl, rfl, (by assumption), (by rfl), ?_⟩ | refine ⟨⟨by decide, by decide, by decide⟩, ?_⟩ | refine And.intro (lenNv (by simp only [List.length_cons, List.length_nil]; omega)) ?_))
structure NumsOk (ns : List Int) : Prop where
  len : ns.length ≤ 40
  nd : ns.Nodup
  ok : ∀ n ∈ ns, 2 ≤ n ∧ NumOk n
def spNumbers : Sp := fun vs H Q _ => ∃ b cs, vs = [.ref b] ∧ BoxAt H b cs ∧ ∀ H' l (ns : List Int), Keep [b] H H' → BoxAt H' b cs → H l = none → H' l = some (.lst (ns.map V.int)) → NumsOk ns → Q (.ref l) H'
theorem BoxAt.app {H : Hp} {b cs l : Addr} {o : HO} (h : BoxAt H b cs) (h1 : l ≠ b) (h2 : l ≠ cs) : BoxAt (upd H l o) b cs := h.keep (Keep.set (S := [l]) (by simp)) (by simpa using h1.symm) (by simpa using h2.symm)
theorem atI_row {ns : List Int} {i : Int} (h0 : 0 ≤ i) (h : i < ns.length) : ∃ x, x ∈ ns ∧ atI (ns.map V.int) i = some (V.int x) := atI_ints h0 h
theorem ixN_last {n : Nat} (h : 0 < n) : ixN n (-1) = some (n - 1) := by
  unfold ixN
  rw [if_neg (by omega)]
  split
  · congr 1
    omega
  · omega
abbrev s__law_numbers : Stmt := top 44
theorem sc__law_numbers : FnScope ["box", "count", "numbers", "last", "k"] ["box"] (defScope s__law_numbers) := ⟨rfl, rfl, rfl, by decide +kernel, rfl, by decide +kernel, by decide +kernel⟩
theorem ok__law_numbers {f : Addr} {fd : FuncData} (F : Fun K "_law_numbers" "_law_numbers" s__law_numbers f fd) (T : Txt mg) (C__law_take : CTake P w K mg base) : FnOk P w K mg base CX0 2 f fd ["box"] spNumbers := by
  refine F.ok sc__law_numbers (fun vs H Q E h => ?_) (fun cdv A outer s H vs Q E hr h => ?_)
  · obtain ⟨_, _, rfl, _⟩ := h
    rfl
  · obtain ⟨b, cs, rfl, hb, q⟩ := h
    refine ⟨_, (pss_cons (ps_set (i := 1) sc__law_numbers.nd rfl (Or.inl rfl) (pe_own C__law_take hr (by decide) rfl (pa_cons (pv 0) (pa_cons pe_int pa_nil))))
  (Evl.pss_cut (ps_if (pt_cmpR op_eq (pe_own C__law_take hr (by decide) rfl (pa_cons (pv 0) (pa_cons pe_int pa_nil))) pe_int (nomark _))
  (pss_one (ps_set (i := 1) sc__law_numbers.nd rfl (Or.inl rfl) (pe_op op_add pe_int (pe_own C__law_take hr (by decide) rfl (pa_cons (pv 0) (pa_cons pe_int pa_nil))))))
  pss_nil)
  (pss_cons (ps_set (i := 2) sc__law_numbers.nd rfl (Or.inl rfl) (pe_lst pa_nil))
  (pss_cons (ps_set (i := 3) sc__law_numbers.nd rfl (Or.inl rfl) pe_int)
  (pss_cons (ps_for PassesOwn.never rfl (pi_range1 rfl T.b_range (pa_cons (pv 1) pa_nil)) (pg_name (i := 4) sc__law_numbers.nd rfl (Or.inl rfl))
  (pss_cons (ps_set (i := 3) sc__law_numbers.nd rfl (Or.inl rfl) (pe_op op_add (pe_op op_add (pv 3) pe_int) (pe_ix ix_list (pe_lst (pa_cons pe_int (pa_cons pe_int (pa_cons pe_int (pa_cons pe_int (pa_cons pe_int (pa_cons pe_int (pa_cons pe_int (pa_cons pe_int pa_nil))))))))) (pe_own C__law_take hr (by decide) rfl (pa_cons (pv 0) (pa_cons pe_int pa_nil))) (fun _ _ => rfl))))
  (pss_one (ps_expr (pe_bm PySem.F.plainAttrs_list PySem.F.slot_list_append PySem.F.type_list_append mt_append (pv 2) (pa_cons (pv 3) pa_nil))))))
  (pss_cons (ps_if (PW.pt (pw_and (pt_cmpR op_gt (pv 1) pe_int (nomark _)) (pw_and1 (pt_cmpR op_eq (pe_own C__law_take hr (by decide) rfl (pa_cons (pv 0) (pa_cons pe_int pa_nil))) pe_int (nomark _)))))
  (pss_one (ps_asg (pe_op op_sub pe_int (pe_own C__law_take hr (by decide) rfl (pa_cons (pv 0) (pa_cons pe_int pa_nil)))) (pg_sub (pv 2) (pe_un un_neg pe_int) set_list)))
  pss_nil)
  (pss_one (ps_ret (pv 2))))))))), ?_⟩
    walk_at "rd"
    refine ⟨b, cs, _, rfl, hb, by decide, by decide, fun H1 r1 k1 b1 p1 p1' => ?_⟩
    walk_at "rd"
    refine ⟨fun σ H' => (∃ (ct : Int) (x2 x3 x4 : Option V), 0 ≤ ct ∧ ct ≤ 40 ∧ σ = [some (.ref b), some (.int ct), x2, x3, x4]) ∧ Keep [b] H1 H' ∧ BoxAt H' b cs, ?_, ?_⟩
    · walk_at "rd"
      refine ⟨b, cs, _, rfl, b1, by decide, by decide, fun H2 r2 k2 b2 p2 p2' => ?_⟩
      walk_at "rd"
      refine bI ?_ ?_ <;> intro h7
      · walk_at "rd"
        refine ⟨b, cs, _, rfl, b2, by decide, by decide, fun H3 r3 k3 b3 p3 p3' => ?_⟩
        walk_at "rd"
        exact ⟨⟨20 + r3, _, _, _, by omega, by omega, rfl⟩, k2.trans k3, b3⟩
      · exact ⟨⟨r1, _, _, _, by omega, by omega, rfl⟩, k2, b2⟩
    · rintro σ H2 ⟨⟨ct, x2, x3, x4, c0, c1, rfl⟩, k2, b2⟩
      walk_at "rd"
      intro l hl
      have lb : l ≠ b := fun e => by
        obtain ⟨_, e1⟩ := b2.b
        rw [e, e1] at hl
        cases hl
      have lcs : l ≠ cs := fun e => by
        obtain ⟨_, e1⟩ := b2.cs
        rw [e, e1] at hl
        cases hl
      have hl0 : H l = none := (k1.trans k2).free hl (by simpa using lb)
      walk_at "rd"
      refine ⟨by omega, by omega, ?_⟩
      refine for_range (fun i σ H' => (∃ (last : Int) (x4 : Option V) (ns : List Int), σ = [some (.ref b), some (.int ct), some (.ref l), some (.int last), x4] ∧ 1 ≤ last ∧ last ≤ 1 + 10000 * (i : Int) ∧ ns.length = i ∧ SrtI ns ∧ (∀ n ∈ ns, 2 ≤ n ∧ n ≤ last) ∧ H' l = some (.lst (ns.map V.int))) ∧ Keep [b, l] H2 H' ∧ BoxAt H' b cs) ?_ ?_ ?_
      · exact ⟨⟨1, _, [], rfl, by omega, by omega, rfl, List.Pairwise.nil, by simp, upd_same⟩, Keep.new hl, b2.new hl⟩
      · rintro i σ H3 hi ⟨⟨last, x4, ns, rfl, l1, l2, l3, l4, l5, l6⟩, k3, b3⟩
        walk_at "rd"
        intro p hp
        have pb : p ≠ b := fun e => by
          obtain ⟨_, e1⟩ := b3.b
          rw [e, e1] at hp
          cases hp
        have b3' := b3.new (o := .lst [.int 0, .int 0, .int 0, .int 0, .int 1, .int 3, .int 88, .int 9999]) hp
        walk_at "rd"
        refine ⟨b, cs, _, rfl, b3', by decide, by decide, fun H4 r4 k4 b4 p4 p4' => ?_⟩
        have hp4 : H4 p = some (.lst ([0, 0, 0, 0, 1, 3, 88, 9999].map V.int)) := k4.at upd_same (by simpa using pb)
        have hl4 : H4 l = some (.lst (ns.map V.int)) := k4.at (by rw [upd_ne (ne_of_none l6 hp)]; exact l6) (by simpa using lb)
        obtain ⟨x, hx, hx2⟩ := atI_ints (ns := [0, 0, 0, 0, 1, 3, 88, 9999]) p4 (by simpa using p4')
        have hx01 : 0 ≤ x ∧ x ≤ 9999 := by
          simp only [List.mem_cons, List.not_mem_nil, or_false] at hx
          omega
        have hsz : (ns.map V.int).length < sizeLine := by rw [List.length_map, l3, sizeLine_eq]; omega
        refine ⟨p, _, r4, _, rfl, rfl, sqL_of hp4, hx2, ?_⟩
        walk_at "rd"
        refine ⟨⟨last + 1 + x, _, ns ++ [last + 1 + x], rfl, by omega, by omega, by simp [l3], ?_, ?_, ?_⟩, ?_, ?_⟩
        · unfold SrtI
          rw [List.pairwise_append]
          refine ⟨l4, List.pairwise_singleton _ _, fun y m z m2 => ?_⟩
          rw [List.mem_singleton.mp m2]
          have := (l5 y m).2
          omega
        · intro n m
          rcases List.mem_append.mp m with m | m
          · have := l5 n m
            omega
          · rw [List.mem_singleton.mp m]
            omega
        · rw [List.map_append]
          exact upd_same
        · exact ((k3.trans (Keep.new hp)).trans (k4.mono (by simp))).trans (Keep.set (by simp))
        · exact b4.app lb lcs
      · rintro σ H3 ⟨⟨last, x4, ns, rfl, l1, l2, l3, l4, l5, l6⟩, k3, b3⟩
        have fin : ∀ H4 ms, Keep [b, l] H3 H4 → BoxAt H4 b cs → H4 l = some (.lst (ms.map V.int)) → NumsOk ms → Q (.ref l) H4 := fun H4 ms k4 b4 e4 n4 => by
          refine q H4 l ms ?_ b4 hl0 e4 n4
          have k := ((k1.trans k2).mono (T := [l, b]) (by simp)).trans ((k3.trans k4).mono (T := [l, b]) (by simp [or_comm]))
          exact k.drop hl0
        have big : ∀ n ∈ ns, n < 1000000 := fun n m => by
          have := (l5 n m).2
          omega
        have ok : NumsOk ns := ⟨by omega, l4.imp (fun h e => by omega), fun n m => ⟨(l5 n m).1, .inl (big n m)⟩⟩
        walk_at "rd"
        refine dI ?_ ?_ <;> intro hct
        · walk_at "rd"
          refine ⟨b, cs, _, rfl, b3, by decide, by decide, fun H4 r4 k4 b4 p4 p4' => ?_⟩
          have hl4 := k4.at l6 (by simpa using lb)
          walk_at "rd"
          refine bI ?_ ?_ <;> intro h7
          · walk_at "rd"
            refine ⟨b, cs, _, rfl, b4, by decide, by decide, fun H5 r5 k5 b5 p5 p5' => ?_⟩
            have hl5 := k5.at hl4 (by simpa using lb)
            have hlen : (ns.map V.int).length = ns.length := List.length_map _
            have hix : ixN (ns.map V.int).length (-1) = some (ns.length - 1) := by
              rw [hlen]
              exact ixN_last (by omega)
            walk_at "rd"
            refine ⟨l, _, -1, ns.length - 1, rfl, rfl, hl5, hix, ?_⟩
            walk_at "rd"
            refine fin _ (ns.set (ns.length - 1) (9999999999 - r5)) (((k4.trans k5).mono (by simp)).trans (Keep.set (by simp))) (b5.app lb lcs) ?_ ?_
            · rw [List.map_set]
              exact upd_same
            · refine ⟨by rw [List.length_set]; omega, ?_, ?_⟩
              · rw [List.nodup_iff_pairwise_ne, List.pairwise_iff_getElem]
                intro i j hi hj hij
                rw [List.length_set] at hi hj
                rw [List.getElem_set, List.getElem_set]
                have e1 := List.pairwise_iff_getElem.mp l4 i j hi hj hij
                have e2 := big _ (List.getElem_mem hi)
                split
                · omega
                · split
                  · omega
                  · omega
              · intro n m
                rcases List.mem_or_eq_of_mem_set m with m | e
                · exact ok.ok n m
                · rw [e]
                  exact ⟨by omega, .inr ⟨by omega, by omega⟩⟩
          · walk_at "rd"
            exact fin _ ns (k4.mono (by simp)) b4 hl4 ok
        · walk_at "rd"
          exact fin _ ns (Keep.refl _ _) b3 l6 ok
end
end K41

/-! What the law builds is sound: nodes, entries, chunks, marks. -/
namespace K41
/-- a word of ten signs at the most, or one of the law's own 11 signs with an older number -/
def SN (n : Nat) (c : Int) : Prop := c % 38 = 0 ∨ ∃ m j, m < n ∧ c = nw cS m j ∧ (nmL cS m j).length ≤ 11
theorem SN.mono {n m : Nat} {c : Int} (h : SN n c) (l : n ≤ m) : SN m c := by
  rcases h with h | ⟨k, j, h1, h2⟩
  · exact .inl h
  · exact .inr ⟨k, j, by omega, h2⟩
theorem len_put_ge (L : List Itm) (k : K3) (v : Val) : L.length ≤ (put L k v).length := by
  induction L with
  | nil => exact Nat.zero_le _
  | cons p r ih =>
    show _ ≤ (if p.1 = k then (k, v) :: r else if ltK k p.1 then (k, v) :: p :: r else p :: put r k v).length
    split
    · simp
    · split
      · simp
      · simp only [List.length_cons]; omega
theorem Fit.mono {L M : List Itm} {k : K3} {v : Val} (f : Fit L k v) (h : ∀ m w, (nk m, w) ∈ L → (nk m, w) ∈ M) : Fit M k v := by
  rcases f with f | ⟨f1, f2, w, f3, f4⟩
  · exact .inl f
  · refine .inr ⟨f1, f2, w, h _ _ f3, ?_⟩
    rcases f4 with f | ⟨a, b, c, d, u, e⟩ | f | f
    · exact .inl f
    · exact .inr (.inl ⟨a, b, c, d, u, h _ _ e⟩)
    · exact .inr (.inr (.inl f))
    · exact .inr (.inr (.inr f))
/-- the list with the entries that lead to n, a node that is not there yet -/
structure Ent (L L' : List Itm) (n : Int) (as : List Int) : Prop where
  srt : Srt L'
  mem : ∀ p, p ∈ L' → p ∈ L ∨ ∃ a c, p = ((a, 1, c), (n, 0)) ∧ a ∈ as ∧ NameOk c ∧ 0 ≤ c ∧ SN L'.length c
  sub : ∀ p ∈ L, p ∈ L'
  cnt : ∀ m, K41.cnt L' m = K41.cnt L m + if m = n then as.length else 0
  le : L.length ≤ L'.length
  ge : L'.length ≤ L.length + as.length
theorem Ent.refl {L : List Itm} (s : Srt L) (n : Int) : Ent L L n [] := ⟨s, fun p h => .inl h, fun p h => h, fun m => by simp, Nat.le_refl _, by simp⟩
theorem Ent.step {L L' : List Itm} {n a c : Int} {as : List Int} (h : Ent L L' n as) (hl : lk L' (a, 1, c) = none) (hn : NameOk c) (hs : SN (L'.length + 1) c) (h0 : 0 ≤ c) : Ent L (put L' (a, 1, c) (n, 0)) n (as ++ [a]) := by
  have hlen := len_put_new (v := ((n : Int), (0 : Int))) hl
  refine ⟨srt_put h.srt _ _, fun p m => ?_, fun p m => ?_, fun m => ?_, ?_, ?_⟩
  · rcases (mem_put h.srt).mp m with e | ⟨m, _⟩
    · exact .inr ⟨a, c, e, by simp, hn, h0, by rw [hlen]; exact hs⟩
    · rcases h.mem p m with m | ⟨a', c', e, m', n1, n2, n3⟩
      · exact .inl m
      · exact .inr ⟨a', c', e, List.mem_append_left _ m', n1, n2, n3.mono (by omega)⟩
  · refine (mem_put h.srt).mpr (.inr ⟨h.sub p m, fun e => ?_⟩)
    exact lk_none.mp hl p (h.sub p m) e
  · have e : K41.cnt (put L' (a, 1, c) (n, 0)) m = K41.cnt L' m + if n = m then 1 else 0 := by
      unfold K41.cnt
      rw [count_new hl]
      congr 1
      unfold isEnt
      simp
    rw [e, h.cnt, List.length_append]
    by_cases z : m = n
    · subst z; simp; omega
    · have : ¬ n = m := fun q => z q.symm
      simp [z, this]
  · have := h.le; omega
  · have := h.ge
    rw [hlen, List.length_append]
    simp
    omega
structure Gen (ord : List Int) (L : List Itm) : Prop where
  srt : Srt L
  head : ord.head? = some 1
  nd : ord.Nodup
  num : ∀ m ∈ ord, 1 ≤ m ∧ NumOk m
  node : ∀ m w, (nk m, w) ∈ L → m ∈ ord
  has : ∀ m ∈ ord, ∃ w, (nk m, w) ∈ L
  fit : ∀ k v, (k, v) ∈ L → Fit L k v ∧ 1 ≤ k.1
  root : ∃ w, (nk 1, w) ∈ L ∧ w.1 % 2 = 1 ∧ w.1 / 128000 = 1 ∧ w.2 = 1
  cnt : ∀ n w, n ≠ 1 → (nk n, w) ∈ L → (cnt L n : Int) = w.1 / 128000
  par : ∀ n w, n ≠ 1 → (nk n, w) ∈ L → w.1 % 2 = 1 → w.1 / 128000 = 1 ∧ ord.idxOf w.2 < ord.idxOf n ∧ ∀ a c u, ((a, 1, c), (n, u)) ∈ L → a = w.2
  word : ∀ a c v, ((a, 1, c), v) ∈ L → NameOk c ∧ SN L.length c
theorem Gen.start {v : Int} (h1 : v % 2 = 1) (h2 : v / 128000 = 1) : Gen [1] [(nk 1, (v, 1))] where
  srt := List.pairwise_singleton _ _
  head := rfl
  nd := by simp
  num := fun m h => by
    rw [List.mem_singleton.mp h]
    exact ⟨by omega, .inl (by omega)⟩
  node := fun m w h => by
    have := (Prod.mk.inj (List.mem_singleton.mp h)).1
    rw [nk_inj this]
    simp
  has := fun m h => by
    rw [List.mem_singleton.mp h]
    exact ⟨(v, 1), List.mem_singleton.mpr rfl⟩
  fit := fun k u h => by
    obtain ⟨rfl, rfl⟩ := Prod.mk.inj (List.mem_singleton.mp h)
    refine ⟨.inr ⟨by decide, by decide, _, List.mem_singleton.mpr rfl, .inl ⟨rfl, rfl, ?_, ?_, .inl h1⟩⟩, by decide⟩
    · show 128000 ≤ v; omega
    · show (0 : Int) ≤ 1; decide
  root := ⟨_, List.mem_singleton.mpr rfl, h1, h2, rfl⟩
  cnt := fun n w h m => absurd (nk_inj (Prod.mk.inj (List.mem_singleton.mp m)).1) h
  par := fun n w h m => absurd (nk_inj (Prod.mk.inj (List.mem_singleton.mp m)).1) h
  word := fun a c v m => by
    have := (Prod.mk.inj (Prod.mk.inj (Prod.mk.inj (List.mem_singleton.mp m)).1).2).1
    omega
theorem Gen.noEnt {ord : List Int} {L : List Itm} (G : Gen ord L) {n : Int} (hn : n ∉ ord) : K41.cnt L n = 0 := by
  cases e : K41.cnt L n with
  | zero => rfl
  | succ k =>
    obtain ⟨a, c, u, m⟩ := cnt_pos.mp (show 0 < K41.cnt L n by omega)
    obtain ⟨f, _⟩ := G.fit _ _ m
    rcases f with f | ⟨_, _, w, _, f⟩
    · have := f.2.1
      dsimp only at this
      omega
    · rcases f with f | ⟨_, _, _, _, u', f⟩ | f | f
      · have := f.1
        dsimp only at this
        omega
      · exact absurd (G.node _ _ f) hn
      · have := f.1
        dsimp only at this
        omega
      · have := f.1
        dsimp only at this
        omega
/-- a new node, behind its entries -/
theorem Gen.add {ord : List Int} {L L' : List Itm} {n : Int} {as : List Int} {v : Val} (G : Gen ord L) (E : Ent L L' n as) (hn : n ∉ ord) (h2 : 2 ≤ n) (hnum : NumOk n) (has : ∀ a ∈ as, ∃ w, (nk a, w) ∈ L ∧ w.1 % 2 = 1)
    (hv : 128000 ≤ v.1 ∧ v.1 / 128000 = as.length) (hk : (v.1 % 2 = 1 ∧ as = [v.2]) ∨ (v.1 % 2 = 0 ∧ 0 ≤ v.2 ∧ v.2 ≤ 1000000)) : Gen (ord ++ [n]) (put L' (nk n) v) := by
  have nol : lk L' (nk n) = none := by
    refine lk_none.mpr fun p m e => ?_
    rcases E.mem p m with m | ⟨a, c, rfl, _⟩
    · obtain ⟨k, u⟩ := p
      dsimp only at e
      subst e
      exact hn (G.node _ _ m)
    · have := (Prod.mk.inj (Prod.mk.inj e).2).1
      omega
  have up : ∀ p ∈ L', p ∈ put L' (nk n) v := fun p m => (mem_put E.srt).mpr (.inr ⟨m, fun e => lk_none.mp nol p m e⟩)
  have nodes : ∀ m w, (nk m, w) ∈ L → (nk m, w) ∈ put L' (nk n) v := fun m w h => up _ (E.sub _ h)
  have down : ∀ k u, (k, u) ∈ put L' (nk n) v → (k = nk n ∧ u = v) ∨ (k, u) ∈ L ∨ ∃ a c, k = (a, 1, c) ∧ u = (n, 0) ∧ a ∈ as ∧ NameOk c ∧ 0 ≤ c ∧ SN L'.length c := fun k u m => by
    rcases (mem_put E.srt).mp m with e | ⟨m, _⟩
    · exact .inl (Prod.mk.inj e)
    · rcases E.mem _ m with m | ⟨a, c, e, h⟩
      · exact .inr (.inl m)
      · exact .inr (.inr ⟨a, c, (Prod.mk.inj e).1, (Prod.mk.inj e).2, h⟩)
  have hlen := len_put_new (v := v) nol
  have cn : ∀ m, K41.cnt (put L' (nk n) v) m = K41.cnt L m + if m = n then as.length else 0 := fun m => by
    have : K41.cnt (put L' (nk n) v) m = K41.cnt L' m := by
      unfold K41.cnt
      rw [count_new nol]
      have : isEnt m (nk n, v) = false := by unfold isEnt nk; simp
      rw [this]
      simp
    rw [this, E.cnt]
  have c0 := G.noEnt hn
  have inode : ∀ m w, (nk m, w) ∈ put L' (nk n) v → (m = n ∧ w = v) ∨ (nk m, w) ∈ L := fun m w h => by
    rcases down _ _ h with ⟨e, e2⟩ | h | ⟨a, c, e, _⟩
    · exact .inl ⟨nk_inj e, e2⟩
    · exact .inr h
    · have := (Prod.mk.inj (Prod.mk.inj e).2).1
      omega
  refine ⟨srt_put E.srt _ _, ?_, ?_, ?_, ?_, ?_, ?_, ?_, ?_, ?_, ?_⟩
  · rw [List.head?_append, G.head]
    rfl
  · rw [List.nodup_append]
    refine ⟨G.nd, by simp, fun a ha b hb => ?_⟩
    rw [List.mem_singleton.mp hb]
    rintro rfl
    exact hn ha
  · intro m h
    rcases List.mem_append.mp h with h | h
    · exact G.num m h
    · rw [List.mem_singleton.mp h]
      exact ⟨by omega, hnum⟩
  · intro m w h
    rcases inode m w h with ⟨e, _⟩ | h
    · rw [e]; simp
    · exact List.mem_append_left _ (G.node _ _ h)
  · intro m h
    rcases List.mem_append.mp h with h | h
    · obtain ⟨w, hw⟩ := G.has m h
      exact ⟨w, nodes _ _ hw⟩
    · rw [List.mem_singleton.mp h]
      exact ⟨v, (mem_put E.srt).mpr (.inl rfl)⟩
  · intro k u h
    rcases down _ _ h with ⟨rfl, rfl⟩ | h | ⟨a, c, rfl, rfl, ha, _, h0, _⟩
    · refine ⟨.inr ⟨by show 1 ≤ n; omega, by show (0 : Int) ≤ 0; omega, u, (mem_put E.srt).mpr (.inl rfl), .inl ⟨rfl, rfl, hv.1, ?_, ?_⟩⟩, by show 1 ≤ n; omega⟩
      · rcases hk with ⟨_, e⟩ | ⟨_, h, _⟩
        · obtain ⟨w, hw, _⟩ := has u.2 (by rw [e]; simp)
          have := (G.num _ (G.node _ _ hw)).1
          omega
        · exact h
      · rcases hk with ⟨h, _⟩ | ⟨_, _, h⟩
        · exact .inl h
        · exact .inr h
    · obtain ⟨f, f1⟩ := G.fit _ _ h
      exact ⟨f.mono nodes, f1⟩
    · obtain ⟨w, hw, hw1⟩ := has a ha
      have := (G.num _ (G.node _ _ hw)).1
      exact ⟨.inr ⟨this, h0, w, nodes _ _ hw, .inr (.inl ⟨rfl, hw1, by show 1 < n; omega, rfl, v, (mem_put E.srt).mpr (.inl rfl)⟩)⟩, this⟩
  · obtain ⟨w, hw, h⟩ := G.root
    exact ⟨w, nodes _ _ hw, h⟩
  · intro m w h1 h
    rw [cn]
    rcases inode m w h with ⟨rfl, rfl⟩ | h
    · rw [if_pos rfl, c0, hv.2]
      simp
    · have : m ≠ n := fun e => hn (e ▸ G.node _ _ h)
      rw [if_neg this, ← G.cnt m w h1 h]
      simp
  · intro m w h1 h hf
    rcases inode m w h with ⟨rfl, rfl⟩ | h
    · rcases hk with ⟨_, e⟩ | ⟨z, _⟩
      · refine ⟨by rw [hv.2, e]; rfl, ?_, fun a c u hm => ?_⟩
        · obtain ⟨w', hw, _⟩ := has w.2 (by rw [e]; simp)
          have hm := G.node _ _ hw
          rw [List.idxOf_append, if_pos hm, List.idxOf_append, if_neg hn]
          have := List.idxOf_lt_length_of_mem hm
          omega
        · rcases down _ _ hm with ⟨e', _⟩ | hm | ⟨a', c', e1, _, ha, _⟩
          · have := (Prod.mk.inj (Prod.mk.inj e').2).1
            omega
          · have : 0 < K41.cnt L m := cnt_pos.mpr ⟨a, c, u, hm⟩
            omega
          · rw [e, List.mem_singleton] at ha
            rw [← ha]
            exact (Prod.mk.inj e1).1
      · omega
    · obtain ⟨p1, p2, p3⟩ := G.par m w h1 h hf
      have hm := G.node _ _ h
      refine ⟨p1, ?_, fun a c u hx => ?_⟩
      · have hlt := List.idxOf_lt_length_of_mem hm
        have hmem : w.2 ∈ ord := List.idxOf_lt_length_iff.mp (by omega)
        rw [List.idxOf_append, if_pos hmem, List.idxOf_append, if_pos hm]
        exact p2
      · rcases down _ _ hx with ⟨e', _⟩ | hx | ⟨a', c', _, e2, _⟩
        · have := (Prod.mk.inj (Prod.mk.inj e').2).1
          omega
        · exact p3 a c u hx
        · have : m = n := (Prod.mk.inj e2).1
          exact absurd (this ▸ hm) hn
  · intro a c u h
    have l1 := E.le
    rcases down _ _ h with ⟨e', _⟩ | h | ⟨a', c', e1, _, _, n1, _, n2⟩
    · have := (Prod.mk.inj (Prod.mk.inj e').2).1
      omega
    · obtain ⟨w1, w2⟩ := G.word a c u h
      exact ⟨w1, w2.mono (by omega)⟩
    · have : c = c' := (Prod.mk.inj (Prod.mk.inj e1).2).2
      rw [this]
      exact ⟨n1, n2.mono (by omega)⟩
/-- chunks, marks -/
theorem Gen.extra {ord : List Int} {L : List Itm} {k : K3} {v : Val} (G : Gen ord L) (h0 : k.2.1 ≠ 0) (h1 : k.2.1 ≠ 1) (hf : Fit L k v) (h : 1 ≤ k.1) : Gen ord (put L k v) := by
  have ln := len_put_ge L k v
  have down : ∀ j u, (j, u) ∈ put L k v → (j = k ∧ u = v) ∨ (j, u) ∈ L := fun j u m => by
    rcases (mem_put G.srt).mp m with e | ⟨m, _⟩
    · exact .inl (Prod.mk.inj e)
    · exact .inr m
  have up : ∀ j u, j.2.1 ≠ k.2.1 → (j, u) ∈ L → (j, u) ∈ put L k v := fun j u ne m => (mem_put G.srt).mpr (.inr ⟨m, fun e => ne (by rw [show j = k from e])⟩)
  have nodes : ∀ m w, (nk m, w) ∈ L → (nk m, w) ∈ put L k v := fun m w h => up _ _ (fun e => h0 e.symm) h
  have inode : ∀ m w, (nk m, w) ∈ put L k v → (nk m, w) ∈ L := fun m w h => by
    rcases down _ _ h with ⟨e, _⟩ | h
    · rw [← e] at h0
      exact absurd rfl h0
    · exact h
  have ient : ∀ a c u, ((a, 1, c), u) ∈ put L k v → ((a, 1, c), u) ∈ L := fun a c u h => by
    rcases down _ _ h with ⟨e, _⟩ | h
    · rw [← e] at h1
      exact absurd rfl h1
    · exact h
  have cn : ∀ m, K41.cnt (put L k v) m = K41.cnt L m := fun m => by
    have e : ∀ u, isEnt m (k, u) = false := fun u => decide_eq_false fun z => h1 z.1
    unfold K41.cnt
    cases z : lk L k with
    | none => rw [count_new z, e]; simp
    | some u => exact count_old G.srt (lk_some_mem z) _ (by rw [e, e])
  refine ⟨srt_put G.srt _ _, G.head, G.nd, G.num, fun m w h => G.node m w (inode m w h), fun m h => ?_, fun j u m => ?_, ?_, fun n w a b => ?_, fun n w a b c => ?_, fun a c u m => ?_⟩
  · obtain ⟨w, hw⟩ := G.has m h
    exact ⟨w, nodes _ _ hw⟩
  · rcases down _ _ m with ⟨rfl, rfl⟩ | m
    · exact ⟨hf.mono nodes, h⟩
    · obtain ⟨f, f1⟩ := G.fit _ _ m
      exact ⟨f.mono nodes, f1⟩
  · obtain ⟨w, hw, h⟩ := G.root
    exact ⟨w, nodes _ _ hw, h⟩
  · rw [cn]
    exact G.cnt n w a (inode _ _ b)
  · obtain ⟨p1, p2, p3⟩ := G.par n w a (inode _ _ b) c
    exact ⟨p1, p2, fun a' c' u m => p3 a' c' u (ient _ _ _ m)⟩
  · obtain ⟨w1, w2⟩ := G.word a c u (ient _ _ _ m)
    exact ⟨w1, w2.mono ln⟩
end K41

/-! The law enters a name. -/
namespace K41
open PySem PySem.Spec PyProof.Rows L2 TL
theorem SN.short {l : List Nat} (h : l.length ≤ 10) (n : Nat) : SN n (wordOf l) := by
  left
  rw [wordOf_last]
  unfold dig
  rw [List.getElem?_eq_none (by omega)]
  rfl
/-- the law's own name -/
theorem sname {n : Nat} (h : n < 10000) : OkName (nmL cS n (10 - (numL n).length)) ∧ NameOk (nw cS n (10 - (numL n).length)) ∧ (nmL cS n (10 - (numL n).length)).length = 11 ∧ SN (n + 1) (nw cS n (10 - (numL n).length)) := by
  have hl : (numL n).length ≤ 6 := numL_len6 (by omega)
  have e : (nmL cS n (10 - (numL n).length)).length = 11 := by rw [nmL_len]; omega
  have ok : OkName (nmL cS n (10 - (numL n).length)) := nmL_ok code_cS (by omega)
  refine ⟨ok, nameOk_other ok ?_, e, .inr ⟨n, _, by omega, rfl, by omega⟩⟩
  unfold nmL
  simp only [List.head?_cons]
  intro z
  exact absurd (Option.some.inj z) (by decide)
theorem sname_new {n : Nat} (h : n < 10000) : ¬ SN n (nw cS n (10 - (numL n).length)) := by
  obtain ⟨ok, _, e, _⟩ := sname h
  rintro (z | ⟨m, j, h1, h2, h3⟩)
  · unfold nw at z
    rw [wordOf_last] at z
    unfold dig at z
    have hlt : 10 < (nmL cS n (10 - (numL n).length)).length := by omega
    rw [List.getElem?_eq_getElem hlt] at z
    have := ok.2.2 _ (List.getElem_mem hlt)
    simp only at z
    omega
  · have := (nw_inj code_cS code_cS (by omega) h3 h2).2.1
    omega
theorem tl_ljust {z : Str} (h : z.length ≤ 11) : tl (Txt.ljustF z 11 95) = tl z ++ List.replicate (11 - z.length) 95 := by
  unfold Txt.ljustF
  split
  · have : z.length = 11 := by omega
    rw [this]
    simp
  · have e : (Int.toNat 11) = 11 := rfl
    rw [e]
    unfold Builtin.Str.padded
    unfold tl
    simp
section
variable {P : Program} {w : World} {K : PySem.W.Frag} {mg : Str → Option Value} {base : Heap}
local macro_rules | `(tactic| walk_at "rd") => `(tactic| repeat (first | refine ⟨_, rfl, ?_⟩ | refine ⟨_, _, rfl, rfl, ?_⟩ | refine ⟨_, _, rfl, ?_⟩ | refine ⟨_, _, _, rfl, ?_⟩ | refine ⟨_, _, _, _, rfl, ?_⟩ | refine ⟨rfl, ?_⟩ | refine ⟨(by show (0 : Int) < _; decide), ?_⟩ | refine ⟨cdw (by decide) (by decide), ?_⟩ | refine ⟨Or.inl (by decide), ?_⟩ | refine ⟨Or.inr (by decide), ?_⟩ | refine And.intro len4v ?_ | refine And.intro len3v ?_ | refine And.intro len2v ?_ | refine And.intro len1v ?_ | refine And.intro len0v ?_ | refine And.intro (by assumption) ?_ | refine And.intro (SS.ty (by assumption)) ?_ | refine And.intro (tyL (by assumption)) ?_ | refine ⟨_, _, _, _, rfl, rfl, sqT_of (by assumption), (by rfl), ?_⟩ | refine ⟨_, _, _, rfl, rfl, (by assumption), (by assumption), ?_⟩ | refine ⟨_, _, rfl, (by assumption), ?_⟩ | refine ⟨_, _, _, _, _, rfl, (by assumption), rfl, (by assumption), (by assumption), ?_⟩ | refine And.intro (IntD.isD (by assumption)) ?_ | refine And.intro (Rep.isD (by assumption)) ?_ | refine ⟨_, _, rfl, sqT_of (by assumption), (by rfl), ?_⟩ | refine ⟨_, _, _, _, rfl, rfl, sqL_of (by assumption), (by rfl), ?_⟩ | refine ⟨_, _, _, _, rfl, rfl, sqL_of upd_same, (by rfl), ?_⟩ | refine ⟨_, _, rfl, Or.inl (sqL_of (by assumption)), ?_⟩ | refine ⟨_, _, _, _, rfl, rfl, upd_same, (by rfl), ?_⟩ | refine ⟨_, _, _, _, rfl, rfl, (by assumption), (by rfl), ?_⟩ | refine ⟨⟨by decide, by decide, by decide⟩, ?_⟩ | refine And.intro (lenNv (by simp only [List.length_cons, List.length_nil]; omega)) ?_))
abbrev CName (P : Program) (w : World) (K : PySem.W.Frag) (mg : Str → Option Value) (base : Heap) : Prop := Cl P w K mg base 2 "_law_name" ["box", "numbers"] spName
abbrev CWord (P : Program) (w : World) (K : PySem.W.Frag) (mg : Str → Option Value) (base : Heap) : Prop := Cl P w K mg base 1 "_law_word" ["name"] spNameWord
def spEnter : Sp := fun vs H Q _ => ∃ (b cs d l : Addr) (ns : List Int) (L : List Itm) (fo ch : Int), vs = [.ref b, .ref d, .ref l, .int fo, .int ch] ∧ BoxAt H b cs ∧ Rep H d L ∧ H l = some (.lst (ns.map V.int)) ∧ l ≠ b ∧ (∀ n ∈ ns, 1 ≤ n) ∧ ns.length < 1000 ∧ L.length < 9000 ∧
  (∀ c v, ((fo, 1, c), v) ∈ L → SN L.length c) ∧
  ∀ H' c, Keep [b, d] H H' → BoxAt H' b cs → Rep H' d (put L (fo, 1, c) (ch, 0)) → lk L (fo, 1, c) = none → NameOk c → SN (L.length + 1) c → 0 ≤ c → Q .non H'
theorem BoxAt.neD {H : Hp} {b cs d : Addr} {L : List Itm} (h : BoxAt H b cs) (r : Rep H d L) : d ≠ b ∧ d ≠ cs := by
  obtain ⟨kvs, e, _⟩ := r
  obtain ⟨_, e1⟩ := h.b
  obtain ⟨_, e2⟩ := h.cs
  exact ⟨ne_of e e1 fun z => (nomatch z), ne_of e e2 fun z => (nomatch z)⟩
theorem Rep.box {H H' : Hp} {b cs d : Addr} {L : List Itm} (r : Rep H d L) (h : BoxAt H b cs) (k : Keep [b] H H') : Rep H' d L := by
  obtain ⟨_, e1⟩ := h.b
  exact r.keep (k.tup (.one e1 fun _ z => nomatch z)) fun o e => k.at e (by simpa using (h.neD r).1)
abbrev s__law_enter : Stmt := top 45
theorem sc__law_enter : FnScope ["box", "found", "numbers", "folder", "child", "name"] ["box", "found", "numbers", "folder", "child"] (defScope s__law_enter) := ⟨rfl, rfl, rfl, by decide +kernel, rfl, by decide +kernel, by decide +kernel⟩
theorem ok__law_enter {f : Addr} {fd : FuncData} (F : Fun K "_law_enter" "_law_enter" s__law_enter f fd) (T : Txt mg) (C__law_name : CName P w K mg base) (C__law_word : CWord P w K mg base) : FnOk P w K mg base CX0 3 f fd ["box", "found", "numbers", "folder", "child"] spEnter := by
  refine F.ok sc__law_enter (fun vs H Q E h => ?_) (fun cdv A outer s H vs Q E hr h => ?_)
  · obtain ⟨_, _, _, _, _, _, _, _, rfl, _⟩ := h
    rfl
  · obtain ⟨b, cs, d, l, ns, L, fo, ch, rfl, hb, rep, hl, hlb, hns, hlen, hL, hsn, q⟩ := h
    refine ⟨_, (pss_cons (ps_set (i := 5) sc__law_enter.nd rfl (Or.inl rfl) (pe_own C__law_name hr (by decide) rfl (pa_cons (pv 0) (pa_cons (pv 2) pa_nil))))
  (pss_cons (ps_if (pt_cmp (pc_din (hu_of hr) (pe_tup (pa_cons (pv 3) (pa_cons pe_int (pa_cons (pe_own C__law_word hr (by decide) rfl (pa_cons (pv 5) pa_nil)) pa_nil)))) (pv 1)))
  (pss_one (ps_set (i := 5) sc__law_enter.nd rfl (Or.inl rfl) (pe_bm PySem.F.plainAttrs_str PySem.F.slot_str_ljust PySem.F.type_str_ljust mt_ljustF (pe_op op_add_str pe_str (pe_callTy call_str_int (by rfl) T.b_str (by decide +kernel) (pa_cons (pe_callB call_len_dT (by rfl) T.b_len (by decide +kernel) (pa_cons (pv 1) pa_nil)) pa_nil))) (pa_cons pe_int (pa_cons pe_str pa_nil)))))
  pss_nil)
  (pss_one (ps_dput (hu_of hr) (pv 1) (pe_tup (pa_cons (pv 3) (pa_cons pe_int (pa_cons (pe_own C__law_word hr (by decide) rfl (pa_cons (pv 5) pa_nil)) pa_nil)))) (pe_tup (pa_cons (pv 4) (pa_cons pe_int pa_nil))) rfl)))), ?_⟩
    walk_at "rd"
    refine ⟨b, cs, l, ns, rfl, hb, hl, hlb, hns, hlen, fun H1 z k1 b1 z1 z2 z3 => ?_⟩
    have rep1 := rep.box hb k1
    obtain ⟨hdb, hdcs⟩ := b1.neD rep1
    walk_at "rd"
    intro p hp
    have rep2 := rep1.new (o := .tup (tv (fo, 1, wordOf (tl z)))) hp
    have b2 := b1.new (o := .tup (tv (fo, 1, wordOf (tl z)))) hp
    obtain ⟨o, g1, g2⟩ := rep2.has (k := (fo, 1, wordOf (tl z))) T3.at
    walk_at "rd"
    refine bI ?_ ?_ <;> intro hc
    · obtain ⟨kvs, e1, e2⟩ := rep2.len
      obtain ⟨w1, w2, w3, w4⟩ := sname (n := kvs.length) (by omega)
      have hnew := sname_new (n := kvs.length) (by omega)
      have lg : ((kvs.length : Nat) : Int).natAbs.log2 < 1920 := log1920 (by omega)
      have ln1 : (Str.ofString "s").length = 1 := by decide
      have ln0 := numL_len6 (n := kvs.length) (by omega)
      have ln2 : (Str.ofString (toString ((kvs.length : Nat) : Int))).length = (numL kvs.length).length := by rw [len_tl, tl_num]
      have ls1 : (Str.ofString "s").length + (Str.ofString (toString ((kvs.length : Nat) : Int))).length ≤ sizeLine := by rw [sizeLine_eq]; omega
      have eu : (Str.ofString "_").cps.getD 0 0 = 95 := by decide
      have lt1 : (Str.ofString "s" ++ Str.ofString (toString ((kvs.length : Nat) : Int))).length = 1 + (numL kvs.length).length := by
        rw [len_tl, tl_append, List.length_append, ← len_tl, ← len_tl, ln1, ln2]
      have hz2 : tl (Txt.ljustF (Str.ofString "s" ++ Str.ofString (toString ((kvs.length : Nat) : Int))) 11 95) = nmL cS kvs.length (10 - (numL kvs.length).length) := by
        rw [tl_ljust (by omega), tl_append, tl_num, lt1]
        have : tl (Str.ofString "s") = [cS] := by decide
        rw [this, show 11 - (1 + (numL kvs.length).length) = 10 - (numL kvs.length).length by omega]
        unfold nmL
        simp
      walk_at "rd"
      refine ⟨_, 11, Str.ofString "_", rfl, rfl, by decide, by decide, ?_⟩
      rw [eu]
      generalize Txt.ljustF (Str.ofString "s" ++ Str.ofString (toString ((kvs.length : Nat) : Int))) 11 95 = z' at *
      have w1' : OkName (tl z') := by rw [hz2]; exact w1
      have w2' : NameOk (wordOf (tl z')) := by rw [hz2]; exact w2
      have w4' : SN (L.length + 1) (wordOf (tl z')) := by rw [hz2, ← e2]; exact w4
      have w5' : lk L (fo, 1, wordOf (tl z')) = none := by
        cases hlk : lk L (fo, 1, wordOf (tl z')) with
        | none => rfl
        | some v =>
          have := hsn _ _ (lk_some_mem hlk)
          rw [hz2, ← e2] at this
          exact absurd this hnew
      walk_at "rd"
      intro p2 hp2
      have rep3 := rep2.new (o := .tup [.int ch, .int 0]) hp2
      have b3 := b2.new (o := .tup [.int ch, .int 0]) hp2
      walk_at "rd"
      intro p3 hp3
      have rep4 := rep3.new (o := .tup (tv (fo, 1, wordOf (tl z')))) hp3
      have b4 := b3.new (o := .tup (tv (fo, 1, wordOf (tl z')))) hp3
      obtain ⟨o5, g5, g6, g7, g8, g9⟩ := rep4.put (k := (fo, 1, wordOf (tl z'))) (a := p2) (v := (ch, 0)) T3.at ((T2.at (H := upd H1 p (.tup (tv (fo, 1, wordOf (tl z)))))).new hp3) (by omega)
      walk_at "rd"
      exact q _ _ (((((k1.mono (by simp)).trans (Keep.new hp)).trans (Keep.new hp2)).trans (Keep.new hp3)).trans (Keep.set (by simp))) (b4.app hdb hdcs) g6 w5' w2' w4' (wordOf_nonneg _)
    · have w5 : lk L (fo, 1, wordOf (tl z)) = none := by
        cases hlk : lk L (fo, 1, wordOf (tl z)) with
        | none => rfl
        | some v =>
          rw [hc, hlk] at g2
          cases g2
      walk_at "rd"
      intro p2 hp2
      have rep3 := rep2.new (o := .tup [.int ch, .int 0]) hp2
      have b3 := b2.new (o := .tup [.int ch, .int 0]) hp2
      walk_at "rd"
      intro p3 hp3
      have rep4 := rep3.new (o := .tup (tv (fo, 1, wordOf (tl z)))) hp3
      have b4 := b3.new (o := .tup (tv (fo, 1, wordOf (tl z)))) hp3
      obtain ⟨o5, g5, g6, g7, g8, g9⟩ := rep4.put (k := (fo, 1, wordOf (tl z))) (a := p2) (v := (ch, 0)) T3.at ((T2.at (H := upd H1 p (.tup (tv (fo, 1, wordOf (tl z)))))).new hp3) (by omega)
      walk_at "rd"
      exact q _ _ (((((k1.mono (by simp)).trans (Keep.new hp)).trans (Keep.new hp2)).trans (Keep.new hp3)).trans (Keep.set (by simp))) (b4.app hdb hdcs) g6 w5 z2 (SN.short z3 _) (wordOf_nonneg _)
end
end K41

/-! What the law builds is sound: the charges. -/
namespace K41
/-- the charges are laid over L -/
structure Fin (L L' : List Itm) : Prop where
  srt : Srt L'
  old : ∀ k v, k.1 ≠ 0 → ((k, v) ∈ L' ↔ (k, v) ∈ L)
  new : ∀ k v, (k, v) ∈ L' → k.1 = 0 → k = ck k.2.2 ∧ 0 ≤ k.2.2 ∧ k.2.2 ≤ 999 ∧ v.1 = used L k.2.2 ∧ 0 ≤ v.2 ∧ v.2 ≤ 1000001 ∧ v ≠ (0, 0)
theorem Gen.kind {ord : List Int} {L : List Itm} (G : Gen ord L) {k : K3} {v : Val} (h : (k, v) ∈ L) : k.1 ≠ 0 ∧ k.2.1 ≠ 4 := by
  obtain ⟨f, f1⟩ := G.fit _ _ h
  refine ⟨by omega, ?_⟩
  rcases f with f | ⟨_, _, _, _, f⟩
  · have := f.1
    omega
  · rcases f with f | f | f | f
    · have := f.1; omega
    · have := f.1; omega
    · have := f.1; omega
    · have := f.1; omega
theorem Gen.fin {ord : List Int} {L : List Itm} (G : Gen ord L) : Fin L L := ⟨G.srt, fun _ _ _ => Iff.rfl, fun k v m e => absurd e (G.kind m).1⟩
theorem Fin.put {L L' : List Itm} (F : Fin L L') {o : Int} {v : Val} (h1 : 0 ≤ o) (h2 : o ≤ 999) (h3 : v.1 = used L o) (h4 : 0 ≤ v.2) (h5 : v.2 ≤ 1000001) (h6 : v ≠ (0, 0)) : Fin L (put L' (ck o) v) := by
  refine ⟨srt_put F.srt _ _, fun k u ne => ?_, fun k u m e => ?_⟩
  · rw [← F.old k u ne, mem_put F.srt]
    constructor
    · rintro (e | ⟨m, _⟩)
      · have := (Prod.mk.inj e).1
        rw [this] at ne
        exact absurd rfl ne
      · exact m
    · intro m
      refine .inr ⟨m, fun e => ne ?_⟩
      have : k = ck o := e
      rw [this]
      rfl
  · rcases (mem_put F.srt).mp m with e' | ⟨m, _⟩
    · obtain ⟨rfl, rfl⟩ := Prod.mk.inj e'
      exact ⟨rfl, h1, h2, h3, h4, h5, h6⟩
    · exact F.new k u m e
theorem idx_one {ord : List Int} (h : ord.head? = some 1) : ord.idxOf 1 = 0 ∧ ∀ n, n ≠ 1 → 0 < ord.idxOf n := by
  cases ord with
  | nil => cases h
  | cons a r =>
    have : a = 1 := Option.some.inj h
    subst this
    refine ⟨by simp, fun n ne => ?_⟩
    rw [List.idxOf_cons]
    have : ((1 : Int) == n) = false := by simpa using fun e => ne e.symm
    rw [this]
    simp
theorem Fin.sound {ord : List Int} {L L' : List Itm} (G : Gen ord L) (F : Fin L L') (has : ∀ o, 0 < used L o → ∃ v, (ck o, v) ∈ L') : Sound L' ∧ Names L' := by
  have hne : ∀ m w, (nk m, w) ∈ L' → m ≠ 0 := fun m w h e => by
    have := (F.new _ _ h e).1
    have := (Prod.mk.inj (Prod.mk.inj this).2).1
    omega
  have inode : ∀ m w, (nk m, w) ∈ L' ↔ (nk m, w) ∈ L := fun m w => ⟨fun h => (F.old _ _ (hne m w h)).mp h, fun h => (F.old _ _ (G.kind h).1).mpr h⟩
  have ient : ∀ a c u, ((a, 1, c), u) ∈ L' → ((a, 1, c), u) ∈ L := fun a c u h => by
    refine (F.old _ _ fun e => ?_).mp h
    have := (F.new _ _ h e).1
    have := (Prod.mk.inj (Prod.mk.inj this).2).1
    omega
  have er : rest L' = rest L := by
    refine rest_eq G.srt F.srt fun k h4 => ?_
    cases e : lk L k with
    | some v =>
      exact lk_of_mem F.srt ((F.old _ _ (G.kind (lk_some_mem e)).1).mpr (lk_some_mem e))
    | none =>
      rw [lk_none] at *
      intro p m z
      obtain ⟨j, u⟩ := p
      dsimp only at z
      subst z
      by_cases h0 : j.1 = 0
      · have := (F.new _ _ m h0).1
        rw [this] at h4
        exact h4 rfl
      · exact e (j, u) ((F.old _ _ h0).mp m) rfl
  have ec : ∀ n, cnt L' n = cnt L n := fun n => by rw [← cnt_rest, er, cnt_rest]
  have eu : ∀ o, used L' o = used L o := fun o => by rw [← used_rest F.srt, er, used_rest G.srt]
  obtain ⟨i0, i1⟩ := idx_one G.head
  refine ⟨⟨fun n => ord.idxOf n, ⟨i0, i1⟩, ⟨F.srt, fun k v m => ?_, ?_, fun n w a b => ?_, fun n w a b c => ?_⟩, ⟨fun o h => ?_, fun o v m => ?_⟩⟩, ⟨fun c v m => ?_, fun n w m => ?_⟩⟩
  · by_cases h0 : k.1 = 0
    · obtain ⟨e, h1, h2, h3, h4, h5, h6⟩ := F.new _ _ m h0
      refine .inl ⟨h0, by rw [e]; rfl, h1, h2, by omega, h4, h5, h6⟩
    · exact ((G.fit _ _ ((F.old _ _ h0).mp m)).1).mono fun m w h => (inode m w).mpr h
  · obtain ⟨w, hw, h⟩ := G.root
    exact ⟨w, (inode _ _).mpr hw, h⟩
  · rw [ec]
    exact G.cnt n w a ((inode _ _).mp b)
  · obtain ⟨p1, p2, p3⟩ := G.par n w a ((inode _ _).mp b) c
    exact ⟨p1, p2, fun a' c' u m => p3 a' c' u (ient _ _ _ m)⟩
  · rw [eu] at h
    exact has o h
  · rw [eu]
    exact (F.new _ _ m rfl).2.2.2.1
  · exact (G.word 1 c v (ient _ _ _ m)).1
  · exact (G.num n (G.node _ _ ((inode _ _).mp m))).2
end K41

/-! The law fills a file. -/
namespace K41
open PySem PySem.Spec PyProof.Rows L2 TL
def F2 (H : Hp) (x : V) (f : Int × Int) : Prop := ∃ a, x = .ref a ∧ T2 H a f
/-- what the law has while it builds -/
structure Wd (H : Hp) (b cs d l fl : Addr) (ns : List Int) (L : List Itm) (fs : List (Int × Int)) : Prop where
  box : BoxAt H b cs
  rep : Rep H d L
  num : H l = some (.lst (ns.map V.int))
  fol : ∃ fxs, H fl = some (.lst fxs) ∧ Paired (F2 H) fxs fs
  lb : l ≠ b
  flb : fl ≠ b
section
variable {H H' : Hp} {b cs d l fl p : Addr} {ns : List Int} {L M : List Itm} {fs : List (Int × Int)} {o : HO}
theorem BoxAt.nt (h : BoxAt H b cs) : NoTup [b] H := let ⟨_, e⟩ := h.b; .one e fun _ z => nomatch z
theorem nt2 (h : BoxAt H b cs) (r : Rep H d L) : NoTup [b, d] H := by
  obtain ⟨_, e⟩ := h.b
  obtain ⟨_, e2, _⟩ := r
  exact .cons e (fun _ z => nomatch z) (.one e2 fun _ z => nomatch z)
theorem Wd.nums (w : Wd H b cs d l fl ns L fs) : l ≠ d ∧ fl ≠ d := by
  obtain ⟨_, e, _⟩ := w.rep
  obtain ⟨_, e2, _⟩ := w.fol
  exact ⟨ne_of w.num e fun z => (nomatch z), ne_of e2 e fun z => (nomatch z)⟩
theorem Wd.set (w : Wd H b cs d l fl ns L fs) (k : Keep [b, d] H H') (hb : BoxAt H' b cs) (r : Rep H' d M) : Wd H' b cs d l fl ns M fs := by
  obtain ⟨n1, n2⟩ := w.nums
  obtain ⟨fxs, e, f⟩ := w.fol
  have t := k.tup (nt2 w.box w.rep)
  refine ⟨hb, r, k.at w.num (by simp [w.lb, n1]), ⟨fxs, k.at e (by simp [w.flb, n2]), Paired.mapP f fun x y ⟨a, h1, h2⟩ => ⟨a, h1, h2.keep t⟩⟩, w.lb, w.flb⟩
theorem Wd.draw (w : Wd H b cs d l fl ns L fs) (k : Keep [b] H H') (hb : BoxAt H' b cs) : Wd H' b cs d l fl ns L fs := w.set (k.mono (by simp)) hb (w.rep.box w.box k)
theorem Wd.new (w : Wd H b cs d l fl ns L fs) (hp : H p = none) : Wd (upd H p o) b cs d l fl ns L fs := w.set (Keep.new hp) (w.box.new hp) (w.rep.new hp)
end
def FsOk (L : List Itm) (fs : List (Int × Int)) : Prop := ∀ f ∈ fs, ∃ w, (nk f.1, w) ∈ L ∧ w.1 % 2 = 1
section
variable {P : Program} {w : World} {K : PySem.W.Frag} {mg : Str → Option Value} {base : Heap}
local macro_rules | `(tactic| walk_at "rd") => `(tactic| repeat (first | refine ⟨_, rfl, ?_⟩ | refine ⟨_, _, rfl, rfl, ?_⟩ | refine ⟨_, _, rfl, ?_⟩ | refine ⟨_, _, _, rfl, ?_⟩ | refine ⟨_, _, _, _, rfl, ?_⟩ | refine ⟨rfl, ?_⟩ | refine ⟨(by show (0 : Int) < _; decide), ?_⟩ | refine ⟨cdw (by decide) (by decide), ?_⟩ | refine ⟨Or.inl (by decide), ?_⟩ | refine ⟨Or.inr (by decide), ?_⟩ | refine And.intro len4v ?_ | refine And.intro len3v ?_ | refine And.intro len2v ?_ | refine And.intro len1v ?_ | refine And.intro len0v ?_ | refine And.intro (by assumption) ?_ | refine And.intro (SS.ty (by assumption)) ?_ | refine And.intro (tyL (by assumption)) ?_ | refine ⟨_, _, _, _, rfl, rfl, sqT_of (by assumption), (by rfl), ?_⟩ | refine ⟨_, _, _, rfl, rfl, (by assumption), (by assumption), ?_⟩ | refine ⟨_, _, rfl, (by assumption), ?_⟩ | refine ⟨_, _, _, _, _, rfl, (by assumption), rfl, (by assumption), (by assumption), ?_⟩ | refine And.intro (IntD.isD (by assumption)) ?_ | refine And.intro (Rep.isD (by assumption)) ?_ | refine ⟨_, _, rfl, sqT_of (by assumption), (by rfl), ?_⟩ | refine ⟨_, _, _, _, rfl, rfl, sqL_of (by assumption), (by rfl), ?_⟩ | refine ⟨_, _, _, _, rfl, rfl, sqL_of upd_same, (by rfl), ?_⟩ | refine ⟨_, _, rfl, Or.inl (sqL_of (by assumption)), ?_⟩ | refine ⟨_, _, _, _, rfl, rfl, upd_same, (by rfl), ?_⟩ | refine ⟨_, _, _, _, rfl, rfl, (by assumption), (by rfl), ?_⟩ | refine ⟨⟨by decide, by decide, by decide⟩, ?_⟩ | refine And.intro (lenNv (by simp only [List.length_cons, List.length_nil]; omega)) ?_))
abbrev COwner (P : Program) (w : World) (K : PySem.W.Frag) (mg : Str → Option Value) (base : Heap) : Prop := Cl P w K mg base 2 "_law_owner" ["box"] spOwner
abbrev CPacked (P : Program) (w : World) (K : PySem.W.Frag) (mg : Str → Option Value) (base : Heap) : Prop := Cl P w K mg base 1 "_law_packed" ["kind", "owner", "mode", "links"] spPack
abbrev CEnter (P : Program) (w : World) (K : PySem.W.Frag) (mg : Str → Option Value) (base : Heap) : Prop := Cl P w K mg base 3 "_law_enter" ["box", "found", "numbers", "folder", "child"] spEnter
def spFill : Sp := fun vs H Q _ => ∃ (b cs d l fl : Addr) (ns : List Int) (L L' : List Itm) (fs : List (Int × Int)) (ord : List Int) (n a0 : Int), vs = [.ref b, .ref d, .ref l, .ref fl, .int n] ∧ Wd H b cs d l fl ns L' fs ∧ (∀ n ∈ ns, 1 ≤ n) ∧ ns.length < 1000 ∧ L'.length < 8000 ∧
  0 < fs.length ∧ fs.length < 1000 ∧ Gen ord L ∧ Ent L L' n [a0] ∧ (∃ w, (nk a0, w) ∈ L ∧ w.1 % 2 = 1) ∧ n ∉ ord ∧ 2 ≤ n ∧ NumOk n ∧ FsOk L fs ∧
  ∀ H' M, Keep [b, d] H H' → Wd H' b cs d l fl ns M fs → Gen (ord ++ [n]) M → (∀ m w, (nk m, w) ∈ L → (nk m, w) ∈ M) → M.length ≤ L'.length + 8 → Q .non H'
abbrev s__law_fill : Stmt := top 48
theorem sc__law_fill : FnScope ["box", "found", "numbers", "folders", "n", "size", "links", "k", "folder", "chunks", "chunk"] ["box", "found", "numbers", "folders", "n"] (defScope s__law_fill) := ⟨rfl, rfl, rfl, by decide +kernel, rfl, by decide +kernel, by decide +kernel⟩
theorem ok__law_fill {f : Addr} {fd : FuncData} (F : Fun K "_law_fill" "_law_fill" s__law_fill f fd) (T : Txt mg) (C__law_take : CTake P w K mg base) (C__law_owner : COwner P w K mg base) (C__law_packed : CPacked P w K mg base) (C__law_enter : CEnter P w K mg base) :
    FnOk P w K mg base CX0 4 f fd ["box", "found", "numbers", "folders", "n"] spFill := by
  refine F.ok sc__law_fill (fun vs H Q E h => ?_) (fun cdv A outer s H vs Q E hr h => ?_)
  · obtain ⟨_, _, _, _, _, _, _, _, _, _, _, _, rfl, _⟩ := h
    rfl
  · obtain ⟨b, cs, d, l, fl, ns, L, L', fs, ord, n, a0, rfl, wd, hns, hnl, hL', hf0, hf1, G, E0, ha0, hn, hn2, hnum, fok, q⟩ := h
    refine ⟨_, (pss_cons (ps_set (i := 5) sc__law_fill.nd rfl (Or.inl rfl) (pe_ix ix_list (pe_lst (pa_cons pe_int (pa_cons pe_int (pa_cons pe_int (pa_cons pe_int (pa_cons pe_int (pa_cons (pe_op op_pow pe_int pe_int) (pa_cons (pe_own C__law_take hr (by decide) rfl (pa_cons (pv 0) (pa_cons (pe_op op_add (pe_op op_pow pe_int pe_int) pe_int) pa_nil))) pa_nil)))))))) (pe_own C__law_take hr (by decide) rfl (pa_cons (pv 0) (pa_cons pe_int pa_nil))) (fun _ _ => rfl)))
  (pss_cons (ps_set (i := 6) sc__law_fill.nd rfl (Or.inl rfl) (pe_op op_add pe_int (pe_ix ix_list (pe_lst (pa_cons pe_int (pa_cons pe_int (pa_cons pe_int (pa_cons pe_int (pa_cons pe_int pa_nil)))))) (pe_own C__law_take hr (by decide) rfl (pa_cons (pv 0) (pa_cons pe_int pa_nil))) (fun _ _ => rfl))))
  (pss_cons (ps_for PassesOwn.never rfl (pi_range1 rfl T.b_range (pa_cons (pe_op op_sub (pv 6) pe_int) pa_nil)) (pg_name (i := 7) sc__law_fill.nd rfl (Or.inl rfl))
  (pss_cons (ps_set (i := 8) sc__law_fill.nd rfl (Or.inl rfl) (pe_ix ix_list (pv 3) (pe_own C__law_take hr (by decide) rfl (pa_cons (pv 0) (pa_cons (pe_callB call_len_seq (by rfl) T.b_len (by decide +kernel) (pa_cons (pv 3) pa_nil)) pa_nil))) (fun _ _ => rfl)))
  (pss_one (ps_expr (pe_own C__law_enter hr (by decide) rfl (pa_cons (pv 0) (pa_cons (pv 1) (pa_cons (pv 2) (pa_cons (pe_ix ix_tup (pv 8) pe_int (fun _ _ => rfl)) (pa_cons (pv 4) pa_nil))))))))))
  (pss_cons (ps_dput (hu_of hr) (pv 1) (pe_tup (pa_cons (pv 4) (pa_cons pe_int (pa_cons pe_int pa_nil)))) (pe_tup (pa_cons (pe_own C__law_packed hr (by decide) rfl (pa_cons pe_int (pa_cons (pe_own C__law_owner hr (by decide) rfl (pa_cons (pv 0) pa_nil)) (pa_cons (pe_own C__law_take hr (by decide) rfl (pa_cons (pv 0) (pa_cons pe_int pa_nil))) (pa_cons (pv 6) pa_nil))))) (pa_cons (pv 5) pa_nil))) rfl)
  (pss_one (ps_for PassesOwn.never rfl (pi_range1 rfl T.b_range (pa_cons (pe_op op_mul (pe_own C__law_take hr (by decide) rfl (pa_cons (pv 0) (pa_cons pe_int pa_nil))) (pe_callB (call_min2 rfl) (by rfl) T.b_min (by decide +kernel) (pa_cons pe_int (pa_cons (pv 5) pa_nil)))) pa_nil)) (pg_name (i := 7) sc__law_fill.nd rfl (Or.inl rfl))
  (pss_cons (ps_set (i := 9) sc__law_fill.nd rfl (Or.inl rfl) (pe_op op_fdivW (pe_op op_add (pv 5) pe_int) pe_int))
  (pss_cons (ps_set (i := 10) sc__law_fill.nd rfl (Or.inl rfl) (pe_ix ix_list (pe_lst (pa_cons pe_int (pa_cons (pe_op op_sub (pv 9) pe_int) (pa_cons (pe_own C__law_take hr (by decide) rfl (pa_cons (pv 0) (pa_cons (pv 9) pa_nil))) pa_nil)))) (pe_own C__law_take hr (by decide) rfl (pa_cons (pv 0) (pa_cons pe_int pa_nil))) (fun _ _ => rfl)))
  (pss_one (ps_dput (hu_of hr) (pv 1) (pe_tup (pa_cons (pv 4) (pa_cons pe_int (pa_cons (pv 10) pa_nil)))) (pe_tup (pa_cons (pe_op op_add pe_int (pe_own C__law_take hr (by decide) rfl (pa_cons (pv 0) (pa_cons pe_int pa_nil)))) (pa_cons (pe_op op_add (pe_op op_add (pe_op op_pow pe_int pe_int) pe_int) (pe_own C__law_take hr (by decide) rfl (pa_cons (pv 0) (pa_cons (pe_op op_pow pe_int pe_int) pa_nil)))) pa_nil))) rfl)))))))))), ?_⟩
    have e6 : (10 : Int) ^ (Int.toNat 6) = 1000000 := by decide
    walk_at "rd"
    refine ⟨b, cs, _, rfl, wd.box, by rw [e6]; omega, by rw [e6]; omega, fun H1 r1 k1 b1 p1 p1' => ?_⟩
    rw [e6] at p1'
    have wd1 := wd.draw k1 b1
    walk_at "rd"
    intro p hp
    have wd2 := wd1.new (o := .lst [.int 0, .int 1, .int 30, .int 31, .int 59, .int (10 ^ Int.toNat 6), .int r1]) hp
    have pb : p ≠ b := fun e => by
      obtain ⟨_, e1⟩ := b1.b
      rw [e, e1] at hp
      cases hp
    walk_at "rd"
    refine ⟨b, cs, _, rfl, wd2.box, by decide, by decide, fun H3 r3 k3 b3 p3 p3' => ?_⟩
    have wd3 := wd2.draw k3 b3
    have hp3 : H3 p = some (.lst ([0, 1, 30, 31, 59, 10 ^ Int.toNat 6, r1].map V.int)) := k3.at upd_same (by simpa using pb)
    obtain ⟨x, hx, hx2⟩ := atI_ints (ns := [0, 1, 30, 31, 59, 10 ^ Int.toNat 6, r1]) p3 (by simpa using p3')
    have hx01 : 0 ≤ x ∧ x ≤ 1000000 := by
      rw [e6] at hx
      simp only [List.mem_cons, List.not_mem_nil, or_false] at hx
      omega
    refine ⟨p, _, r3, _, rfl, rfl, sqL_of hp3, hx2, ?_⟩
    have k03 := ((k1.mono (T := [b, d]) (by simp)).trans (Keep.new (o := .lst [.int 0, .int 1, .int 30, .int 31, .int 59, .int (10 ^ Int.toNat 6), .int r1]) hp)).trans (k3.mono (by simp))
    clear hx2 hx hp3
    walk_at "rd"
    intro p5 hp5
    have wd4 := wd3.new (o := .lst [.int 0, .int 0, .int 0, .int 1, .int 2]) hp5
    have pb5 : p5 ≠ b := fun e => by
      obtain ⟨_, e1⟩ := b3.b
      rw [e, e1] at hp5
      cases hp5
    walk_at "rd"
    refine ⟨b, cs, _, rfl, wd4.box, by decide, by decide, fun H5 r5 k5 b5 s5 s5' => ?_⟩
    have wd5 := wd4.draw k5 b5
    have hp5' : H5 p5 = some (.lst ([0, 0, 0, 1, 2].map V.int)) := k5.at upd_same (by simpa using pb5)
    obtain ⟨y, hy, hy2⟩ := atI_ints (ns := [0, 0, 0, 1, 2]) s5 (by simpa using s5')
    have hy01 : 0 ≤ y ∧ y ≤ 2 := by
      simp only [List.mem_cons, List.not_mem_nil, or_false] at hy
      omega
    refine ⟨p5, _, r5, _, rfl, rfl, sqL_of hp5', hy2, ?_⟩
    have k05 := (k03.trans (Keep.new (o := .lst [.int 0, .int 0, .int 0, .int 1, .int 2]) hp5)).trans (k5.mono (by simp))
    clear hy2 hy hp5'
    walk_at "rd"
    refine ⟨by omega, by omega, ?_⟩
    refine for_range (fun i σ H' => (∃ x7 x8 x9 x10, σ = [some (.ref b), some (.ref d), some (.ref l), some (.ref fl), some (.int n), some (.int x), some (.int (1 + y)), x7, x8, x9, x10]) ∧ Keep [b, d] H5 H' ∧
      ∃ as Li, as.length = 1 + i ∧ Ent L Li n as ∧ (∀ a ∈ as, ∃ w, (nk a, w) ∈ L ∧ w.1 % 2 = 1) ∧ Wd H' b cs d l fl ns Li fs ∧ Li.length = L'.length + i) ?_ ?_ ?_
    · exact ⟨⟨_, _, _, _, rfl⟩, Keep.refl _ _, [a0], L', rfl, E0, fun a m => by rw [List.mem_singleton.mp m]; exact ha0, wd5, rfl⟩
    · rintro i σ H6 hi ⟨⟨x7, x8, x9, x10, rfl⟩, k6, as, Li, la, Ei, hasF, wd6, lLi⟩
      obtain ⟨fxs, ef, pf⟩ := wd6.fol
      have lf : fxs.length = fs.length := Paired.length pf
      walk_at "rd"
      refine ⟨b, cs, _, rfl, wd6.box, by omega, by omega, fun H7 r7 k7 b7 p7 p7' => ?_⟩
      have wd7 := wd6.draw k7 b7
      obtain ⟨fxs, ef, pf⟩ := wd7.fol
      have lf' : fxs.length = fs.length := Paired.length pf
      obtain ⟨v, hv1, hv2, hv3⟩ := atI_in (xs := fxs) p7 (by rw [lf', ← lf]; exact p7')
      obtain ⟨g, hg, a, rfl, ta⟩ := Paired.get pf hv2
      have hgm : g ∈ fs := List.mem_of_getElem? hg
      obtain ⟨wg, wg1, wg2⟩ := fok g hgm
      refine ⟨fl, _, r7, _, rfl, rfl, sqL_of ef, hv3, ?_⟩
      walk_at "rd"
      have hsn : ∀ c u, ((g.1, 1, c), u) ∈ Li → SN Li.length c := fun c u m => by
        rcases Ei.mem _ m with m | ⟨a', c', e, _, _, _, h⟩
        · exact (G.word _ _ _ m).2.mono Ei.le
        · rw [(Prod.mk.inj (Prod.mk.inj (Prod.mk.inj e).1).2).2]
          exact h
      refine ⟨b, cs, d, l, ns, Li, g.1, n, rfl, wd7.box, wd7.rep, wd7.num, wd7.lb, hns, hnl, by omega, hsn, fun H8 c k8 b8 r8 n0 n1 n2 n3 => ?_⟩
      refine ⟨⟨_, _, _, _, rfl⟩, (k6.trans (k7.mono (by simp))).trans k8, as ++ [g.1], _, by simp [la]; omega, Ei.step n0 n1 n2 n3, fun a' m => ?_, wd7.set k8 b8 r8, by rw [len_put_new n0, lLi]; omega⟩
      rcases List.mem_append.mp m with m | m
      · exact hasF a' m
      · rw [List.mem_singleton.mp m]
        exact ⟨wg, wg1, wg2⟩
    · rintro σ H6 ⟨⟨x7, x8, x9, x10, rfl⟩, k6, as, Li, la, Ei, hasF, wd6, lLi⟩
      walk_at "rd"
      refine ⟨b, cs, rfl, wd6.box, fun H7 ow k7 b7 p7 p7' => ?_⟩
      have wd7 := wd6.draw k7 b7
      walk_at "rd"
      refine ⟨b, cs, _, rfl, wd7.box, by decide, by decide, fun H8 mo k8 b8 p8 p8' => ?_⟩
      have wd8 := wd7.draw k8 b8
      walk_at "rd"
      intro p9 hp9
      have wd9 := wd8.new (o := .tup [.int (0 + 2 * (mo + 64 * (ow + 1000 * (1 + y)))), .int x]) hp9
      walk_at "rd"
      intro p10 hp10
      have wd10 := wd9.new (o := .tup (tv (nk n))) hp10
      obtain ⟨o11, g11, r11, _, _, t11⟩ := wd10.rep.put (k := nk n) (a := p9) (v := (0 + 2 * (mo + 64 * (ow + 1000 * (1 + y))), x)) T3.at ((T2.at (H := H8)).new hp10) (by omega)
      have k11 : Keep [b, d] (upd (upd H8 p9 (.tup [.int (0 + 2 * (mo + 64 * (ow + 1000 * (1 + y)))), .int x])) p10 (.tup (tv (nk n)))) _ := Keep.set (o := o11) (p := d) (by simp)
      obtain ⟨hdb, hdcs⟩ := wd10.box.neD wd10.rep
      have wd11 := wd10.set k11 (wd10.box.app hdb hdcs) r11
      walk_at "rd"
      have las : as.length = (1 + y).toNat := by omega
      have G1 : Gen (ord ++ [n]) (put Li (nk n) (0 + 2 * (mo + 64 * (ow + 1000 * (1 + y))), x)) := by
        refine G.add Ei hn hn2 hnum hasF ⟨?_, ?_⟩ (.inr ⟨?_, hx01.1, hx01.2⟩)
        · show 128000 ≤ 0 + 2 * (mo + 64 * (ow + 1000 * (1 + y)))
          omega
        · show (0 + 2 * (mo + 64 * (ow + 1000 * (1 + y)))) / 128000 = (as.length : Int)
          omega
        · show (0 + 2 * (mo + 64 * (ow + 1000 * (1 + y)))) % 2 = 0
          omega
      have kk11 := ((((k05.trans k6).trans (k7.mono (by simp))).trans (k8.mono (by simp))).trans (Keep.new (o := .tup [.int (0 + 2 * (mo + 64 * (ow + 1000 * (1 + y)))), .int x]) hp9)).trans ((Keep.new (o := .tup (tv (nk n))) hp10).trans k11)
      have hnode : (nk n, ((0 + 2 * (mo + 64 * (ow + 1000 * (1 + y))), x) : Val)) ∈ put Li (nk n) (0 + 2 * (mo + 64 * (ow + 1000 * (1 + y))), x) := (mem_put Ei.srt).mpr (.inl rfl)
      have hold : ∀ m u, (nk m, u) ∈ L → (nk m, u) ∈ put Li (nk n) (0 + 2 * (mo + 64 * (ow + 1000 * (1 + y))), x) := fun m u h => (mem_put Ei.srt).mpr (.inr ⟨Ei.sub _ h, fun e => hn (by
        have : nk m = nk n := e
        rw [← nk_inj this]
        exact G.node _ _ h)⟩)
      have hlen1 : (put Li (nk n) (0 + 2 * (mo + 64 * (ow + 1000 * (1 + y))), x)).length ≤ L'.length + 3 := by
        have := len_put Li (nk n) (0 + 2 * (mo + 64 * (ow + 1000 * (1 + y))), x)
        omega
      have hev : (0 + 2 * (mo + 64 * (ow + 1000 * (1 + y)))) % 2 = 0 := by omega
      clear r11 t11 g11 wd10 wd9
      generalize 0 + 2 * (mo + 64 * (ow + 1000 * (1 + y))) = pk at *
      generalize put Li (nk n) (pk, x) = M0 at *
      refine ⟨b, cs, _, rfl, wd11.box, by decide, by decide, fun H12 r12 k12 b12 q12 q12' => ?_⟩
      have wd12 := wd11.draw k12 b12
      have hcm : CMul r12 (if x < 1 then x else 1) := Or.inl ⟨by omega, by omega⟩
      have hrm : 0 ≤ r12 * (if x < 1 then x else 1) ∧ r12 * (if x < 1 then x else 1) ≤ 2 ∧ (x < 1 → r12 * (if x < 1 then x else 1) = 0) := by
        by_cases hx1 : x < 1
        · have : x = 0 := by omega
          rw [if_pos hx1, this, Int.mul_zero]
          omega
        · rw [if_neg hx1, Int.mul_one]
          omega
      have k12' := kk11.trans (k12.mono (T := [b, d]) (by simp))
      walk_at "rd"
      generalize r12 * (if x < 1 then x else 1) = rm at *
      refine ⟨by omega, by omega, ?_⟩
      refine for_range (fun i σ H' => (∃ x7 x8 x9 x10, σ = [some (.ref b), some (.ref d), some (.ref l), some (.ref fl), some (.int n), some (.int x), some (.int (1 + y)), x7, x8, x9, x10]) ∧ Keep [b, d] H12 H' ∧
        ∃ M, Gen (ord ++ [n]) M ∧ (nk n, ((pk, x) : Val)) ∈ M ∧ (∀ m u, (nk m, u) ∈ L → (nk m, u) ∈ M) ∧ Wd H' b cs d l fl ns M fs ∧ M.length ≤ L'.length + 3 + i) ?_ ?_ ?_
      · exact ⟨⟨_, _, _, _, rfl⟩, Keep.refl _ _, M0, G1, hnode, hold, wd12, by omega⟩
      · rintro i σ H13 hi ⟨⟨x7, x8, x9, x10, rfl⟩, k13, M, GM, nM, oM, wd13, lM⟩
        have hx1 : 1 ≤ x := by omega
        walk_at "rd"
        refine ⟨b, cs, _, rfl, wd13.box, by omega, by omega, fun H14 r14 k14 b14 q14 q14' => ?_⟩
        have wd14 := wd13.draw k14 b14
        walk_at "rd"
        intro p15 hp15
        have wd15 := wd14.new (o := .lst [.int 0, .int ((x + 29) / 30 - 1), .int r14]) hp15
        have pb15 : p15 ≠ b := fun e => by
          obtain ⟨_, e1⟩ := b14.b
          rw [e, e1] at hp15
          cases hp15
        walk_at "rd"
        refine ⟨b, cs, _, rfl, wd15.box, by decide, by decide, fun H16 r16 k16 b16 q16 q16' => ?_⟩
        have wd16 := wd15.draw k16 b16
        have hp16 : H16 p15 = some (.lst ([0, (x + 29) / 30 - 1, r14].map V.int)) := k16.at upd_same (by simpa using pb15)
        obtain ⟨z, hz, hz2⟩ := atI_ints (ns := [0, (x + 29) / 30 - 1, r14]) q16 (by simpa using q16')
        have hz01 : 0 ≤ z ∧ 30 * z < x := by
          simp only [List.mem_cons, List.not_mem_nil, or_false] at hz
          omega
        refine ⟨p15, _, r16, _, rfl, rfl, sqL_of hp16, hz2, ?_⟩
        clear hz2 hz hp16
        walk_at "rd"
        refine ⟨b, cs, _, rfl, wd16.box, by decide, by decide, fun H17 r17 k17 b17 q17 q17' => ?_⟩
        have wd17 := wd16.draw k17 b17
        walk_at "rd"
        refine ⟨b, cs, _, rfl, wd17.box, by rw [e6]; omega, by rw [e6]; omega, fun H18 r18 k18 b18 q18 q18' => ?_⟩
        have wd18 := wd17.draw k18 b18
        walk_at "rd"
        intro p19 hp19
        have wd19 := wd18.new (o := .tup [.int (8 + r17), .int (2 ^ Int.toNat 24 + 1 + r18)]) hp19
        walk_at "rd"
        intro p20 hp20
        have wd20 := wd19.new (o := .tup (tv (n, 3, z))) hp20
        obtain ⟨o21, g21, r21, _, _, t21⟩ := wd20.rep.put (k := (n, 3, z)) (a := p19) (v := (8 + r17, 2 ^ Int.toNat 24 + 1 + r18)) T3.at ((T2.at (H := H18)).new hp20) (by omega)
        have k21 : Keep [b, d] (upd (upd H18 p19 (.tup [.int (8 + r17), .int (2 ^ Int.toNat 24 + 1 + r18)])) p20 (.tup (tv (n, 3, z)))) _ := Keep.set (o := o21) (p := d) (by simp)
        obtain ⟨hdb, hdcs⟩ := wd20.box.neD wd20.rep
        have wd21 := wd20.set k21 (wd20.box.app hdb hdcs) r21
        walk_at "rd"
        have k13' := ((((((k13.trans (k14.mono (by simp))).trans (Keep.new hp15)).trans (k16.mono (by simp))).trans (k17.mono (by simp))).trans (k18.mono (by simp))).trans (Keep.new hp19)).trans ((Keep.new hp20).trans k21)
        refine ⟨⟨_, _, _, _, rfl⟩, k13', _, GM.extra (k := (n, 3, z)) (by show (3 : Int) ≠ 0; decide) (by show (3 : Int) ≠ 1; decide) (.inr ⟨by show 1 ≤ n; omega, hz01.1, _, nM, .inr (.inr (.inr ⟨rfl, hev, hz01.2⟩))⟩) (by show 1 ≤ n; omega), ?_, fun m u h => ?_, wd21, ?_⟩
        · exact (mem_put GM.srt).mpr (.inr ⟨nM, fun e => by
            have := (Prod.mk.inj (Prod.mk.inj e).2).1
            omega⟩)
        · exact (mem_put GM.srt).mpr (.inr ⟨oM m u h, fun e => by
            have := (Prod.mk.inj (Prod.mk.inj e).2).1
            omega⟩)
        · have := len_put M (n, 3, z) (8 + r17, 2 ^ Int.toNat 24 + 1 + r18)
          omega
      · rintro σ H13 ⟨⟨x7, x8, x9, x10, rfl⟩, k13, M, GM, nM, oM, wd13, lM⟩
        exact q _ M (k12'.trans k13) wd13 GM oM (by omega)
end
end K41

/-! The law's nodes. -/
namespace K41
open PySem PySem.Spec PyProof.Rows L2 TL
section
variable {H H' : Hp} {b cs d l fl p x : Addr} {ns : List Int} {L M : List Itm} {fs : List (Int × Int)} {o : HO}
theorem Wd.upd (w : Wd H b cs d l fl ns L fs) {zs ys : List V} (hx : H x = some (.lst zs)) (n1 : x ≠ b) (n2 : x ≠ cs) (n3 : x ≠ d) (n4 : x ≠ l) (n5 : x ≠ fl) : Wd (L2.upd H x (.lst ys)) b cs d l fl ns L fs := by
  have t : TupK H (L2.upd H x (.lst ys)) := TupK.set hx fun _ z => nomatch z
  obtain ⟨fxs, e, f⟩ := w.fol
  exact ⟨w.box.app n1 n2, w.rep.keep t fun o e => by rw [upd_ne n3.symm]; exact e, by rw [upd_ne n4.symm]; exact w.num, ⟨fxs, by rw [upd_ne n5.symm]; exact e, Paired.mapP f fun x y ⟨a, h1, h2⟩ => ⟨a, h1, h2.keep t⟩⟩, w.lb, w.flb⟩
theorem Wd.app (w : Wd H b cs d l fl ns L fs) {fxs : List V} {v : V} {f : Int × Int} (hx : H fl = some (.lst fxs)) (hv : F2 H v f) (n1 : fl ≠ cs) (n2 : fl ≠ l) : Wd (L2.upd H fl (.lst (fxs ++ [v]))) b cs d l fl ns L (fs ++ [f]) := by
  have t : TupK H (L2.upd H fl (.lst (fxs ++ [v]))) := TupK.set hx fun _ z => nomatch z
  obtain ⟨fxs', e, g⟩ := w.fol
  rw [hx] at e
  have e := HO.lst.inj (Option.some.inj e)
  subst e
  obtain ⟨_, n3⟩ := w.nums
  obtain ⟨a, h1, h2⟩ := hv
  exact ⟨w.box.app w.flb n1, w.rep.keep t fun o e => by rw [upd_ne n3.symm]; exact e, by rw [upd_ne n2.symm]; exact w.num, ⟨_, upd_same, Paired.snoc (Paired.mapP g fun x y ⟨a, h1, h2⟩ => ⟨a, h1, h2.keep t⟩) ⟨a, h1, h2.keep t⟩⟩, w.lb, w.flb⟩
end
/-- a loop over a new list -/
theorem for_seqN {K : PySem.W.Frag} {te : TE} {g : TG} {tb : TS} {D : Ends} {σ : L2.St} {H : Hp} {xs : List V} {S : List Addr} (ht : ∀ k : VK, (∀ p H1, Keep [] H H1 → H p = none → SqL K H1 p xs → k (.ref p) H1) → te σ H k) (hS : ∀ a ∈ S, H a ≠ none)
    (Pv : Nat → L2.St → Hp → Prop) (h0 : ∀ H1, Keep [] H H1 → Pv 0 σ H1)
    (hs : ∀ H0 i x σ H1, xs[i]? = some x → Pv i σ H1 → Keep S H H0 → Keep S H0 H1 → g x σ H1 fun σ2 H2 => tb { D with nx := fun σ3 H3 => Keep S H0 H3 ∧ Pv (i + 1) σ3 H3, ct := fun σ3 H3 => Keep S H0 H3 ∧ Pv (i + 1) σ3 H3, bk := D.nx } σ2 H2)
    (hd : ∀ σ H1, Keep S H H1 → Pv xs.length σ H1 → D.nx σ H1) : tFor (iList K te) g tb D σ H := by
  refine ht _ fun p H0 k0 hp sq => ?_
  have hpS : p ∉ S := fun m => hS p m hp
  refine ⟨p, rfl, ⟨xs, sq⟩, ?_⟩
  have k0' : Keep S H H0 := k0.mono (by simp)
  refine for_it walk_list (fun i σ H1 => Keep S H0 H1 ∧ Pv i σ H1) ⟨Keep.refl S _, h0 _ k0⟩ (fun i σ H1 _ h => SqL.keep sq h.1 hpS) ?_ ?_
  · rintro i x σ1 H1 H2 hi ⟨k1, pv⟩ ⟨rfl, hx⟩
    exact hs _ i x σ1 H2 hx pv k0' k1
  · rintro σ1 H1 ⟨k1, pv⟩
    exact hd σ1 H1 (k0'.trans k1) pv
theorem erase_facts {ws : List Int} {k : Nat} {n : Int} (nd : ws.Nodup) (h : ws[k]? = some n) : (ws.eraseIdx k).Nodup ∧ (∀ m ∈ ws.eraseIdx k, m ∈ ws ∧ m ≠ n) ∧ (∀ m ∈ ws, m = n ∨ m ∈ ws.eraseIdx k) ∧ (ws.eraseIdx k).length + 1 = ws.length := by
  obtain ⟨hk, e⟩ := List.getElem?_eq_some_iff.mp h
  have e1 : ws = ws.take k ++ n :: ws.drop (k + 1) := by
    rw [← e]
    simp
  have e2 : ws.eraseIdx k = ws.take k ++ ws.drop (k + 1) := List.eraseIdx_eq_take_drop_succ _ _
  have nd' := nd
  rw [e1, List.nodup_append] at nd'
  obtain ⟨n1, n2, n3⟩ := nd'
  obtain ⟨n4, n5⟩ := List.nodup_cons.mp n2
  refine ⟨?_, fun m hm => ?_, fun m hm => ?_, ?_⟩
  · exact nd.sublist (List.eraseIdx_sublist _ _)
  · rw [e2] at hm
    refine ⟨(List.eraseIdx_sublist ws k).subset (by rw [e2]; exact hm), ?_⟩
    rintro rfl
    rcases List.mem_append.mp hm with hm | hm
    · exact n3 _ hm _ List.mem_cons_self rfl
    · exact n4 hm
  · rw [e1] at hm
    rw [e2]
    rcases List.mem_append.mp hm with hm | hm
    · exact .inr (List.mem_append_left _ hm)
    · rcases List.mem_cons.mp hm with hm | hm
      · exact .inl hm
      · exact .inr (List.mem_append_right _ hm)
  · rw [List.length_eraseIdx, if_pos hk]
    omega
theorem Keep.only {S : List Addr} {H H' : Hp} {b : Addr} (k : Keep S H H') (h : ∀ x ∈ S, x = b ∨ H x = none) : Keep [b] H H' := fun x u e n => k x u e fun m => by
  rcases h x m with z | z
  · exact n (by rw [z]; simp)
  · rw [z] at e; cases e
theorem map_erase (ws : List Int) (j : Nat) : (ws.map V.int).eraseIdx j = (ws.eraseIdx j).map V.int := by
  rw [List.eraseIdx_eq_take_drop_succ, List.eraseIdx_eq_take_drop_succ, List.map_append, List.map_take, List.map_drop]
section
variable {P : Program} {w : World} {K : PySem.W.Frag} {mg : Str → Option Value} {base : Heap}
local macro_rules | `(tactic| walk_at "rd") => `(tactic| repeat (first | refine ⟨_, rfl, ?_⟩ | refine ⟨_, _, rfl, rfl, ?_⟩ | refine ⟨_, _, rfl, ?_⟩ | refine ⟨_, _, _, rfl, ?_⟩ | refine ⟨_, _, _, _, rfl, ?_⟩ | refine ⟨rfl, ?_⟩ | refine ⟨(by show (0 : Int) < _; decide), ?_⟩ | refine ⟨cdw (by decide) (by decide), ?_⟩ | refine ⟨Or.inl (by decide), ?_⟩ | refine ⟨Or.inr (by decide), ?_⟩ | refine And.intro len4v ?_ | refine And.intro len3v ?_ | refine And.intro len2v ?_ | refine And.intro len1v ?_ | refine And.intro len0v ?_ | refine And.intro (by assumption) ?_ | refine And.intro (SS.ty (by assumption)) ?_ | refine And.intro (tyL (by assumption)) ?_ | refine ⟨_, _, _, _, rfl, rfl, sqT_of (by assumption), (by rfl), ?_⟩ | refine ⟨_, _, _, rfl, rfl, (by assumption), (by assumption), ?_⟩ | refine ⟨_, _, rfl, (by assumption), ?_⟩ | refine ⟨_, _, _, _, _, rfl, (by assumption), rfl, (by assumption), (by assumption), ?_⟩ | refine And.intro (IntD.isD (by assumption)) ?_ | refine And.intro (Rep.isD (by assumption)) ?_ | refine ⟨_, _, rfl, sqT_of (by assumption), (by rfl), ?_⟩ | refine ⟨_, _, _, _, rfl, rfl, sqL_of (by assumption), (by rfl), ?_⟩ | refine ⟨_, _, _, _, rfl, rfl, sqL_of upd_same, (by rfl), ?_⟩ | refine ⟨_, _, rfl, Or.inl (sqL_of (by assumption)), ?_⟩ | refine ⟨_, _, _, _, rfl, rfl, upd_same, (by rfl), ?_⟩ | refine ⟨_, _, _, _, rfl, rfl, (by assumption), (by rfl), ?_⟩ | refine ⟨⟨by decide, by decide, by decide⟩, ?_⟩ | refine And.intro (lenNv (by simp only [List.length_cons, List.length_nil]; omega)) ?_))
abbrev CNumbers (P : Program) (w : World) (K : PySem.W.Frag) (mg : Str → Option Value) (base : Heap) : Prop := Cl P w K mg base 2 "_law_numbers" ["box"] spNumbers
abbrev CFill (P : Program) (w : World) (K : PySem.W.Frag) (mg : Str → Option Value) (base : Heap) : Prop := Cl P w K mg base 4 "_law_fill" ["box", "found", "numbers", "folders", "n"] spFill
def spNodes : Sp := fun vs H Q _ => ∃ b cs, vs = [.ref b] ∧ BoxAt H b cs ∧ ∀ H' d L ord, Keep [b] H H' → BoxAt H' b cs → H d = none → Rep H' d L → Gen ord L → L.length ≤ 700 → Q (.ref d) H'
abbrev s__law_nodes : Stmt := top 49
theorem sc__law_nodes : FnScope ["box", "found", "numbers", "waiting", "folders", "k", "n", "above"] ["box"] (defScope s__law_nodes) := ⟨rfl, rfl, rfl, by decide +kernel, rfl, by decide +kernel, by decide +kernel⟩
theorem ok__law_nodes {f : Addr} {fd : FuncData} (F : Fun K "_law_nodes" "_law_nodes" s__law_nodes f fd) (T : Txt mg) (C__law_take : CTake P w K mg base) (C__law_owner : COwner P w K mg base) (C__law_packed : CPacked P w K mg base) (C__law_enter : CEnter P w K mg base)
    (C__law_numbers : CNumbers P w K mg base) (C__law_fill : CFill P w K mg base) (C__law_word : CWord P w K mg base) (C__law_name : CName P w K mg base) :
    FnOk P w K mg base CX0 5 f fd ["box"] spNodes := by
  refine F.ok sc__law_nodes (fun vs H Q E h => ?_) (fun cdv A outer s H vs Q E hr h => ?_)
  · obtain ⟨_, _, rfl, _⟩ := h
    rfl
  · obtain ⟨b, cs, rfl, hb, q⟩ := h
    refine ⟨_, (pss_cons (ps_set (i := 1) sc__law_nodes.nd rfl (Or.inl rfl) pe_dnewT)
  (pss_cons (ps_dput (hu_of hr) (pv 1) (pe_tup (pa_cons pe_int (pa_cons pe_int (pa_cons pe_int pa_nil)))) (pe_tup (pa_cons (pe_own C__law_packed hr (by decide) rfl (pa_cons pe_int (pa_cons (pe_own C__law_owner hr (by decide) rfl (pa_cons (pv 0) pa_nil)) (pa_cons (pe_ix ix_list (pe_lst (pa_cons pe_int (pa_cons (pe_own C__law_take hr (by decide) rfl (pa_cons (pv 0) (pa_cons pe_int pa_nil))) pa_nil))) (pe_own C__law_take hr (by decide) rfl (pa_cons (pv 0) (pa_cons pe_int pa_nil))) (fun _ _ => rfl)) (pa_cons pe_int pa_nil))))) (pa_cons pe_int pa_nil))) rfl)
  (pss_cons (ps_set (i := 2) sc__law_nodes.nd rfl (Or.inl rfl) (pe_own C__law_numbers hr (by decide) rfl (pa_cons (pv 0) pa_nil)))
  (pss_cons (ps_set (i := 3) sc__law_nodes.nd rfl (Or.inl rfl) (pe_callTy call_list_of (by rfl) T.b_list (by decide +kernel) (pa_cons (pv 2) pa_nil)))
  (pss_cons (ps_set (i := 4) sc__law_nodes.nd rfl (Or.inl rfl) (pe_lst (pa_cons (pe_tup (pa_cons pe_int (pa_cons pe_int pa_nil))) pa_nil)))
  (pss_cons (ps_for PassesOwn.never rfl (pi_range1 rfl T.b_range (pa_cons (pe_callB call_len_seq (by rfl) T.b_len (by decide +kernel) (pa_cons (pv 2) pa_nil)) pa_nil)) (pg_name (i := 5) sc__law_nodes.nd rfl (Or.inl rfl))
  (pss_cons (ps_set (i := 6) sc__law_nodes.nd rfl (Or.inl rfl) (pe_bm PySem.F.plainAttrs_list PySem.F.slot_list_pop PySem.F.type_list_pop mt_popAt (pv 3) (pa_cons (pe_own C__law_take hr (by decide) rfl (pa_cons (pv 0) (pa_cons (pe_callB call_len_seq (by rfl) T.b_len (by decide +kernel) (pa_cons (pv 3) pa_nil)) pa_nil))) pa_nil)))
  (pss_cons (ps_set (i := 7) sc__law_nodes.nd rfl (Or.inl rfl) (pe_ix ix_list (pv 4) (pe_op op_mul (pe_own C__law_take hr (by decide) rfl (pa_cons (pv 0) (pa_cons (pe_callB call_len_seq (by rfl) T.b_len (by decide +kernel) (pa_cons (pv 4) pa_nil)) pa_nil))) (pe_own C__law_take hr (by decide) rfl (pa_cons (pv 0) (pa_cons pe_int pa_nil)))) (fun _ _ => rfl)))
  (pss_cons (ps_expr (pe_own C__law_enter hr (by decide) rfl (pa_cons (pv 0) (pa_cons (pv 1) (pa_cons (pv 2) (pa_cons (pe_ix ix_tup (pv 7) pe_int (fun _ _ => rfl)) (pa_cons (pv 6) pa_nil)))))))
  (pss_one (ps_if (pt_cmpR op_lt (pe_own C__law_take hr (by decide) rfl (pa_cons (pv 0) (pa_cons pe_int pa_nil))) pe_int (nomark _))
  (pss_cons (ps_dput (hu_of hr) (pv 1) (pe_tup (pa_cons (pv 6) (pa_cons pe_int (pa_cons pe_int pa_nil)))) (pe_tup (pa_cons (pe_own C__law_packed hr (by decide) rfl (pa_cons pe_int (pa_cons (pe_own C__law_owner hr (by decide) rfl (pa_cons (pv 0) pa_nil)) (pa_cons (pe_own C__law_take hr (by decide) rfl (pa_cons (pv 0) (pa_cons pe_int pa_nil))) (pa_cons pe_int pa_nil))))) (pa_cons (pe_ix ix_tup (pv 7) pe_int (fun _ _ => rfl)) pa_nil))) rfl)
  (pss_one (ps_if (pt_cmpR op_lt (pe_ix ix_tup (pv 7) pe_int (fun _ _ => rfl)) pe_int (nomark _))
  (pss_one (ps_expr (pe_bm PySem.F.plainAttrs_list PySem.F.slot_list_append PySem.F.type_list_append mt_append (pv 4) (pa_cons (pe_tup (pa_cons (pv 6) (pa_cons (pe_op op_add (pe_ix ix_tup (pv 7) pe_int (fun _ _ => rfl)) pe_int) pa_nil))) pa_nil))))
  pss_nil)))
  (pss_one (ps_expr (pe_own C__law_fill hr (by decide) rfl (pa_cons (pv 0) (pa_cons (pv 1) (pa_cons (pv 2) (pa_cons (pv 4) (pa_cons (pv 6) pa_nil))))))))))))))
  (pss_cons (ps_for PassesOwn.never rfl (pi_list (pe_op op_cat (pe_lst (pa_cons pe_int pa_nil)) (pv 2))) (pg_name (i := 6) sc__law_nodes.nd rfl (Or.inl rfl))
  (pss_one (ps_for PassesOwn.never rfl (pi_range1 rfl T.b_range (pa_cons (pe_callB (call_max2 rfl) (by rfl) T.b_max (by decide +kernel) (pa_cons pe_int (pa_cons (pe_op op_sub (pe_own C__law_take hr (by decide) rfl (pa_cons (pv 0) (pa_cons pe_int pa_nil))) pe_int) pa_nil))) pa_nil)) (pg_name (i := 5) sc__law_nodes.nd rfl (Or.inl rfl))
  (pss_one (ps_dput (hu_of hr) (pv 1) (pe_tup (pa_cons (pv 6) (pa_cons pe_int (pa_cons (pe_own C__law_word hr (by decide) rfl (pa_cons (pe_own C__law_name hr (by decide) rfl (pa_cons (pv 0) (pa_cons (pv 2) pa_nil))) pa_nil)) pa_nil)))) (pe_tup (pa_cons (pe_own C__law_take hr (by decide) rfl (pa_cons (pv 0) (pa_cons (pe_op op_sub (pe_op op_pow pe_int pe_int) pe_int) pa_nil))) (pa_cons pe_int pa_nil))) rfl)))))
  (pss_one (ps_ret (pv 1)))))))))), ?_⟩
    intro d hd
    have db : d ≠ b := fun e => by
      obtain ⟨_, e1⟩ := hb.b
      rw [e, e1] at hd
      cases hd
    have rep0 : Rep (upd H d (.dT [])) d [] := ⟨[], upd_same, Ents.nil _⟩
    have b0 := hb.new (o := .dT []) hd
    walk_at "rd"
    refine fun H1 ow k1 b1 p1 p1' => ?_
    have rep1 := rep0.box b0 k1
    walk_at "rd"
    refine ⟨b, cs, _, rfl, b1, by decide, by decide, fun H2 mo k2 b2 p2 p2' => ?_⟩
    have rep2 := rep1.box b1 k2
    walk_at "rd"
    intro p3 hp3
    have pb3 : p3 ≠ b := fun e => by
      obtain ⟨_, e1⟩ := b2.b
      rw [e, e1] at hp3
      cases hp3
    have b3 := b2.new (o := .lst [.int 61, .int mo]) hp3
    have rep3 := rep2.new (o := .lst [.int 61, .int mo]) hp3
    walk_at "rd"
    refine ⟨b, cs, _, rfl, b3, by decide, by decide, fun H4 r4 k4 b4 p4 p4' => ?_⟩
    have rep4 := rep3.box b3 k4
    have hp4 : H4 p3 = some (.lst ([61, mo].map V.int)) := k4.at upd_same (by simpa using pb3)
    obtain ⟨m0, hx, hx2⟩ := atI_ints (ns := [61, mo]) p4 (by simpa using p4')
    have hm0 : 0 ≤ m0 ∧ m0 ≤ 63 := by
      simp only [List.mem_cons, List.not_mem_nil, or_false] at hx
      omega
    refine ⟨p3, _, r4, _, rfl, rfl, sqL_of hp4, hx2, ?_⟩
    clear hx2 hx hp4
    walk_at "rd"
    intro p5 hp5
    have b5 := b4.new (o := .tup [.int (1 + 2 * (m0 + 64 * (ow + 1000 * 1))), .int 1]) hp5
    have rep5 := rep4.new (o := .tup [.int (1 + 2 * (m0 + 64 * (ow + 1000 * 1))), .int 1]) hp5
    walk_at "rd"
    intro p6 hp6
    have b6 := b5.new (o := .tup (tv (nk 1))) hp6
    have rep6 := rep5.new (o := .tup (tv (nk 1))) hp6
    obtain ⟨o7, g7, rep7, _, _, t7⟩ := rep6.put (k := nk 1) (a := p5) (v := (1 + 2 * (m0 + 64 * (ow + 1000 * 1)), 1)) T3.at ((T2.at (H := H4)).new hp6) (by simp)
    obtain ⟨hdb, hdcs⟩ := b6.neD rep6
    have b7 := b6.app (o := o7) hdb hdcs
    have k7 : Keep [b, d] H (upd (upd (upd H4 p5 (.tup [.int (1 + 2 * (m0 + 64 * (ow + 1000 * 1))), .int 1])) p6 (.tup (tv (nk 1)))) d o7) :=
      (((((Keep.new (o := .dT []) hd).trans (k1.mono (by simp))).trans (k2.mono (by simp))).trans (Keep.new (o := .lst [.int 61, .int mo]) hp3)).trans (k4.mono (by simp))).trans (((Keep.new hp5).trans (Keep.new hp6)).trans (Keep.set (by simp)))
    have G7 : Gen [1] (put [] (nk 1) (1 + 2 * (m0 + 64 * (ow + 1000 * 1)), 1)) := Gen.start (by omega) (by omega)
    walk_at "rd"
    generalize upd (upd (upd H4 p5 (.tup [.int (1 + 2 * (m0 + 64 * (ow + 1000 * 1))), .int 1])) p6 (.tup (tv (nk 1)))) d o7 = H7 at *
    intro H8 l ns k8 b8 hl7 e8 nok
    have rep8 := rep7.box b7 k8
    have lb : l ≠ b := fun e => by
      obtain ⟨_, e1⟩ := b7.b
      rw [e, e1] at hl7
      cases hl7
    have nlen : (ns.map V.int).length = ns.length := List.length_map _
    have nn := nok.len
    walk_at "rd"
    intro wt hwt
    have b9 := b8.new (o := .lst (ns.map V.int)) hwt
    have rep9 := rep8.new (o := .lst (ns.map V.int)) hwt
    have wtb : wt ≠ b := fun e => by
      obtain ⟨_, e1⟩ := b8.b
      rw [e, e1] at hwt
      cases hwt
    have wtcs : wt ≠ cs := fun e => by
      obtain ⟨_, e1⟩ := b8.cs
      rw [e, e1] at hwt
      cases hwt
    have wtd : wt ≠ d := fun e => by
      obtain ⟨_, e1, _⟩ := rep8
      rw [e, e1] at hwt
      cases hwt
    have wtl : wt ≠ l := fun e => by
      rw [e, e8] at hwt
      cases hwt
    have e9 : upd H8 wt (.lst (ns.map V.int)) l = some (.lst (ns.map V.int)) := by rw [upd_ne wtl.symm]; exact e8
    have f9 : upd H8 wt (.lst (ns.map V.int)) wt = some (.lst (ns.map V.int)) := upd_same
    walk_at "rd"
    intro pt hpt
    walk_at "rd"
    intro fl hfl
    have ptt : T2 (upd (upd H8 wt (.lst (ns.map V.int))) pt (.tup [.int 1, .int 0])) pt (1, 0) := T2.at
    have b10 := (b9.new (o := .tup [.int 1, .int 0]) hpt)
    have rep10 := (rep9.new (o := .tup [.int 1, .int 0]) hpt)
    have e10 : upd (upd H8 wt (.lst (ns.map V.int))) pt (.tup [.int 1, .int 0]) l = some (.lst (ns.map V.int)) := by rw [upd_ne (ne_of_none e9 hpt)]; exact e9
    have f10 : upd (upd H8 wt (.lst (ns.map V.int))) pt (.tup [.int 1, .int 0]) wt = some (.lst (ns.map V.int)) := by rw [upd_ne (ne_of_none f9 hpt)]; exact f9
    have k10 : Keep [b, d, wt] H (upd (upd H8 wt (.lst (ns.map V.int))) pt (.tup [.int 1, .int 0])) := (((k7.mono (by simp)).trans (k8.mono (by simp))).trans (Keep.new hwt)).trans (Keep.new hpt)
    have kwt : H wt = none := (k7.trans (k8.mono (T := [b, d]) (by simp))).free hwt (by simp [wtb, wtd])
    generalize upd (upd H8 wt (.lst (ns.map V.int))) pt (.tup [.int 1, .int 0]) = HX at *
    have flb : fl ≠ b := fun e => by
      obtain ⟨_, e1⟩ := b10.b
      rw [e, e1] at hfl
      cases hfl
    have flcs : fl ≠ cs := fun e => by
      obtain ⟨_, e1⟩ := b10.cs
      rw [e, e1] at hfl
      cases hfl
    have fld : fl ≠ d := fun e => by
      obtain ⟨_, e1, _⟩ := rep10
      rw [e, e1] at hfl
      cases hfl
    have fll : fl ≠ l := fun e => by
      rw [e, e10] at hfl
      cases hfl
    have flwt : fl ≠ wt := fun e => by
      rw [e, f10] at hfl
      cases hfl
    have kfl : H fl = none := k10.free hfl (by simp [flb, fld, flwt])
    have wd0 : Wd (upd HX fl (.lst [.ref pt])) b cs d l fl ns (put [] (nk 1) (1 + 2 * (m0 + 64 * (ow + 1000 * 1)), 1)) [(1, 0)] :=
      ⟨b10.new hfl, rep10.new hfl, by rw [upd_ne fll.symm]; exact e10, ⟨_, upd_same, .cons ⟨pt, rfl, ptt.new hfl⟩ .nil⟩, lb, flb⟩
    have w0 : upd HX fl (.lst [.ref pt]) wt = some (.lst (ns.map V.int)) := by rw [upd_ne flwt.symm]; exact f10
    have k0 : Keep [b, d, wt, fl] H (upd HX fl (.lst [.ref pt])) := (k10.mono (by simp)).trans (Keep.new hfl)
    have fs0 : FsOk (put [] (nk 1) (1 + 2 * (m0 + 64 * (ow + 1000 * 1)), 1)) [(1, 0)] := fun f m => by
      rw [List.mem_singleton.mp m]
      exact ⟨_, (mem_put Srt.nil).mpr (.inl rfl), by show (1 + 2 * (m0 + 64 * (ow + 1000 * 1))) % 2 = 1; omega⟩
    have l0 : (put [] (nk 1) (1 + 2 * (m0 + 64 * (ow + 1000 * 1)), 1)).length ≤ 1 := by simp [put]
    generalize upd HX fl (.lst [.ref pt]) = HY at *
    generalize put [] (nk 1) (1 + 2 * (m0 + 64 * (ow + 1000 * 1)), 1) = LY at *
    have numY := wd0.num
    walk_at "rd"
    refine ⟨by omega, by omega, ?_⟩
    refine for_range (fun i σ H' => (∃ x5 x6 x7, σ = [some (.ref b), some (.ref d), some (.ref l), some (.ref wt), some (.ref fl), x5, x6, x7]) ∧ Keep [b, d, wt, fl] HY H' ∧
      ∃ (ws : List Int) (fs : List (Int × Int)) (ord : List Int) (L : List Itm), Wd H' b cs d l fl ns L fs ∧ H' wt = some (.lst (ws.map V.int)) ∧ ws.Nodup ∧ ws.length + i = ns.length ∧ (∀ m ∈ ws, m ∈ ns ∧ m ∉ ord) ∧ (∀ m ∈ ns, m ∈ ord ∨ m ∈ ws) ∧ Gen ord L ∧ FsOk L fs ∧ 0 < fs.length ∧ fs.length ≤ 1 + i ∧ L.length ≤ 1 + 10 * i) ?_ ?_ ?_
    · refine ⟨⟨_, _, _, rfl⟩, Keep.refl _ _, ns, [(1, 0)], [1], LY, wd0, w0, nok.nd, rfl, fun m h => ⟨h, fun e => ?_⟩, fun m h => .inr h, G7, fs0, by simp, by simp, by omega⟩
      have := (nok.ok m h).1
      rw [List.mem_singleton.mp e] at this
      omega
    · rintro i σ H11 hi ⟨⟨x5, x6, x7, rfl⟩, k11, ws, fs, ord, L, wd, hw, wnd, wl, win, nin, G, fok, f0, f1, lL⟩
      have wpos : 0 < (ws.map V.int).length := by rw [List.length_map]; omega
      walk_at "rd"
      refine ⟨b, cs, _, rfl, wd.box, by omega, by rw [List.length_map]; omega, fun H12 r12 k12 b12 q12 q12' => ?_⟩
      have wd12 := wd.draw k12 b12
      have hw12 := k12.at hw (by simpa using wtb)
      obtain ⟨v, hv1, _, hv3⟩ := atI_in (xs := ws.map V.int) q12 q12'
      obtain ⟨j, j1, j2, j3, _⟩ := atI_get hv3
      obtain ⟨n, hn, rfl⟩ : ∃ n, ws[j]? = some n ∧ v = V.int n := by
        rw [List.getElem?_map] at j2
        cases e : ws[j]? with
        | none => rw [e] at j2; cases j2
        | some n => rw [e] at j2; exact ⟨n, rfl, (Option.some.inj j2).symm⟩
      have hnw : n ∈ ws := List.mem_of_getElem? hn
      obtain ⟨hnn, hno⟩ := win n hnw
      obtain ⟨hn2, hnum⟩ := nok.ok n hnn
      obtain ⟨er1, er2, er3, er4⟩ := erase_facts wnd hn
      refine ⟨wt, _, r12, j, V.int n, rfl, rfl, hw12, by omega, by rw [List.length_map] at q12'; omega, j1, j2, ?_⟩
      rw [map_erase]
      have wd13 := wd12.upd (ys := (ws.eraseIdx j).map V.int) hw12 wtb wtcs wtd wtl flwt.symm
      have hw13 : upd H12 wt (.lst ((ws.eraseIdx j).map V.int)) wt = some (.lst ((ws.eraseIdx j).map V.int)) := upd_same
      have k13 : Keep [b, d, wt, fl] HY (upd H12 wt (.lst ((ws.eraseIdx j).map V.int))) := (k11.trans (k12.mono (by simp))).trans (Keep.set (by simp))
      generalize upd H12 wt (.lst ((ws.eraseIdx j).map V.int)) = H13 at *
      generalize ws.eraseIdx j = ws' at *
      obtain ⟨fxs, ef, pf⟩ := wd13.fol
      have lf : fxs.length = fs.length := Paired.length pf
      walk_at "rd"
      refine ⟨b, cs, _, rfl, wd13.box, by omega, by omega, fun H14 r14 k14 b14 q14 q14' => ?_⟩
      have wd14 := wd13.draw k14 b14
      walk_at "rd"
      refine ⟨b, cs, _, rfl, wd14.box, by decide, by decide, fun H15 r15 k15 b15 q15 q15' => ?_⟩
      have wd15 := wd14.draw k15 b15
      have hm : CMul r14 r15 := Or.inr ⟨by omega, by omega⟩
      obtain ⟨fxs', ef', pf'⟩ := wd15.fol
      have lf' : fxs'.length = fs.length := Paired.length pf'
      have hx01 : 0 ≤ r14 * r15 ∧ r14 * r15 < fxs'.length := by
        have : r15 = 0 ∨ r15 = 1 := by omega
        rcases this with rfl | rfl
        · rw [Int.mul_zero]; omega
        · rw [Int.mul_one]; omega
      obtain ⟨v, _, hv2, hv3⟩ := atI_in hx01.1 hx01.2
      obtain ⟨g, hg, a, rfl, ta⟩ := Paired.get pf' hv2
      have hgm : g ∈ fs := List.mem_of_getElem? hg
      obtain ⟨wg, wg1, wg2⟩ := fok g hgm
      walk_at "rd"
      refine ⟨fl, _, r14 * r15, _, rfl, rfl, sqL_of ef', hv3, ?_⟩
      walk_at "rd"
      have hsn : ∀ c u, ((g.1, 1, c), u) ∈ L → SN L.length c := fun c u m => (G.word _ _ _ m).2
      have numr : ∀ n ∈ ns, 1 ≤ n := fun m h => by
        have := (nok.ok m h).1
        omega
      refine ⟨b, cs, d, l, ns, L, g.1, n, rfl, wd15.box, wd15.rep, wd15.num, wd15.lb, numr, by omega, by omega, hsn, fun H16 c k16 b16 r16 n0 n1 n2 n3 => ?_⟩
      have wd16 := wd15.set k16 b16 r16
      have ta16 : T2 H16 a g := ta.keep (k16.tup (nt2 wd15.box wd15.rep))
      have E1 : Ent L (put L (g.1, 1, c) (n, 0)) n ([] ++ [g.1]) := Ent.step (Ent.refl G.srt n) n0 n1 n2 n3
      have l16 := len_put_new (v := ((n : Int), (0 : Int))) n0
      have k16' : Keep [b, d, wt, fl] HY H16 := ((k13.trans (k14.mono (by simp))).trans (k15.mono (by simp))).trans (k16.mono (by simp))
      have hw16 := k16.at (k15.at (k14.at hw13 (by simpa using wtb)) (by simpa using wtb)) (by simp [wtb, wtd])
      have hasg : ∀ a ∈ [] ++ [g.1], ∃ w, (nk a, w) ∈ L ∧ w.1 % 2 = 1 := fun a m => by
        rw [List.mem_singleton.mp m]
        exact ⟨wg, wg1, wg2⟩
      generalize put L (g.1, 1, c) (n, 0) = L16 at *
      walk_at "rd"
      refine ⟨b, cs, _, rfl, wd16.box, by decide, by decide, fun H17 r17 k17 b17 q17 q17' => ?_⟩
      have wd17 := wd16.draw k17 b17
      have ta17 : T2 H17 a g := ta16.keep (k17.tup wd16.box.nt)
      have hw17 := k17.at hw16 (by simpa using wtb)
      walk_at "rd"
      refine bI ?_ ?_ <;> intro hkind
      · walk_at "rd"
        refine fun H18 ow' k18 b18 q18 q18' => ?_
        have wd18 := wd17.draw k18 b18
        have ta18 : T2 H18 a g := ta17.keep (k18.tup wd17.box.nt)
        have hw18 := k18.at hw17 (by simpa using wtb)
        walk_at "rd"
        refine ⟨b, cs, _, rfl, wd18.box, by decide, by decide, fun H19 mo' k19 b19 q19 q19' => ?_⟩
        have wd19 := wd18.draw k19 b19
        have ta19 : T2 H19 a g := ta18.keep (k19.tup wd18.box.nt)
        have hw19 := k19.at hw18 (by simpa using wtb)
        walk_at "rd"
        intro p20 hp20
        have wd20 := wd19.new (o := .tup [.int (1 + 2 * (mo' + 64 * (ow' + 1000 * 1))), .int g.1]) hp20
        walk_at "rd"
        intro p21 hp21
        have wd21 := wd20.new (o := .tup (tv (nk n))) hp21
        have ta21 := (ta19.new (o := .tup [.int (1 + 2 * (mo' + 64 * (ow' + 1000 * 1))), .int g.1]) hp20).new (o := .tup (tv (nk n))) hp21
        obtain ⟨o22, g22, r22, _, _, t22⟩ := wd21.rep.put (k := nk n) (a := p20) (v := (1 + 2 * (mo' + 64 * (ow' + 1000 * 1)), g.1)) T3.at ((T2.at (H := H19)).new hp21) (by omega)
        have k22 : Keep [b, d] (upd (upd H19 p20 (.tup [.int (1 + 2 * (mo' + 64 * (ow' + 1000 * 1))), .int g.1])) p21 (.tup (tv (nk n)))) _ := Keep.set (o := o22) (p := d) (by simp)
        obtain ⟨hdb', hdcs'⟩ := wd21.box.neD wd21.rep
        have wd22 := wd21.set k22 (wd21.box.app hdb' hdcs') r22
        have ta22 := ta21.keep t22
        have hw22 := k22.at ((Keep.new (S := [b, d]) (o := .tup (tv (nk n))) hp21).at ((Keep.new (S := [b, d]) (o := .tup [.int (1 + 2 * (mo' + 64 * (ow' + 1000 * 1))), .int g.1]) hp20).at hw19 (by simp [wtb, wtd])) (by simp [wtb, wtd])) (by simp [wtb, wtd])
        have kk22 : Keep [b, d, wt, fl] HY (upd (upd (upd H19 p20 (.tup [.int (1 + 2 * (mo' + 64 * (ow' + 1000 * 1))), .int g.1])) p21 (.tup (tv (nk n)))) d o22) :=
          (((((k16'.trans (k17.mono (by simp))).trans (k18.mono (by simp))).trans (k19.mono (by simp))).trans (Keep.new hp20)).trans (Keep.new hp21)).trans (k22.mono (by simp))
        have G2 : Gen (ord ++ [n]) (put L16 (nk n) (1 + 2 * (mo' + 64 * (ow' + 1000 * 1)), g.1)) := by
          refine G.add E1 hno hn2 hnum hasg ⟨?_, ?_⟩ (.inl ⟨?_, rfl⟩)
          · show 128000 ≤ 1 + 2 * (mo' + 64 * (ow' + 1000 * 1))
            omega
          · show (1 + 2 * (mo' + 64 * (ow' + 1000 * 1))) / 128000 = 1
            omega
          · show (1 + 2 * (mo' + 64 * (ow' + 1000 * 1))) % 2 = 1
            omega
        have hold : ∀ m u, (nk m, u) ∈ L → (nk m, u) ∈ put L16 (nk n) (1 + 2 * (mo' + 64 * (ow' + 1000 * 1)), g.1) := fun m u h => (mem_put E1.srt).mpr (.inr ⟨E1.sub _ h, fun e => hno (by
          have : nk m = nk n := e
          rw [← nk_inj this]
          exact G.node _ _ h)⟩)
        have hnew : ∃ u, (nk n, u) ∈ put L16 (nk n) (1 + 2 * (mo' + 64 * (ow' + 1000 * 1)), g.1) ∧ u.1 % 2 = 1 := ⟨_, (mem_put E1.srt).mpr (.inl rfl), by show (1 + 2 * (mo' + 64 * (ow' + 1000 * 1))) % 2 = 1; omega⟩
        have l22 := len_put L16 (nk n) (1 + 2 * (mo' + 64 * (ow' + 1000 * 1)), g.1)
        generalize upd (upd (upd H19 p20 (.tup [.int (1 + 2 * (mo' + 64 * (ow' + 1000 * 1))), .int g.1])) p21 (.tup (tv (nk n)))) d o22 = H22 at *
        generalize put L16 (nk n) (1 + 2 * (mo' + 64 * (ow' + 1000 * 1)), g.1) = L22 at *
        have win' : ∀ m ∈ ws', m ∈ ns ∧ m ∉ ord ++ [n] := fun m h => by
          obtain ⟨h1, h2⟩ := er2 m h
          obtain ⟨h3, h4⟩ := win m h1
          exact ⟨h3, fun z => by
            rcases List.mem_append.mp z with z | z
            · exact h4 z
            · exact h2 (List.mem_singleton.mp z)⟩
        have nin' : ∀ m ∈ ns, m ∈ ord ++ [n] ∨ m ∈ ws' := fun m h => by
          rcases nin m h with z | z
          · exact .inl (List.mem_append_left _ z)
          · rcases er3 m z with z | z
            · rw [z]; exact .inl (by simp)
            · exact .inr z
        have fok' : FsOk L22 fs := fun f m => by
          obtain ⟨u, h1, h2⟩ := fok f m
          exact ⟨u, hold _ _ h1, h2⟩
        walk_at "rd"
        refine bI ?_ ?_ <;> intro hdeep
        · obtain ⟨fx2, ef2, pf2⟩ := wd22.fol
          have lf2 : fx2.length = fs.length := Paired.length pf2
          walk_at "rd"
          intro p23 hp23
          have wd23 := wd22.new (o := .tup [.int n, .int (g.2 + 1)]) hp23
          have ef23 : upd H22 p23 (.tup [.int n, .int (g.2 + 1)]) fl = some (.lst fx2) := by rw [upd_ne (ne_of_none ef2 hp23)]; exact ef2
          have hw23 : upd H22 p23 (.tup [.int n, .int (g.2 + 1)]) wt = some (.lst (ws'.map V.int)) := by rw [upd_ne (ne_of_none hw22 hp23)]; exact hw22
          have hsz : fx2.length < sizeLine := by rw [lf2, sizeLine_eq]; omega
          have wd24 := wd23.app (f := (n, g.2 + 1)) ef23 ⟨p23, rfl, upd_same⟩ flcs fll
          have hw24 : upd (upd H22 p23 (.tup [.int n, .int (g.2 + 1)])) fl (.lst (fx2 ++ [.ref p23])) wt = some (.lst (ws'.map V.int)) := by rw [upd_ne flwt.symm]; exact hw23
          walk_at "rd"
          refine ⟨⟨_, _, _, rfl⟩, (kk22.trans (Keep.new hp23)).trans (Keep.set (by simp)), ws', fs ++ [(n, g.2 + 1)], ord ++ [n], L22, wd24, hw24, er1, by omega, win', nin', G2, ?_, by simp, by simp; omega, by omega⟩
          intro f m
          rcases List.mem_append.mp m with m | m
          · exact fok' f m
          · rw [List.mem_singleton.mp m]
            exact hnew
        · walk_at "rd"
          exact ⟨⟨_, _, _, rfl⟩, kk22, ws', fs, ord ++ [n], L22, wd22, hw22, er1, by omega, win', nin', G2, fok', f0, by omega, by omega⟩
      · walk_at "rd"
        refine ⟨b, cs, d, l, fl, ns, L, L16, fs, ord, n, g.1, rfl, wd17, numr, by omega, by omega, f0, by omega, G, E1, ⟨wg, wg1, wg2⟩, hno, hn2, hnum, fok, fun H18 M k18 wd18 G2 hold l18 => ?_⟩
        have hw18 := k18.at hw17 (by simp [wtb, wtd])
        refine ⟨⟨_, _, _, rfl⟩, (k16'.trans (k17.mono (by simp))).trans (k18.mono (by simp)), ws', fs, ord ++ [n], M, wd18, hw18, er1, by omega, fun m h => ?_, fun m h => ?_, G2, fun f m => ?_, f0, by omega, by omega⟩
        · obtain ⟨h1, h2⟩ := er2 m h
          obtain ⟨h3, h4⟩ := win m h1
          exact ⟨h3, fun z => by
            rcases List.mem_append.mp z with z | z
            · exact h4 z
            · exact h2 (List.mem_singleton.mp z)⟩
        · rcases nin m h with z | z
          · exact .inl (List.mem_append_left _ z)
          · rcases er3 m z with z | z
            · rw [z]; exact .inl (by simp)
            · exact .inr z
        · obtain ⟨u, h1, h2⟩ := fok f m
          exact ⟨u, hold _ _ h1, h2⟩
    · rintro σ H11 ⟨⟨x5, x6, x7, rfl⟩, k11, ws, fs, ord, L, wd, hw, wnd, wl, win, nin, G, fok, f0, f1, lL⟩
      have ws0 : ws = [] := List.eq_nil_of_length_eq_zero (by rw [Int.toNat_natCast, nlen] at wl; omega)
      have all : ∀ m ∈ (1 :: ns), m ∈ ord := fun m h => by
        rcases List.mem_cons.mp h with e | h
        · rw [e]
          have := G.head
          cases ord with
          | nil => cases this
          | cons a r => rw [Option.some.inj this]; exact List.mem_cons_self
        · rcases nin m h with z | z
          · exact z
          · rw [ws0] at z; cases z
      have lL' : L.length ≤ 401 := by rw [nlen, Int.toNat_natCast] at lL; omega
      have numr : ∀ n ∈ ns, 1 ≤ n := fun m h => by
        have := (nok.ok m h).1
        omega
      clear ws0 nin win wnd wl hw
      dsimp only [tSeq]
      refine for_seqN (xs := (1 :: ns).map V.int) (S := [b, d]) (fun k hk => ?_) ?_ (fun i σ H' => (∃ x5 x6 x7, σ = [some (.ref b), some (.ref d), some (.ref l), some (.ref wt), some (.ref fl), x5, x6, x7]) ∧
        ∃ M, Wd H' b cs d l fl ns M fs ∧ Gen ord M ∧ M.length ≤ 401 + 2 * i) ?_ ?_ ?_
      · walk_at "rd"
        intro p hp
        walk_at "rd"
        refine ⟨p, l, [.int 1], ns.map V.int, rfl, rfl, upd_same, by rw [upd_ne (ne_of_none wd.num hp)]; exact wd.num, by rw [nlen, sizeLine_eq]; simp; omega, fun p2 hp2 => ?_⟩
        exact hk p2 _ ((Keep.new hp).trans (Keep.new hp2)) ((Keep.new (S := []) hp).free hp2 (by simp)) (sqL_of upd_same)
      · intro a m e
        rcases List.mem_cons.mp m with z | z
        · obtain ⟨_, e1⟩ := wd.box.b
          rw [z, e1] at e
          cases e
        · rw [List.mem_singleton.mp z] at e
          obtain ⟨_, e1, _⟩ := wd.rep
          rw [e1] at e
          cases e
      · exact fun H1 k1 => ⟨⟨_, _, _, rfl⟩, L, wd.set (k1.mono (by simp)) (wd.box.keep k1 (by simp) (by simp)) (wd.rep.keep (k1.tup (NoTup.nil _)) fun o e => k1.at e (by simp)), G, by omega⟩
      · rintro HG i x σ H12 hx ⟨⟨x5, x6, x7, rfl⟩, M, wd12, G12, l12⟩ kG k12
        rw [List.getElem?_map] at hx
        cases e : (1 :: ns)[i]? with
        | none => rw [e] at hx; cases hx
        | some n =>
          rw [e] at hx
          obtain rfl := Option.some.inj hx
          have hno := all n (List.mem_of_getElem? e)
          have hi41 : i < 41 := by
            have := (List.getElem?_eq_some_iff.mp e).1
            rw [List.length_cons] at this
            omega
          walk_at "rd"
          refine ⟨b, cs, _, rfl, wd12.box, by decide, by decide, fun H13 r13 k13 b13 q13 q13' => ?_⟩
          have wd13 := wd12.draw k13 b13
          have hmx : 0 ≤ (if r13 - 1 > 0 then r13 - 1 else 0) ∧ (if r13 - 1 > 0 then r13 - 1 else 0) ≤ 2 := by split <;> omega
          walk_at "rd"
          generalize (if r13 - 1 > 0 then r13 - 1 else 0) = mx at *
          refine ⟨by omega, by omega, ?_⟩
          refine for_range (fun j σ H' => (∃ x5 x7, σ = [some (.ref b), some (.ref d), some (.ref l), some (.ref wt), some (.ref fl), x5, some (.int n), x7]) ∧ Keep [b, d] H13 H' ∧
            ∃ M', Wd H' b cs d l fl ns M' fs ∧ Gen ord M' ∧ M'.length ≤ 401 + 2 * i + j) ?_ ?_ ?_
          · exact ⟨⟨_, _, rfl⟩, Keep.refl _ _, M, wd13, G12, by omega⟩
          · rintro j σ H14 hj ⟨⟨x5, x7, rfl⟩, k14, M', wd14, G14, l14⟩
            have e61 : (2 : Int) ^ (Int.toNat 61) = 2305843009213693952 := by decide
            have nn1 := (G.num n hno).1
            obtain ⟨un, hun⟩ := G14.has n hno
            walk_at "rd"
            refine ⟨b, cs, _, rfl, wd14.box, by rw [e61]; omega, by rw [e61]; omega, fun H15 r15 k15 b15 q15 q15' => ?_⟩
            have wd15 := wd14.draw k15 b15
            rw [e61] at q15'
            walk_at "rd"
            intro p16 hp16
            have wd16 := wd15.new (o := .tup [.int r15, .int 0]) hp16
            have t16 : T2 (upd H15 p16 (.tup [.int r15, .int 0])) p16 (r15, 0) := T2.at
            walk_at "rd"
            refine ⟨b, cs, l, ns, rfl, wd16.box, wd16.num, lb, numr, by omega, fun H17 z k17 b17 z1 z2 z3 => ?_⟩
            have wd17 := wd16.draw k17 b17
            have t17 : T2 H17 p16 (r15, 0) := t16.keep (k17.tup wd16.box.nt)
            walk_at "rd"
            intro p18 hp18
            have wd18 := wd17.new (o := .tup (tv (n, 2, wordOf (tl z)))) hp18
            obtain ⟨o19, g19, r19, _, _, t19⟩ := wd18.rep.put (k := (n, 2, wordOf (tl z))) (a := p16) (v := (r15, 0)) T3.at (t17.new hp18) (by omega)
            have k19 : Keep [b, d] (upd H17 p18 (.tup (tv (n, 2, wordOf (tl z))))) _ := Keep.set (o := o19) (p := d) (by simp)
            obtain ⟨hdb', hdcs'⟩ := wd18.box.neD wd18.rep
            have wd19 := wd18.set k19 (wd18.box.app hdb' hdcs') r19
            walk_at "rd"
            have l19 := len_put M' (n, 2, wordOf (tl z)) (r15, 0)
            refine ⟨⟨_, _, rfl⟩, ((((k14.trans (k15.mono (by simp))).trans (Keep.new hp16)).trans (k17.mono (by simp))).trans (Keep.new hp18)).trans k19, _, wd19,
              G14.extra (k := (n, 2, wordOf (tl z))) (by show (2 : Int) ≠ 0; decide) (by show (2 : Int) ≠ 1; decide) (.inr ⟨nn1, wordOf_nonneg _, un, hun, .inr (.inr (.inl ⟨rfl, q15, by show r15 < 2305843009213693951; omega, rfl⟩))⟩) nn1, by omega⟩
          · rintro σ H14 ⟨⟨x5, x7, rfl⟩, k14, M', wd14, G14, l14⟩
            exact ⟨(k12.trans (k13.mono (by simp))).trans k14, ⟨_, _, _, rfl⟩, M', wd14, G14, by omega⟩
      · rintro σ H12 k12 ⟨⟨x5, x6, x7, rfl⟩, M, wd12, G12, l12⟩
        refine ⟨_, rfl, q H12 d M ord ?_ wd12.box hd wd12.rep G12 ?_⟩
        · refine Keep.only (S := [b, d, wt, fl]) ((k0.trans k11).trans (k12.mono (by simp))) ?_
          intro y m
          simp only [List.mem_cons, List.not_mem_nil, or_false] at m
          rcases m with rfl | rfl | rfl | rfl
          · exact .inl rfl
          · exact .inr hd
          · exact .inr kwt
          · exact .inr kfl
        · rw [List.length_map, List.length_cons] at l12
          omega
end
end K41

/-! The law's sums and its whole list. -/
namespace K41
open PySem PySem.Spec PyProof.Rows L2 TL
structure SumPre (L : List Itm) : Prop where
  node : ∀ p ∈ L, p.1.2.1 = 0 → p.1 = nk p.1.1
  has : ∀ p ∈ L, p.1.2.1 = 0 ∨ p.1.2.1 = 3 → 1 ≤ p.1.1 ∧ ∃ u, lk L (nk p.1.1) = some u
def ownG (A : List Itm) (n : Int) : Option V := (lk A (nk n)).map fun v => .int (ownV v)
theorem lk_snoc (A : List Itm) (q : Itm) (k : K3) : lk (A ++ [q]) k = match lk A k with
    | some v => some v
    | none => if q.1 = k then some q.2 else none := by
  induction A with
  | nil => rw [List.nil_append, lk_cons, lk_nil]
  | cons p r ih =>
    rw [List.cons_append, lk_cons, lk_cons, ih]
    split <;> rfl
theorem ownG_no {A : List Itm} {q : Itm} (h : ∀ n, q.1 ≠ nk n) (n : Int) : ownG (A ++ [q]) n = ownG A n := by
  unfold ownG
  rw [lk_snoc]
  cases lk A (nk n) with
  | some v => rfl
  | none => rw [if_neg (h n)]
theorem ownG_yes {A : List Itm} {q : Itm} (hq : q.1 = nk q.1.1) (h : lk A (nk q.1.1) = none) (n : Int) : ownG (A ++ [q]) n = if n = q.1.1 then some (.int (ownV q.2)) else ownG A n := by
  unfold ownG
  rw [lk_snoc]
  by_cases e : n = q.1.1
  · subst e
    rw [h, if_pos rfl]
    dsimp only
    rw [if_pos hq]
    rfl
  · rw [if_neg e]
    cases lk A (nk n) with
    | some v => rfl
    | none =>
      dsimp only
      rw [if_neg]
      intro z
      rw [hq] at z
      exact e (nk_inj z).symm
theorem ownG_all {L : List Itm} {n : Int} {u : Val} (h : lk L (nk n) = some u) : ownG L n = some (.int (ownerAt L n)) := by
  unfold ownG ownerAt
  rw [h]
  rfl
theorem used_take (L : List Itm) (o : Int) : dueN L (L.take L.length) o = used L o := by rw [List.take_length]; rfl
section
variable {P : Program} {w : World} {K : PySem.W.Frag} {mg : Str → Option Value} {base : Heap}
local macro_rules | `(tactic| walk_at "rd") => `(tactic| repeat (first | refine ⟨_, rfl, ?_⟩ | refine ⟨_, _, rfl, rfl, ?_⟩ | refine ⟨_, _, rfl, ?_⟩ | refine ⟨_, _, _, rfl, ?_⟩ | refine ⟨_, _, _, _, rfl, ?_⟩ | refine ⟨rfl, ?_⟩ | refine ⟨(by show (0 : Int) < _; decide), ?_⟩ | refine ⟨cdw (by decide) (by decide), ?_⟩ | refine ⟨Or.inl (by decide), ?_⟩ | refine ⟨Or.inr (by decide), ?_⟩ | refine And.intro len4v ?_ | refine And.intro len3v ?_ | refine And.intro len2v ?_ | refine And.intro len1v ?_ | refine And.intro len0v ?_ | refine And.intro (by assumption) ?_ | refine And.intro (SS.ty (by assumption)) ?_ | refine And.intro (tyL (by assumption)) ?_ | refine ⟨_, _, _, _, rfl, rfl, sqT_of (by assumption), (by rfl), ?_⟩ | refine ⟨_, _, _, rfl, rfl, (by assumption), (by assumption), ?_⟩ | refine ⟨_, _, rfl, (by assumption), ?_⟩ | refine ⟨_, _, _, _, _, rfl, (by assumption), rfl, (by assumption), (by assumption), ?_⟩ | refine And.intro (IntD.isD (by assumption)) ?_ | refine And.intro (Rep.isD (by assumption)) ?_ | refine ⟨_, _, rfl, sqT_of (by assumption), (by rfl), ?_⟩ | refine ⟨_, _, _, _, rfl, rfl, sqL_of (by assumption), (by rfl), ?_⟩ | refine ⟨_, _, _, _, rfl, rfl, sqL_of upd_same, (by rfl), ?_⟩ | refine ⟨_, _, rfl, Or.inl (sqL_of (by assumption)), ?_⟩ | refine ⟨_, _, _, _, rfl, rfl, upd_same, (by rfl), ?_⟩ | refine ⟨_, _, _, _, rfl, rfl, (by assumption), (by rfl), ?_⟩ | refine ⟨⟨by decide, by decide, by decide⟩, ?_⟩ | refine And.intro (lenNv (by simp only [List.length_cons, List.length_nil]; omega)) ?_))
def spSums : Sp := fun vs H Q _ => ∃ d L, vs = [.ref d] ∧ Rep H d L ∧ L.length < 90000 ∧ SumPre L ∧ ∀ H' c, H c = none → Keep [] H H' → IntD H' c (cntV (used L)) L.length → Q (.ref c) H'
abbrev s__law_sums : Stmt := top 50
theorem sc__law_sums : FnScope ["found", "owners", "key", "sums", "owner"] ["found"] (defScope s__law_sums) := ⟨rfl, rfl, rfl, by decide +kernel, rfl, by decide +kernel, by decide +kernel⟩
theorem ok__law_sums {f : Addr} {fd : FuncData} (F : Fun K "_law_sums" "_law_sums" s__law_sums f fd) (T : Txt mg) : FnOk P w K mg base CX0 1 f fd ["found"] spSums := by
  refine F.ok sc__law_sums (fun vs H Q E h => ?_) (fun cdv A outer s H vs Q E hr h => ?_)
  · obtain ⟨_, _, rfl, _⟩ := h
    rfl
  · obtain ⟨d, L, rfl, rep, hL, pre, q⟩ := h
    refine ⟨_, (pss_cons (ps_set (i := 1) sc__law_sums.nd rfl (Or.inl rfl) pe_dnewK)
  (pss_cons (ps_for PassesOwn.never rfl (pi_list (pe_callB (cr_sortD rfl) (by rfl) T.b_sorted (by decide +kernel) (pa_cons (pv 0) pa_nil))) (pg_name (i := 2) sc__law_sums.nd rfl (Or.inl rfl))
  (pss_one (ps_if (PW.pt (pw_and (pt_cmpR op_gt (pe_ix ix_tup (pv 2) pe_int (fun _ _ => rfl)) pe_int (nomark _)) (pw_and1 (pt_cmpR op_eq (pe_ix ix_tup (pv 2) pe_int (fun _ _ => rfl)) pe_int (nomark _)))))
  (pss_one (ps_dput (hu_of hr) (pv 1) (pe_ix ix_tup (pv 2) pe_int (fun _ _ => rfl)) (pe_op op_mod (pe_callTy cr_int (by rfl) T.b_int (by decide +kernel) (pa_cons (pe_op op_fdivW (pe_ix ix_tup (pe_dget (hu_of hr) (pv 0) (pv 2) (fun _ _ => rfl)) pe_int (fun _ _ => rfl)) pe_int) pa_nil)) pe_int) rfl))
  pss_nil)))
  (pss_cons (ps_set (i := 3) sc__law_sums.nd rfl (Or.inl rfl) pe_dnewK)
  (pss_cons (ps_for PassesOwn.never rfl (pi_list (pe_callB (cr_sortD rfl) (by rfl) T.b_sorted (by decide +kernel) (pa_cons (pv 0) pa_nil))) (pg_name (i := 2) sc__law_sums.nd rfl (Or.inl rfl))
  (pss_one (ps_if (PW.pt (pw_and (pt_cmpR op_gt (pe_ix ix_tup (pv 2) pe_int (fun _ _ => rfl)) pe_int (nomark _)) (pw_and1 (PW.pt (pw_or (pt_cmpR op_eq (pe_ix ix_tup (pv 2) pe_int (fun _ _ => rfl)) pe_int (nomark _)) (pw_or1 (pt_cmpR op_eq (pe_ix ix_tup (pv 2) pe_int (fun _ _ => rfl)) pe_int (nomark _))))))))
  (pss_cons (ps_set (i := 4) sc__law_sums.nd rfl (Or.inl rfl) (pe_dget (hu_of hr) (pv 1) (pe_ix ix_tup (pv 2) pe_int (fun _ _ => rfl)) (fun _ _ => rfl)))
  (pss_one (ps_dput (hu_of hr) (pv 3) (pv 4) (pe_op op_add (pe_dget2 (hu_of hr) (pv 3) (pv 4) pe_int ⟨rfl, rfl, rfl, rfl⟩) pe_int) rfl)))
  pss_nil)))
  (pss_one (ps_ret (pv 3))))))), ?_⟩
    have sL := rep.srt
    intro c hc
    have cd : c ≠ d := fun e => by
      obtain ⟨_, e1, _⟩ := rep
      rw [e, e1] at hc
      cases hc
    dsimp only [gName, tSeq]
    have rep1 := rep.new (o := .dK []) hc
    refine for_sorted rep1.r (fun Q q => ⟨_, rfl, q⟩) (S := [c]) (fun a m => by rw [List.mem_singleton.mp m, upd_same]; simp) (.one upd_same fun _ z => nomatch z)
      (fun i σ H1 => (∃ x2 x3 x4, σ = [some (.ref d), some (.ref c), x2, x3, x4]) ∧ IntD H1 c (ownG (L.take i)) i ∧ Rep H1 d L) ?_ ?_ ?_
    · intro p o hp
      exact ⟨⟨_, _, _, rfl⟩, ((IntD.nil (H := H) (p := c) 0).mono (fun _ => rfl) (Nat.le_refl _)).new hp, rep1.new hp⟩
    · rintro G i q b σ H1 hq ⟨⟨x2, x3, x4, rfl⟩, ci, rp⟩ kG k1 hb
      have hqL : q ∈ L := List.mem_of_getElem? hq
      have et := take_snoc hq
      have no : ¬ (0 < q.1.1 ∧ q.1.2.1 = 0) → ∀ n, q.1 ≠ nk n := fun h n e => by
        have k0 : q.1.2.1 = 0 := by rw [e]; rfl
        have := (pre.has q hqL (.inl k0)).1
        exact h ⟨by omega, k0⟩
      have stay : ¬ (0 < q.1.1 ∧ q.1.2.1 = 0) → IntD H1 c (ownG (L.take (i + 1))) (i + 1) := fun h => ci.mono (fun n => by rw [et, ownG_no (no h)]) (by omega)
      have hi : i < L.length := (List.getElem?_eq_some_iff.mp hq).1
      walk_at "rd"
      refine dI ?_ ?_ <;> intro h0
      · walk_at "rd"
        refine bI ?_ ?_ <;> intro hk
        · have hk : q.1.2.1 = 0 := by simpa using hk
          obtain ⟨a, g1, t1⟩ := rp.get hb (lk_of_mem sL hqL)
          obtain ⟨o, p1, p2, p3⟩ := ci.put q.1.1 (.int (ownV q.2)) (by omega)
          walk_at "rd"
          refine ⟨k1.trans (Keep.set (by simp)), ⟨_, _, _, rfl⟩, p2.mono (fun n => ?_) (Nat.le_refl _), rp.keep p3 fun u e => by rw [upd_ne cd.symm]; exact e⟩
          rw [et]
          refine (ownG_yes (pre.node q hqL hk) ?_ n).symm
          rw [lk_none]
          intro p m e
          have := srt_before sL hq p m
          rw [e, ← pre.node q hqL hk] at this
          exact ltK_irrefl _ this
        · have hk : q.1.2.1 ≠ 0 := by simpa using hk
          exact ⟨k1, ⟨_, _, _, rfl⟩, stay fun z => hk z.2, rp⟩
      · exact ⟨k1, ⟨_, _, _, rfl⟩, stay fun z => h0 z.1, rp⟩
    · rintro σ H1 k1 ⟨⟨x2, x3, x4, rfl⟩, ci, rp⟩
      rw [List.take_length] at ci
      intro c2 hc2
      have c2c : c2 ≠ c := fun e => by
        obtain ⟨_, e1, _⟩ := ci
        rw [e, e1] at hc2
        cases hc2
      have c2d : c2 ≠ d := fun e => by
        obtain ⟨_, e1, _⟩ := rp
        rw [e, e1] at hc2
        cases hc2
      have k01 : Keep [c] H H1 := (Keep.new hc).trans k1
      have hc20 : H c2 = none := k01.free hc2 (by simpa using c2c)
      have rp2 := rp.new (o := .dK []) hc2
      dsimp only [gName, tSeq]
      refine for_sorted rp2.r (fun Q q => ⟨_, rfl, q⟩) (S := [c2]) (fun a m => by rw [List.mem_singleton.mp m, upd_same]; simp) (.one upd_same fun _ z => nomatch z)
        (fun i σ H1 => (∃ x2 x4, σ = [some (.ref d), some (.ref c), x2, some (.ref c2), x4]) ∧ IntD H1 c2 (cntV (dueN L (L.take i))) i) ?_ ?_ ?_
      · intro p o hp
        exact ⟨⟨_, _, rfl⟩, ((IntD.nil (H := H1) (p := c2) 0).mono (fun _ => rfl) (Nat.le_refl _)).new hp⟩
      · rintro G i q b σ H2 hq ⟨⟨x2, x4, rfl⟩, cj⟩ kG k2 hb
        have hqL : q ∈ L := List.mem_of_getElem? hq
        have et := take_snoc hq
        have hi : i < L.length := (List.getElem?_eq_some_iff.mp hq).1
        have ci2 := ((ci.new (o := .dK []) hc2).keep kG (by simpa using c2c.symm)).keep k2 (by simpa using c2c.symm)
        have stay : ¬ (q.1.2.1 = 0 ∨ q.1.2.1 = 3) → IntD H2 c2 (cntV (dueN L (L.take (i + 1)))) (i + 1) := fun h => cj.mono (fun n => by
          unfold cntV
          rw [et, dueN_snoc]
          have : isChg L n q = false := decide_eq_false fun z => h z.1
          rw [this]
          simp) (by omega)
        have body : (q.1.2.1 = 0 ∨ q.1.2.1 = 3) → ∃ o, DGet H2 c (.int q.1.1) (some (.int (ownerAt L q.1.1))) ∧ DPut H2 c2 (.int (ownerAt L q.1.1)) (.int ((dueN L (L.take i) (ownerAt L q.1.1) : Nat) + 1)) (upd H2 c2 o) ∧ IntD (upd H2 c2 o) c2 (cntV (dueN L (L.take (i + 1)))) (i + 1) := fun h => by
          obtain ⟨_, u, hu⟩ := pre.has q hqL h
          have g := ci2.get q.1.1
          rw [ownG_all hu] at g
          obtain ⟨o, p1, p2, p3⟩ := cj.put (ownerAt L q.1.1) (.int ((dueN L (L.take i) (ownerAt L q.1.1) : Nat) + 1)) (by omega)
          refine ⟨o, g, p1, p2.mono (fun n => ?_) (Nat.le_refl _)⟩
          unfold cntV
          rw [et, dueN_snoc]
          by_cases e : n = ownerAt L q.1.1
          · have : isChg L n q = true := decide_eq_true ⟨h, e.symm⟩
            rw [this, e]
            simp
          · have : isChg L n q = false := decide_eq_false fun z => e z.2.symm
            rw [this]
            simp [e]
        walk_at "rd"
        refine dI ?_ ?_ <;> intro h0
        · walk_at "rd"
          by_cases hk : q.1.2.1 = 0 ∨ q.1.2.1 = 3
          · obtain ⟨o, g1, g2, g3⟩ := body hk
            obtain ⟨oz, z1, z2⟩ := cj.getZ (ownerAt L q.1.1)
            by_cases hk0 : q.1.2.1 = 0
            · refine dT (congrArg V.int hk0) ?_
              walk_at "rd"
              refine ⟨oz, z1, ?_⟩
              rw [z2]
              walk_at "rd"
              exact ⟨k2.trans (Keep.set (by simp)), ⟨_, _, rfl⟩, g3⟩
            · refine dF (fun z => hk0 (V.int.inj z)) ?_
              walk_at "rd"
              refine dT (congrArg V.int (hk.resolve_left hk0)) ?_
              walk_at "rd"
              refine ⟨oz, z1, ?_⟩
              rw [z2]
              walk_at "rd"
              exact ⟨k2.trans (Keep.set (by simp)), ⟨_, _, rfl⟩, g3⟩
          · refine dF (fun z => hk (.inl (V.int.inj z))) ?_
            walk_at "rd"
            refine dF (fun z => hk (.inr (V.int.inj z))) ?_
            exact ⟨k2, ⟨_, _, rfl⟩, stay hk⟩
        · refine ⟨k2, ⟨_, _, rfl⟩, stay fun h => h0 ?_⟩
          have := (pre.has q hqL h).1
          omega
      · rintro σ H2 k2 ⟨⟨x2, x4, rfl⟩, cj⟩
        refine ⟨_, rfl, q H2 c2 hc20 ?_ (cj.mono (fun n => by unfold cntV; rw [used_take]) (Nat.le_refl _))⟩
        have := ((k01.mono (T := [c2, c]) (by simp)).trans (Keep.new (S := [c2, c]) (o := .dK []) hc2)).trans (k2.mono (by simp))
        intro y u e m
        refine this y u e fun m2 => ?_
        rcases List.mem_cons.mp m2 with z | z
        · rw [z, hc20] at e; cases e
        · rw [List.mem_singleton.mp z, hc] at e; cases e
end
end K41

/-! The law's whole list. -/
namespace K41
open PySem PySem.Spec PyProof.Rows L2 TL
theorem Gen.sumPre {ord : List Int} {L : List Itm} (G : Gen ord L) : SumPre L where
  node := fun p m e => nk_of (v := p.2) (G.fit p.1 p.2 m).1 e
  has := fun p m e => by
    obtain ⟨f, f1⟩ := G.fit p.1 p.2 m
    refine ⟨f1, ?_⟩
    rcases f with f | ⟨_, _, w, h, _⟩
    · have := f.1; omega
    · exact ⟨w, lk_of_mem G.srt h⟩
theorem Gen.owners {ord : List Int} {L : List Itm} (G : Gen ord L) (n : Int) : n ∈ owners L ↔ 0 < used L n := by
  rw [mem_owners, used_pos]
  constructor
  · rintro ⟨p, m, e⟩
    have h4 := (G.kind (k := p.1) (v := p.2) m).2
    unfold ownOf at e
    rw [if_neg h4] at e
    split at e
    · rename_i h
      exact ⟨p, m, h, Option.some.inj e⟩
    · cases e
  · rintro ⟨p, m, h, e⟩
    refine ⟨p, m, ?_⟩
    unfold ownOf
    rw [if_neg (by omega), if_pos h, e]
theorem used_le (L : List Itm) (o : Int) : used L o ≤ L.length := List.countP_le_length
section
variable {P : Program} {w : World} {K : PySem.W.Frag} {mg : Str → Option Value} {base : Heap}
local macro_rules | `(tactic| walk_at "rd") => `(tactic| repeat (first | refine ⟨_, rfl, ?_⟩ | refine ⟨_, _, rfl, rfl, ?_⟩ | refine ⟨_, _, rfl, ?_⟩ | refine ⟨_, _, _, rfl, ?_⟩ | refine ⟨_, _, _, _, rfl, ?_⟩ | refine ⟨rfl, ?_⟩ | refine ⟨(by show (0 : Int) < _; decide), ?_⟩ | refine ⟨cdw (by decide) (by decide), ?_⟩ | refine ⟨Or.inl (by decide), ?_⟩ | refine ⟨Or.inr (by decide), ?_⟩ | refine And.intro len4v ?_ | refine And.intro len3v ?_ | refine And.intro len2v ?_ | refine And.intro len1v ?_ | refine And.intro len0v ?_ | refine And.intro (by assumption) ?_ | refine And.intro (SS.ty (by assumption)) ?_ | refine And.intro (tyL (by assumption)) ?_ | refine ⟨_, _, _, _, rfl, rfl, sqT_of (by assumption), (by rfl), ?_⟩ | refine ⟨_, _, _, rfl, rfl, (by assumption), (by assumption), ?_⟩ | refine ⟨_, _, rfl, (by assumption), ?_⟩ | refine ⟨_, _, _, _, _, rfl, (by assumption), rfl, (by assumption), (by assumption), ?_⟩ | refine And.intro (IntD.isD (by assumption)) ?_ | refine And.intro (Rep.isD (by assumption)) ?_ | refine ⟨_, _, rfl, sqT_of (by assumption), (by rfl), ?_⟩ | refine ⟨_, _, _, _, rfl, rfl, sqL_of (by assumption), (by rfl), ?_⟩ | refine ⟨_, _, _, _, rfl, rfl, sqL_of upd_same, (by rfl), ?_⟩ | refine ⟨_, _, rfl, Or.inl (sqL_of (by assumption)), ?_⟩ | refine ⟨_, _, _, _, rfl, rfl, upd_same, (by rfl), ?_⟩ | refine ⟨_, _, _, _, rfl, rfl, (by assumption), (by rfl), ?_⟩ | refine ⟨⟨by decide, by decide, by decide⟩, ?_⟩ | refine And.intro (lenNv (by simp only [List.length_cons, List.length_nil]; omega)) ?_))
abbrev CNodes (P : Program) (w : World) (K : PySem.W.Frag) (mg : Str → Option Value) (base : Heap) : Prop := Cl P w K mg base 5 "_law_nodes" ["box"] spNodes
abbrev CSums (P : Program) (w : World) (K : PySem.W.Frag) (mg : Str → Option Value) (base : Heap) : Prop := Cl P w K mg base 1 "_law_sums" ["found"] spSums
def spWhole : Sp := fun vs H Q _ => ∃ b cs, vs = [.ref b] ∧ BoxAt H b cs ∧ ∀ H' p xs L, Keep [b] H H' → BoxAt H' b cs → H p = none → H' p = some (.lst xs) → Items H' xs L → Sound L → Names L → L.length < 2000 → Q (.ref p) H'
abbrev s__law_whole : Stmt := top 51
theorem sc__law_whole : FnScope ["box", "found", "sums", "owner", "used", "bound", "k", "key"] ["box"] (defScope s__law_whole) := ⟨rfl, rfl, rfl, by decide +kernel, rfl, by decide +kernel, by decide +kernel⟩
theorem ok__law_whole {f : Addr} {fd : FuncData} (F : Fun K "_law_whole" "_law_whole" s__law_whole f fd) (T : Txt mg) (C__law_take : CTake P w K mg base) (C__law_nodes : CNodes P w K mg base) (C__law_sums : CSums P w K mg base) : FnOk P w K mg base CX0 6 f fd ["box"] spWhole := by
  refine F.ok sc__law_whole (fun vs H Q E h => ?_) (fun cdv A outer s H vs Q E hr h => ?_)
  · obtain ⟨_, _, rfl, _⟩ := h
    rfl
  · obtain ⟨b, cs, rfl, hb, q⟩ := h
    refine ⟨_, (pss_cons (ps_set (i := 1) sc__law_whole.nd rfl (Or.inr rfl) (pe_own C__law_nodes hr (by decide) rfl (pa_cons (pv 0) pa_nil)))
  (pss_cons (ps_set (i := 2) sc__law_whole.nd rfl (Or.inl rfl) (pe_own C__law_sums hr (by decide) rfl (pa_cons (pv 1) pa_nil)))
  (pss_cons (ps_for PassesOwn.never rfl (pi_list (pe_callB (cr_sortI rfl) (by rfl) T.b_sorted (by decide +kernel) (pa_cons (pv 2) pa_nil))) (pg_name (i := 3) sc__law_whole.nd rfl (Or.inl rfl))
  (pss_cons (ps_set (i := 4) sc__law_whole.nd rfl (Or.inl rfl) (pe_dget (hu_of hr) (pv 2) (pv 3) (fun _ _ => rfl)))
  (pss_cons (ps_set (i := 5) sc__law_whole.nd rfl (Or.inl rfl) (pe_ix ix_list (pe_lst (pa_cons pe_int (pa_cons pe_int (pa_cons pe_int (pa_cons (pv 4) (pa_cons (pe_op op_add (pv 4) pe_int) (pa_cons (pe_op op_add (pe_op op_pow pe_int pe_int) pe_int) pa_nil))))))) (pe_own C__law_take hr (by decide) rfl (pa_cons (pv 0) (pa_cons pe_int pa_nil))) (fun _ _ => rfl)))
  (pss_one (ps_dput (hu_of hr) (pv 1) (pe_tup (pa_cons pe_int (pa_cons pe_int (pa_cons (pv 3) pa_nil)))) (pe_tup (pa_cons (pv 4) (pa_cons (pv 5) pa_nil))) rfl)))))
  (pss_cons (ps_for PassesOwn.never rfl (pi_range1 rfl T.b_range (pa_cons (pe_own C__law_take hr (by decide) rfl (pa_cons (pv 0) (pa_cons pe_int pa_nil))) pa_nil)) (pg_name (i := 6) sc__law_whole.nd rfl (Or.inl rfl))
  (pss_cons (ps_set (i := 3) sc__law_whole.nd rfl (Or.inl rfl) (pe_own C__law_take hr (by decide) rfl (pa_cons (pv 0) (pa_cons pe_int pa_nil))))
  (pss_one (ps_if (pt_cmp (pc_dnotin (hu_of hr) (pv 3) (pv 2)))
  (pss_one (ps_dput (hu_of hr) (pv 1) (pe_tup (pa_cons pe_int (pa_cons pe_int (pa_cons (pv 3) pa_nil)))) (pe_tup (pa_cons pe_int (pa_cons (pe_op op_add pe_int (pe_own C__law_take hr (by decide) rfl (pa_cons (pv 0) (pa_cons (pe_op op_add (pe_op op_pow pe_int pe_int) pe_int) pa_nil)))) pa_nil))) rfl))
  pss_nil))))
  (pss_one (ps_ret (pe_lc (own := [("key", 7)]) (g := gName 7) (tt := tYes) rfl sc__law_whole.nd (pi_list (pe_callB (cr_sortD rfl) (by rfl) T.b_sorted (by decide +kernel) (pa_cons (pv 1) pa_nil))) (blkOk_by (N := ["box", "found", "sums", "owner", "used", "bound", "k", "key"]) (sc := defScope s__law_whole) (by decide +kernel)) (fun _ _ _ _ _ => pg_name (i := 7) sc__law_whole.nd rfl (Or.inl rfl)) (fun _ _ _ _ _ => pts_nil) (fun _ _ _ _ _ => (pe_tup (pa_cons (pv 7) (pa_cons (pe_dget (hu_of hr) (pv 1) (pv 7) (fun _ _ => rfl)) pa_nil))))))))))), ?_⟩
    have e6 : (10 : Int) ^ (Int.toNat 6) = 1000000 := by decide
    walk_at "rd"
    refine fun H1 d L ord k1 b1 hd r1 G l1 => ?_
    have db := (b1.neD r1).1
    walk_at "rd"
    refine ⟨by omega, G.sumPre, fun H2 c hc k2 ci => ?_⟩
    have b2 := b1.keep k2 (by simp) (by simp)
    have r2 : Rep H2 d L := r1.keep (k2.tup (NoTup.nil _)) fun o e => k2.at e (by simp)
    have cd := ci.neT r2
    have cb : c ≠ b := fun e => by
      obtain ⟨_, e1⟩ := b2.b
      obtain ⟨_, e2, _⟩ := ci
      rw [e, e1] at e2
      cases e2
    have ccs : c ≠ cs := fun e => by
      obtain ⟨_, e1⟩ := b2.cs
      obtain ⟨_, e2, _⟩ := ci
      rw [e, e1] at e2
      cases e2
    have hc0 : H c = none := k1.free hc (by simpa using cb)
    have k02 : Keep [b] H H2 := k1.trans (k2.mono (by simp))
    dsimp only [gName, tSeq]
    refine for_sortedI ci (srt_owners L) (fun n => ?_) (fun Q q => ⟨_, rfl, q⟩) (S := [b, d]) ?_ (fun i σ H' => (∃ x3 x4 x5 x6 x7, σ = [some (.ref b), some (.ref d), some (.ref c), x3, x4, x5, x6, x7]) ∧ BoxAt H' b cs ∧
      ∃ M, Rep H' d M ∧ Fin L M ∧ M.length ≤ L.length + i ∧ ∀ o ∈ (owners L).take i, ∃ v, (ck o, v) ∈ M) ?_ ?_ ?_
    · rw [G.owners]
      unfold cntV
      by_cases e : used L n = 0
      · simp [e]
      · simp [e]
        omega
    · intro a m e
      rcases List.mem_cons.mp m with z | z
      · obtain ⟨_, e1⟩ := b2.b
        rw [z, e1] at e
        cases e
      · rw [List.mem_singleton.mp z] at e
        obtain ⟨_, e1, _⟩ := r2
        rw [e1] at e
        cases e
    · intro p o hp
      exact ⟨⟨_, _, _, _, _, rfl⟩, b2.new hp, L, r2.new hp, G.fin, by omega, by simp⟩
    · rintro HG i o σ H3 hq ⟨⟨x3, x4, x5, x6, x7, rfl⟩, b3, M, r3, FM, lM, hM⟩ kG k3
      have hcS : c ∉ [b, d] := by simp [cb, cd]
      have ci3 := (ci.keep kG hcS).keep k3 hcS
      have hom : o ∈ owners L := List.mem_of_getElem? hq
      have hpos : 0 < used L o := (G.owners o).mp hom
      have hule := used_le L o
      have g3 := ci3.get o
      have ecn : cntV (used L) o = some (.int (used L o : Nat)) := by unfold cntV; rw [if_neg (by omega)]
      rw [ecn] at g3
      have hi : i < (owners L).length := (List.getElem?_eq_some_iff.mp hq).1
      have hol := len_owners L
      walk_at "rd"
      intro p4 hp4
      have pb4 : p4 ≠ b := fun e => by
        obtain ⟨_, e1⟩ := b3.b
        rw [e, e1] at hp4
        cases hp4
      have b4 := b3.new (o := .lst [.int 0, .int 0, .int 1, .int (used L o : Nat), .int ((used L o : Nat) + 1), .int (10 ^ Int.toNat 6 + 1)]) hp4
      have r4 := r3.new (o := .lst [.int 0, .int 0, .int 1, .int (used L o : Nat), .int ((used L o : Nat) + 1), .int (10 ^ Int.toNat 6 + 1)]) hp4
      walk_at "rd"
      refine ⟨b, cs, _, rfl, b4, by decide, by decide, fun H5 r k5 b5 q5 q5' => ?_⟩
      have r5 := r4.box b4 k5
      have hp5 : H5 p4 = some (.lst ([0, 0, 1, ((used L o : Nat) : Int), ((used L o : Nat) : Int) + 1, 10 ^ Int.toNat 6 + 1].map V.int)) := k5.at upd_same (by simpa using pb4)
      obtain ⟨x, hx, hx2⟩ := atI_ints (ns := [0, 0, 1, ((used L o : Nat) : Int), ((used L o : Nat) : Int) + 1, 10 ^ Int.toNat 6 + 1]) q5 (by simpa using q5')
      have hx01 : 0 ≤ x ∧ x ≤ 1000001 := by
        rw [e6] at hx
        simp only [List.mem_cons, List.not_mem_nil, or_false] at hx
        omega
      refine ⟨p4, _, r, _, rfl, rfl, sqL_of hp5, hx2, ?_⟩
      clear hx2 hx hp5
      have ki5 : Keep [b, d] HG H5 := (k3.trans (Keep.new hp4)).trans (k5.mono (by simp))
      walk_at "rd"
      intro p6 hp6
      have b6 := b5.new (o := .tup [.int (used L o : Nat), .int x]) hp6
      have r6 := r5.new (o := .tup [.int (used L o : Nat), .int x]) hp6
      walk_at "rd"
      intro p7 hp7
      have b7 := b6.new (o := .tup (tv (ck o))) hp7
      have r7 := r6.new (o := .tup (tv (ck o))) hp7
      obtain ⟨o8, g8, r8, _, _, t8⟩ := r7.put (k := ck o) (a := p6) (v := ((used L o : Nat), x)) T3.at ((T2.at (H := H5)).new hp7) (by omega)
      obtain ⟨hdb', hdcs'⟩ := b7.neD r7
      walk_at "rd"
      have hor : 0 ≤ o ∧ o ≤ 999 := by
        obtain ⟨p, hm, _, e⟩ := used_pos.mp hpos
        have := ownerAt_range L p.1.1
        omega
      have l8 := len_put M (ck o) ((used L o : Nat), x)
      refine ⟨((ki5.trans (Keep.new hp6)).trans (Keep.new hp7)).trans (Keep.set (by simp)), ⟨_, _, _, _, _, rfl⟩, b7.app hdb' hdcs', _, r8,
        FM.put hor.1 hor.2 rfl hx01.1 hx01.2 (fun e => by
          have := (Prod.mk.inj e).1
          omega), by omega, fun o' m => ?_⟩
      have tq : (owners L).take (i + 1) = (owners L).take i ++ [o] := by rw [List.take_add_one, hq]; rfl
      rw [tq] at m
      by_cases e : o' = o
      · rw [e]
        exact ⟨_, (mem_put FM.srt).mpr (.inl rfl)⟩
      · rcases List.mem_append.mp m with m | m
        · obtain ⟨v, hv⟩ := hM o' m
          exact ⟨v, (mem_put FM.srt).mpr (.inr ⟨hv, fun z => e (ck_inj z)⟩)⟩
        · exact absurd (List.mem_singleton.mp m) e
    · rintro σ H3 k3 ⟨⟨x3, x4, x5, x6, x7, rfl⟩, b3, M, r3, FM, lM, hM⟩
      rw [List.take_length] at hM
      have hol := len_owners L
      have hcS : c ∉ [b, d] := by simp [cb, cd]
      have ci3 := ci.keep k3 hcS
      walk_at "rd"
      refine ⟨b, cs, _, rfl, b3, by decide, by decide, fun H4 r4 k4 b4 q4 q4' => ?_⟩
      have rp4 := r3.box b3 k4
      walk_at "rd"
      refine ⟨by omega, by omega, ?_⟩
      have hcb : c ∉ [b] := by simpa using cb
      refine for_range (fun i σ H' => (∃ x3 x4 x5 x6 x7, σ = [some (.ref b), some (.ref d), some (.ref c), x3, x4, x5, x6, x7]) ∧ Keep [b, d] H4 H' ∧ BoxAt H' b cs ∧
        ∃ M, Rep H' d M ∧ Fin L M ∧ M.length ≤ L.length + (owners L).length + i ∧ ∀ o ∈ owners L, ∃ v, (ck o, v) ∈ M) ?_ ?_ ?_
      · exact ⟨⟨_, _, _, _, _, rfl⟩, Keep.refl _ _, b4, M, rp4, FM, by omega, hM⟩
      · rintro i σ H5 hi ⟨⟨x3, x4, x5, x6, x7, rfl⟩, k5, b5, M, r5, FM, lM, hM⟩
        walk_at "rd"
        refine ⟨b, cs, _, rfl, b5, by decide, by decide, fun H6 o k6 b6 q6 q6' => ?_⟩
        have r6 := r5.box b5 k6
        have ci6 := ((ci3.keep k4 hcb).keep k5 hcS).keep k6 hcb
        have g6 := ci6.get o
        walk_at "rd"
        refine bI ?_ ?_ <;> intro hin
        · have hu0 : used L o = 0 := by
            rw [cntV_some] at hin
            simpa using hin
          walk_at "rd"
          refine ⟨b, cs, _, rfl, b6, by rw [e6]; omega, by rw [e6]; omega, fun H7 x k7 b7 q7 q7' => ?_⟩
          rw [e6] at q7'
          have r7 := r6.box b6 k7
          walk_at "rd"
          intro p8 hp8
          have b8 := b7.new (o := .tup [.int 0, .int (1 + x)]) hp8
          have r8 := r7.new (o := .tup [.int 0, .int (1 + x)]) hp8
          walk_at "rd"
          intro p9 hp9
          have b9 := b8.new (o := .tup (tv (ck o))) hp9
          have r9 := r8.new (o := .tup (tv (ck o))) hp9
          obtain ⟨o10, g10, r10, _, _, t10⟩ := r9.put (k := ck o) (a := p8) (v := (0, 1 + x)) T3.at ((T2.at (H := H7)).new hp9) (by omega)
          obtain ⟨hdb', hdcs'⟩ := b9.neD r9
          walk_at "rd"
          have l10 := len_put M (ck o) (0, 1 + x)
          refine ⟨⟨_, _, _, _, _, rfl⟩, ((((k5.trans (k6.mono (by simp))).trans (k7.mono (by simp))).trans (Keep.new hp8)).trans (Keep.new hp9)).trans (Keep.set (by simp)), b9.app hdb' hdcs', _, r10,
            FM.put q6 (by omega) (by rw [hu0]; rfl) (by show 0 ≤ 1 + x; omega) (by show 1 + x ≤ 1000001; omega) (fun e => by
              have := (Prod.mk.inj e).2
              omega), by omega, fun o' m => ?_⟩
          by_cases e : o' = o
          · rw [e]
            exact ⟨_, (mem_put FM.srt).mpr (.inl rfl)⟩
          · obtain ⟨v, hv⟩ := hM o' m
            exact ⟨v, (mem_put FM.srt).mpr (.inr ⟨hv, fun z => e (ck_inj z)⟩)⟩
        · exact ⟨⟨_, _, _, _, _, rfl⟩, k5.trans (k6.mono (by simp)), b6, M, r6, FM, by omega, hM⟩
      · rintro σ H5 ⟨⟨x3, x4, x5, x6, x7, rfl⟩, k5, b5, M, r5, FM, lM, hM⟩
        obtain ⟨S1, N1⟩ := FM.sound G fun o h => hM o ((G.owners o).mpr h)
        have kall : Keep [b] H H5 := by
          refine Keep.only (S := [b, d]) ((((k02.mono (by simp)).trans k3).trans (k4.mono (by simp))).trans k5) ?_
          intro y m
          rcases List.mem_cons.mp m with z | z
          · exact .inl z
          · rw [List.mem_singleton.mp z]; exact .inr hd
        dsimp only [tRet]
        refine lc_sorted ItemAt (fun _ => true) r5.r (fun Q q => ⟨_, rfl, q⟩) (by omega) (fun H H' x q k r => r.keep k) ?_ ?_
        · intro bb q' H8 N1 N2 hq k8 hb8 n1 n2
          have r8 : Rep H8 d M := r5.keep (k8.tup (NoTup.nil _)) fun o e => k8.at e (by simp)
          obtain ⟨a9, g9, t9⟩ := r8.get hb8 (lk_of_mem r8.srt hq)
          walk_at "rd"
          intro p hp
          exact n1 _ _ (Keep.new hp) ⟨p, bb, a9, rfl, upd_same, hb8.new hp, t9.new hp⟩ rfl
        · intro D H8 ys hD k8 e8 i8
          have e : M.filter (fun _ => true) = M := List.filter_eq_self.mpr fun _ _ => rfl
          rw [e] at i8
          have Db : D ≠ b := fun z => by
            obtain ⟨_, e1⟩ := b5.b
            rw [z, e1] at hD
            cases hD
          exact q H8 D ys M (kall.trans (k8.mono (by simp))) (b5.keep k8 (by simp) (by simp)) (kall.free hD (by simpa using Db)) e8 i8 S1 N1 (by omega)
end
end K41

/-! The law takes a part out. -/
namespace K41
open PySem PySem.Spec PyProof.Rows L2 TL
/-- [.. for row in a list of items if ..] -/
theorem lc_items {K : PySem.W.Frag} {te0 : TE} {g : TG} {tt : TT} {te : TE} {vs : List Nat} {σ : L2.St} {H : Hp} {Q : VK} {a : Addr} {xs : List V} {L : List Itm} (Rl : Hp → V → Itm → Prop) (sel : Itm → Bool) (sq : SqL K H a xs) (it : Items H xs L) (ht : ∀ Q, Q (.ref a) H → te0 σ H Q) (hl : L.length < 1000000)
    (keepR : ∀ H H' x q, TupK H H' → Rl H x q → Rl H' x q)
    (hs : ∀ x q H1 (N1 : V → Hp → Prop) (N2 : Hp → Prop), q ∈ L → Keep [] H H1 → ItemAt H1 x q → (∀ y H4, Keep [] H1 H4 → Rl H4 y q → sel q = true → N1 y H4) → (∀ H3, Keep [] H1 H3 → sel q = false → N2 H3) →
      g x (wipe σ vs) H1 fun σ2 H2 => wipe σ2 vs = wipe σ vs ∧ tt σ2 H2 fun c H3 => if c = true then te σ2 H3 N1 else N2 H3)
    (hd : ∀ D H1 ys, H D = none → Keep [] H H1 → H1 D = some (.lst ys) → Paired (Rl H1) ys (L.filter sel) → Q (.ref D) H1) : tLc (iList K te0) g tt te vs σ H Q := by
  refine ht _ ⟨a, rfl, ⟨_, sq⟩, ?_⟩
  have hw := walk_list (K := K) (a := a) (xs := xs)
  rw [Paired.length it] at hw
  refine lc_gen (Ls := L) (fun H1 x q => ItemAt H1 x q) Rl sel hw hl (fun H1 k => SqL.keep sq k (by simp)) ?_ keepR hs hd
  rintro i H1 x H2 k1 ⟨rfl, hx⟩
  refine ⟨rfl, ?_⟩
  obtain ⟨q, hq, r⟩ := Paired.get it hx
  exact ⟨q, hq, r.keep (k1.tup (NoTup.nil _))⟩
theorem ix_tupK {X : Cx} {K : PySem.W.Frag} (h : X.K = K) : IxR X (rIxT K) := by subst h; exact ix_tup
theorem atI_back {ns : List Int} {i : Int} (h0 : i < 0) (h : -(ns.length : Int) ≤ i) : ∃ x, atI (ns.map V.int) i = some (V.int x) := by
  have e : ixN (ns.map V.int).length i = some (i + (ns.length : Int)).toNat := by
    unfold ixN
    rw [List.length_map, if_neg (by omega), if_pos h]
  have hlt : (i + (ns.length : Int)).toNat < ns.length := by omega
  refine ⟨ns[(i + (ns.length : Int)).toNat], ?_⟩
  unfold atI
  rw [e]
  show (ns.map V.int)[(i + (ns.length : Int)).toNat]? = _
  rw [List.getElem?_map, List.getElem?_eq_getElem hlt]
  rfl
section
variable {P : Program} {w : World} {K : PySem.W.Frag} {mg : Str → Option Value} {base : Heap}
local macro_rules | `(tactic| walk_at "rd") => `(tactic| repeat (first | refine ⟨_, rfl, ?_⟩ | refine ⟨_, _, rfl, rfl, ?_⟩ | refine ⟨_, _, rfl, ?_⟩ | refine ⟨_, _, _, rfl, ?_⟩ | refine ⟨_, _, _, _, rfl, ?_⟩ | refine ⟨rfl, ?_⟩ | refine ⟨(by show (0 : Int) < _; decide), ?_⟩ | refine ⟨cdw (by decide) (by decide), ?_⟩ | refine ⟨Or.inl (by decide), ?_⟩ | refine ⟨Or.inr (by decide), ?_⟩ | refine And.intro len4v ?_ | refine And.intro len3v ?_ | refine And.intro len2v ?_ | refine And.intro len1v ?_ | refine And.intro len0v ?_ | refine And.intro (by assumption) ?_ | refine And.intro (SS.ty (by assumption)) ?_ | refine And.intro (tyL (by assumption)) ?_ | refine ⟨_, _, _, _, rfl, rfl, sqT_of (by assumption), (by rfl), ?_⟩ | refine ⟨_, _, _, rfl, rfl, (by assumption), (by assumption), ?_⟩ | refine ⟨_, _, rfl, (by assumption), ?_⟩ | refine ⟨_, _, _, _, _, rfl, (by assumption), rfl, (by assumption), (by assumption), ?_⟩ | refine And.intro (IntD.isD (by assumption)) ?_ | refine And.intro (Rep.isD (by assumption)) ?_ | refine ⟨_, _, rfl, sqT_of (by assumption), (by rfl), ?_⟩ | refine ⟨_, _, _, _, rfl, rfl, sqL_of (by assumption), (by rfl), ?_⟩ | refine ⟨_, _, _, _, rfl, rfl, sqL_of upd_same, (by rfl), ?_⟩ | refine ⟨_, _, rfl, Or.inl (sqL_of (by assumption)), ?_⟩ | refine ⟨_, _, _, _, rfl, rfl, upd_same, (by rfl), ?_⟩ | refine ⟨_, _, _, _, rfl, rfl, (by assumption), (by rfl), ?_⟩ | refine ⟨⟨by decide, by decide, by decide⟩, ?_⟩ | refine And.intro (lenNv (by simp only [List.length_cons, List.length_nil]; omega)) ?_))
def spLeft : Sp := fun vs H Q _ => ∃ (b cs a : Addr) (xs : List V) (L : List Itm), vs = [.ref b, .ref a] ∧ BoxAt H b cs ∧ H a = some (.lst xs) ∧ a ≠ b ∧ Items H xs L ∧ (∃ p ∈ L, p.1.2.1 = 0) ∧ L.length < 2000 ∧
  ∀ H' p ys M, Keep [b] H H' → BoxAt H' b cs → H p = none → H' p = some (.lst ys) → Items H' ys M → M.Sublist L → Q (.ref p) H'
abbrev s__law_left : Stmt := top 52
theorem sc__law_left : FnScope ["box", "whole", "way", "low", "high", "many", "nodes", "alone", "left", "k", "key", "pick", "lost", "row"] ["box", "whole"] (defScope s__law_left) := ⟨rfl, rfl, rfl, by decide +kernel, rfl, by decide +kernel, by decide +kernel⟩
theorem ok__law_left {f : Addr} {fd : FuncData} (F : Fun K "_law_left" "_law_left" s__law_left f fd) (T : Txt mg) (C__law_take : CTake P w K mg base) : FnOk P w K mg base CX0 2 f fd ["box", "whole"] spLeft := by
  refine F.ok sc__law_left (fun vs H Q E h => ?_) (fun cdv A outer s H vs Q E hr h => ?_)
  · obtain ⟨_, _, _, _, _, rfl, _⟩ := h
    rfl
  · obtain ⟨b, cs, a, xs, L, rfl, hb, ha, hab, it, hroot, hL, q⟩ := h
    refine ⟨_, (pss_cons (ps_set (i := 2) sc__law_left.nd rfl (Or.inl rfl) (pe_own C__law_take hr (by decide) rfl (pa_cons (pv 0) (pa_cons pe_int pa_nil))))
  (pss_cons (ps_set (i := 3) sc__law_left.nd rfl (Or.inl rfl) (pe_own C__law_take hr (by decide) rfl (pa_cons (pv 0) (pa_cons (pe_callB call_len_seq (by rfl) T.b_len (by decide +kernel) (pa_cons (pv 1) pa_nil)) pa_nil))))
  (pss_cons (ps_set (i := 4) sc__law_left.nd rfl (Or.inl rfl) (pe_op op_add (pe_op op_add (pv 3) pe_int) (pe_own C__law_take hr (by decide) rfl (pa_cons (pv 0) (pa_cons (pe_callB call_len_seq (by rfl) T.b_len (by decide +kernel) (pa_cons (pv 1) pa_nil)) pa_nil)))))
  (pss_cons (ps_set (i := 5) sc__law_left.nd rfl (Or.inl rfl) (pe_op op_add pe_int (pe_own C__law_take hr (by decide) rfl (pa_cons (pv 0) (pa_cons pe_int pa_nil)))))
  (pss_cons (ps_setLc (i := 6) (own := [("row", 13)]) (g := gName 13) rfl sc__law_left.nd rfl rfl (sw_true rfl rfl rfl (by decide +kernel)) (pi_list (pv 1)) (blkOk_by (N := ["box", "whole", "way", "low", "high", "many", "nodes", "alone", "left", "k", "key", "pick", "lost", "row"]) (sc := defScope s__law_left) (by decide +kernel)) (fun _ _ _ _ _ => pg_name (i := 13) sc__law_left.nd rfl (Or.inl rfl)) (fun _ _ _ _ _ => (pts_one (pt_cmpR op_eq (pe_ix (ix_tupK (K := K) rfl) (pe_ix (ix_tupK (K := K) rfl) (pv 13) pe_int (fun _ _ => rfl)) pe_int (fun _ _ => rfl)) pe_int (nomark _)))) (fun _ _ _ _ _ => (pe_ix (ix_tupK (K := K) rfl) (pe_ix (ix_tupK (K := K) rfl) (pv 13) pe_int (fun _ _ => rfl)) pe_int (fun _ _ => rfl))))
  (pss_cons (ps_set (i := 7) sc__law_left.nd rfl (Or.inl rfl) (pe_ix ix_list (pv 6) (pe_op op_sub (pe_un un_neg pe_int) (pe_op op_mul (pe_own C__law_take hr (by decide) rfl (pa_cons (pv 0) (pa_cons (pe_callB call_len_seq (by rfl) T.b_len (by decide +kernel) (pa_cons (pv 6) pa_nil)) pa_nil))) (pe_own C__law_take hr (by decide) rfl (pa_cons (pv 0) (pa_cons pe_int pa_nil))))) (fun _ _ => rfl)))
  (Evl.pss_cut (ps_if (pt_cmpR op_eq (pe_own C__law_take hr (by decide) rfl (pa_cons (pv 0) (pa_cons pe_int pa_nil))) pe_int (nomark _))
  (pss_one (ps_set (i := 7) sc__law_left.nd rfl (Or.inl rfl) (pe_ix ix_list (pv 6) (pe_callB (call_min2 rfl) (by rfl) T.b_min (by decide +kernel) (pa_cons pe_int (pa_cons (pe_op op_sub (pe_callB call_len_seq (by rfl) T.b_len (by decide +kernel) (pa_cons (pv 6) pa_nil)) pe_int) pa_nil))) (fun _ _ => rfl))))
  pss_nil)
  (pss_cons (ps_set (i := 8) sc__law_left.nd rfl (Or.inl rfl) (pe_lst pa_nil))
  (pss_cons (ps_for PassesOwn.never rfl (pi_range1 rfl T.b_range (pa_cons (pe_callB call_len_seq (by rfl) T.b_len (by decide +kernel) (pa_cons (pv 1) pa_nil)) pa_nil)) (pg_name (i := 9) sc__law_left.nd rfl (Or.inl rfl))
  (pss_cons (ps_set (i := 10) sc__law_left.nd rfl (Or.inl rfl) (pe_ix ix_tup (pe_ix ix_list (pv 1) (pv 9) (fun _ _ => rfl)) pe_int (fun _ _ => rfl)))
  (pss_cons (ps_set (i := 11) sc__law_left.nd rfl (Or.inl rfl) (pe_own C__law_take hr (by decide) rfl (pa_cons (pv 0) (pa_cons (pv 5) pa_nil))))
  (pss_cons (ps_set (i := 12) sc__law_left.nd rfl (Or.inl rfl) pe_bl)
  (Evl.pss_cut (ps_if (PW.pt (pw_or (pt_cmpR op_eq (pv 2) pe_int (nomark _)) (pw_or1 (pt_cmpR op_eq (pv 2) pe_int (nomark _)))))
  (pss_one (ps_set (i := 12) sc__law_left.nd rfl (Or.inl rfl) (pe_chain op_le op_lt (pv 3) (pv 9) (pv 4))))
  pss_nil)
  (Evl.pss_cut (ps_if (pt_cmpR op_eq (pv 2) pe_int (nomark _))
  (pss_one (ps_set (i := 12) sc__law_left.nd rfl (Or.inl rfl) (pe_cmpR op_eq (pv 11) pe_int (nomark _))))
  pss_nil)
  (Evl.pss_cut (ps_if (pt_cmpR op_eq (pv 2) pe_int (nomark _))
  (pss_one (ps_set (i := 12) sc__law_left.nd rfl (Or.inl rfl) (pe_or (pe_cmpR op_eq (pv 11) pe_int (nomark _)) (pe_one (pe_chain op_le op_lt (pv 3) (pv 9) (pv 4))))))
  pss_nil)
  (Evl.pss_cut (ps_if (pt_cmpR op_eq (pv 2) pe_int (nomark _))
  (pss_one (ps_set (i := 12) sc__law_left.nd rfl (Or.inl rfl) (pe_cmpR op_eq (pe_ix ix_tup (pv 10) pe_int (fun _ _ => rfl)) (pe_op op_mod (pe_callTy cr_int (by rfl) T.b_int (by decide +kernel) (pa_cons (pv 5) pa_nil)) pe_int) (nomark _))))
  pss_nil)
  (Evl.pss_cut (ps_if (pt_cmpR op_eq (pv 2) pe_int (nomark _))
  (pss_one (ps_set (i := 12) sc__law_left.nd rfl (Or.inl rfl) (pe_and (pe_cmpR op_eq (pe_ix ix_tup (pv 10) pe_int (fun _ _ => rfl)) pe_int (nomark _)) (pe_one (pe_cmpR op_lt (pv 11) pe_int (nomark _))))))
  pss_nil)
  (Evl.pss_cut (ps_if (pt_cmpR op_eq (pv 2) pe_int (nomark _))
  (pss_one (ps_set (i := 12) sc__law_left.nd rfl (Or.inl rfl) (pe_and (pe_cmpR op_eq (pe_ix ix_tup (pv 10) pe_int (fun _ _ => rfl)) pe_int (nomark _)) (pe_one (pe_or (pe_cmpR op_eq (pe_ix ix_tup (pe_ix ix_tup (pe_ix ix_list (pv 1) (pv 9) (fun _ _ => rfl)) pe_int (fun _ _ => rfl)) pe_int (fun _ _ => rfl)) (pv 7) (nomark _)) (pe_one (pe_cmpR op_eq (pv 11) pe_int (nomark _))))))))
  pss_nil)
  (pss_one (ps_if (pt_not (pt_val (pv 12)))
  (pss_one (ps_expr (pe_bm PySem.F.plainAttrs_list PySem.F.slot_list_append PySem.F.type_list_append mt_append (pv 8) (pa_cons (pe_ix ix_list (pv 1) (pv 9) (fun _ _ => rfl)) pa_nil))))
  pss_nil))))))))))))
  (pss_one (ps_ret (pv 8)))))))))))), ?_⟩
    have lxs : xs.length = L.length := Paired.length it
    have hpos : 0 < L.length := by
      obtain ⟨p, m, _⟩ := hroot
      exact List.length_pos_of_mem m
    walk_at "rd"
    refine ⟨b, cs, _, rfl, hb, by decide, by decide, fun H1 way k1 b1 q1 q1' => ?_⟩
    have ha1 := k1.at ha (by simpa using hab)
    walk_at "rd"
    refine ⟨b, cs, _, rfl, b1, by omega, by omega, fun H2 low k2 b2 q2 q2' => ?_⟩
    have ha2 := k2.at ha1 (by simpa using hab)
    walk_at "rd"
    refine ⟨b, cs, _, rfl, b2, by omega, by omega, fun H3 r3 k3 b3 q3 q3' => ?_⟩
    have ha3 := k3.at ha2 (by simpa using hab)
    walk_at "rd"
    refine ⟨b, cs, _, rfl, b3, by decide, by decide, fun H4 r4 k4 b4 q4 q4' => ?_⟩
    have ha4 := k4.at ha3 (by simpa using hab)
    have k04 := ((k1.trans k2).trans k3).trans k4
    have it4 : Items H4 xs L := it.keep (k04.tup hb.nt)
    refine ⟨_, _, rfl, rfl, ?_⟩
    dsimp only [gName, tSeq, tAsg]
    refine lc_items (fun _ y _ => ∃ i, y = V.int i) (fun q => decide (q.1.2.1 = 0)) (sqL_of ha4) it4 (fun Q q => ⟨_, rfl, q⟩) (by omega) (fun _ _ _ _ _ h => h) ?_ ?_
    · rintro x q H5 N1 N2 hq k5 ⟨a', b', c', rfl, t1, t2, t3⟩ n1 n2
      walk_at "rd"
      refine bI ?_ ?_ <;> intro hk
      · walk_at "rd"
        exact n1 _ _ (Keep.refl _ _) ⟨_, rfl⟩ (decide_eq_true (by simpa using hk))
      · exact n2 _ (Keep.refl _ _) (decide_eq_false (by simpa using hk))
    intro D H5 ms' hD k5 e5 i5
    obtain ⟨ms, rfl⟩ := ints_of (ys := ms') fun y m => let ⟨_, _, h⟩ := Paired.left i5 y m; h
    have mlen : 0 < ms.length := by
      have h1 := Paired.length i5
      rw [List.length_map] at h1
      obtain ⟨p, m, e⟩ := hroot
      have : p ∈ L.filter fun q => decide (q.1.2.1 = 0) := List.mem_filter.mpr ⟨m, decide_eq_true e⟩
      have := List.length_pos_of_mem this
      omega
    have mlen2 : ms.length < 2000 := by
      have h1 := Paired.length i5
      rw [List.length_map] at h1
      have := List.length_filter_le (fun q : Itm => decide (q.1.2.1 = 0)) L
      omega
    have b5 := b4.keep k5 (by simp) (by simp)
    have ha5 := k5.at ha4 (by simp)
    have k05 := k04.trans (k5.mono (by simp))
    have Db : D ≠ b := fun z => by
      obtain ⟨_, e1⟩ := b4.b
      rw [z, e1] at hD
      cases hD
    have lms : (ms.map V.int).length = ms.length := List.length_map _
    walk_at "rd"
    refine ⟨b, cs, _, rfl, b5, by omega, by omega, fun H6 r6 k6 b6 q6 q6' => ?_⟩
    have e6' := k6.at e5 (by simpa using Db)
    have ha6 := k6.at ha5 (by simpa using hab)
    walk_at "rd"
    refine ⟨b, cs, _, rfl, b6, by decide, by decide, fun H7 r7 k7 b7 q7 q7' => ?_⟩
    have e7 := k7.at e6' (by simpa using Db)
    have ha7 := k7.at ha6 (by simpa using hab)
    have hm : CMul r6 r7 := Or.inr ⟨by omega, by omega⟩
    have hidx : -1 - r6 * r7 < 0 ∧ -(ms.length : Int) ≤ -1 - r6 * r7 := by
      have : r7 = 0 ∨ r7 = 1 := by omega
      rcases this with rfl | rfl
      · rw [Int.mul_zero]; omega
      · rw [Int.mul_one]; omega
    obtain ⟨al0, hal0⟩ := atI_back (ns := ms) hidx.1 hidx.2
    walk_at "rd"
    refine ⟨D, _, -1 - r6 * r7, _, rfl, rfl, sqL_of e7, hal0, ?_⟩
    walk_at "rd"
    refine ⟨fun σ H' => (∃ (al : Int) (x8 x9 x10 x11 x12 x13 : Option V), σ = [some (.ref b), some (.ref a), some (.int way), some (.int low), some (.int (low + 1 + r3)), some (.int (2 + r4)), some (.ref D), some (.int al), x8, x9, x10, x11, x12, x13]) ∧ Keep [b] H7 H' ∧ BoxAt H' b cs, ?_, ?_⟩
    · walk_at "rd"
      refine ⟨b, cs, _, rfl, b7, by decide, by decide, fun H8 r8 k8 b8 q8 q8' => ?_⟩
      have e8 := k8.at e7 (by simpa using Db)
      walk_at "rd"
      refine bI ?_ ?_ <;> intro h1
      · have hix : 0 ≤ (if (ms.length : Int) - 1 < 1 then (ms.length : Int) - 1 else 1) ∧ (if (ms.length : Int) - 1 < 1 then (ms.length : Int) - 1 else 1) < ms.length := by split <;> omega
        obtain ⟨al1, _, hal1⟩ := atI_ints hix.1 hix.2
        walk_at "rd"
        rw [lms]
        refine ⟨D, _, _, _, rfl, rfl, sqL_of e8, hal1, ?_⟩
        exact ⟨⟨_, _, _, _, _, _, _, rfl⟩, k8, b8⟩
      · exact ⟨⟨_, _, _, _, _, _, _, rfl⟩, k8, b8⟩
    rintro σ H8 ⟨⟨al, x8, x9, x10, x11, x12, x13, rfl⟩, k8, b8⟩
    have ha8 := k8.at ha7 (by simpa using hab)
    have k08 := ((k05.trans k6).trans k7).trans k8
    clear hal0 hidx hm e7 e6' e5
    walk_at "rd"
    intro lf hlf
    have lfb : lf ≠ b := fun z => by
      obtain ⟨_, e1⟩ := b8.b
      rw [z, e1] at hlf
      cases hlf
    have lfcs : lf ≠ cs := fun z => by
      obtain ⟨_, e1⟩ := b8.cs
      rw [z, e1] at hlf
      cases hlf
    have lfa : lf ≠ a := fun z => by
      rw [z, ha8] at hlf
      cases hlf
    have hlf0 : H lf = none := k08.free hlf (by simpa using lfb)
    have ha9 : upd H8 lf (.lst []) a = some (.lst xs) := by rw [upd_ne lfa.symm]; exact ha8
    have b9 := b8.new (o := .lst []) hlf
    have it9 : Items (upd H8 lf (.lst [])) xs L := (it.keep (k08.tup hb.nt)).keep (TupK.new hlf)
    walk_at "rd"
    refine ⟨by omega, by omega, ?_⟩
    refine for_range (fun i σ H' => (∃ x9 x10 x11 x12 x13, σ = [some (.ref b), some (.ref a), some (.int way), some (.int low), some (.int (low + 1 + r3)), some (.int (2 + r4)), some (.ref D), some (.int al), some (.ref lf), x9, x10, x11, x12, x13]) ∧ Keep [b, lf] (upd H8 lf (.lst [])) H' ∧ BoxAt H' b cs ∧
      ∃ (ys : List V) (M : List Itm), H' lf = some (.lst ys) ∧ Items H' ys M ∧ M.Sublist (L.take i)) ?_ ?_ ?_
    · exact ⟨⟨_, _, _, _, _, rfl⟩, Keep.refl _ _, b9, [], [], upd_same, .nil, List.Sublist.refl _⟩
    · rintro i σ H10 hi ⟨⟨x9, x10, x11, x12, x13, rfl⟩, k10, b10, ys, M, e10, i10, s10⟩
      have hiL : i < L.length := by rw [Int.toNat_natCast, lxs] at hi; exact hi
      have nt9 : NoTup [b, lf] (upd H8 lf (.lst [])) := by
        obtain ⟨_, e1⟩ := b9.b
        exact .cons e1 (fun _ z => nomatch z) (.one upd_same fun _ z => nomatch z)
      have ha10 := k10.at ha9 (by simp [hab, lfa.symm])
      have it10 : Items H10 xs L := it9.keep (k10.tup nt9)
      obtain ⟨q', hq'⟩ : ∃ q', L[i]? = some q' := ⟨L[i], List.getElem?_eq_getElem hiL⟩
      obtain ⟨x0, hx0⟩ : ∃ x0, xs[i]? = some x0 := ⟨xs[i]'(by omega), List.getElem?_eq_getElem (by omega)⟩
      have ia : ItemAt H10 x0 q' := Paired.getR it10 hx0 hq'
      have ia' := ia
      obtain ⟨ta, kb, vb, rfl, t1, t2, t3⟩ := ia
      have hxi : atI xs (0 + (i : Int)) = some (.ref ta) := by rw [Int.zero_add]; exact atI_nat hx0
      walk_at "rd"
      refine ⟨a, _, 0 + (i : Int), _, rfl, rfl, sqL_of ha10, hxi, ?_⟩
      walk_at "rd"
      refine ⟨b, cs, _, rfl, b10, by omega, by omega, fun H11 pick k11 b11 q11 q11' => ?_⟩
      have tk11 : TupK H10 H11 := k11.tup b10.nt
      have ha11 := k11.at ha10 (by simpa using hab)
      have e11 := k11.at e10 (by simpa using lfb)
      have i11 : Items H11 ys M := i10.keep tk11
      have ia11 : ItemAt H11 (.ref ta) q' := ia'.keep tk11
      have t1' := tk11 _ _ t1
      have t2' : T3 H11 kb q'.1 := t2.keep tk11
      have t3' : T2 H11 vb q'.2 := t3.keep tk11
      have kk11 := k10.trans (k11.mono (T := [b, lf]) (by simp))
      have lys : ys.length ≤ 2000 := by
        rw [Paired.length i10]
        have := s10.length_le
        rw [List.length_take] at this
        omega
      clear ia' t1 t2 t3 ha10 it10 e10 i10
      walk_at "rd"
      refine ⟨fun σ' H' => H11 = H' ∧ ∃ x : Bool, σ' = [some (.ref b), some (.ref a), some (.int way), some (.int low), some (.int (low + 1 + r3)), some (.int (2 + r4)), some (.ref D), some (.int al), some (.ref lf), some (.int (0 + (i : Int))), some (.ref kb), some (.int pick), some (.bl x), x13], ?_, ?_⟩
      · walk_at "rd"
        (first | exact ⟨rfl, _, rfl⟩ | exact ⟨_, rfl⟩ | (refine bI ?_ ?_ <;> intro _ <;> walk_at "rd" <;> first | exact ⟨rfl, _, rfl⟩ | exact ⟨_, rfl⟩ | (refine bI ?_ ?_ <;> intro _ <;> walk_at "rd" <;> first | exact ⟨rfl, _, rfl⟩ | exact ⟨_, rfl⟩ | (refine bI ?_ ?_ <;> intro _ <;> walk_at "rd" <;> first | exact ⟨rfl, _, rfl⟩ | exact ⟨_, rfl⟩ | (refine bI ?_ ?_ <;> intro _ <;> walk_at "rd" <;> first | exact ⟨rfl, _, rfl⟩ | exact ⟨_, rfl⟩)))))
      rintro σ H' ⟨rfl, x, rfl⟩
      refine ⟨fun σ' H' => H11 = H' ∧ ∃ x : Bool, σ' = [some (.ref b), some (.ref a), some (.int way), some (.int low), some (.int (low + 1 + r3)), some (.int (2 + r4)), some (.ref D), some (.int al), some (.ref lf), some (.int (0 + (i : Int))), some (.ref kb), some (.int pick), some (.bl x), x13], ?_, ?_⟩
      · walk_at "rd"
        (first | exact ⟨rfl, _, rfl⟩ | exact ⟨_, rfl⟩ | (refine bI ?_ ?_ <;> intro _ <;> walk_at "rd" <;> first | exact ⟨rfl, _, rfl⟩ | exact ⟨_, rfl⟩ | (refine bI ?_ ?_ <;> intro _ <;> walk_at "rd" <;> first | exact ⟨rfl, _, rfl⟩ | exact ⟨_, rfl⟩ | (refine bI ?_ ?_ <;> intro _ <;> walk_at "rd" <;> first | exact ⟨rfl, _, rfl⟩ | exact ⟨_, rfl⟩ | (refine bI ?_ ?_ <;> intro _ <;> walk_at "rd" <;> first | exact ⟨rfl, _, rfl⟩ | exact ⟨_, rfl⟩)))))
      rintro σ H' ⟨rfl, x, rfl⟩
      refine ⟨fun σ' H' => H11 = H' ∧ ∃ x : Bool, σ' = [some (.ref b), some (.ref a), some (.int way), some (.int low), some (.int (low + 1 + r3)), some (.int (2 + r4)), some (.ref D), some (.int al), some (.ref lf), some (.int (0 + (i : Int))), some (.ref kb), some (.int pick), some (.bl x), x13], ?_, ?_⟩
      · walk_at "rd"
        (first | exact ⟨rfl, _, rfl⟩ | exact ⟨_, rfl⟩ | (refine bI ?_ ?_ <;> intro _ <;> walk_at "rd" <;> first | exact ⟨rfl, _, rfl⟩ | exact ⟨_, rfl⟩ | (refine bI ?_ ?_ <;> intro _ <;> walk_at "rd" <;> first | exact ⟨rfl, _, rfl⟩ | exact ⟨_, rfl⟩ | (refine bI ?_ ?_ <;> intro _ <;> walk_at "rd" <;> first | exact ⟨rfl, _, rfl⟩ | exact ⟨_, rfl⟩ | (refine bI ?_ ?_ <;> intro _ <;> walk_at "rd" <;> first | exact ⟨rfl, _, rfl⟩ | exact ⟨_, rfl⟩)))))
      rintro σ H' ⟨rfl, x, rfl⟩
      refine ⟨fun σ' H' => H11 = H' ∧ ∃ x : Bool, σ' = [some (.ref b), some (.ref a), some (.int way), some (.int low), some (.int (low + 1 + r3)), some (.int (2 + r4)), some (.ref D), some (.int al), some (.ref lf), some (.int (0 + (i : Int))), some (.ref kb), some (.int pick), some (.bl x), x13], ?_, ?_⟩
      · walk_at "rd"
        (first | exact ⟨rfl, _, rfl⟩ | exact ⟨_, rfl⟩ | (refine bI ?_ ?_ <;> intro _ <;> walk_at "rd" <;> first | exact ⟨rfl, _, rfl⟩ | exact ⟨_, rfl⟩ | (refine bI ?_ ?_ <;> intro _ <;> walk_at "rd" <;> first | exact ⟨rfl, _, rfl⟩ | exact ⟨_, rfl⟩ | (refine bI ?_ ?_ <;> intro _ <;> walk_at "rd" <;> first | exact ⟨rfl, _, rfl⟩ | exact ⟨_, rfl⟩ | (refine bI ?_ ?_ <;> intro _ <;> walk_at "rd" <;> first | exact ⟨rfl, _, rfl⟩ | exact ⟨_, rfl⟩)))))
      rintro σ H' ⟨rfl, x, rfl⟩
      refine ⟨fun σ' H' => H11 = H' ∧ ∃ x : Bool, σ' = [some (.ref b), some (.ref a), some (.int way), some (.int low), some (.int (low + 1 + r3)), some (.int (2 + r4)), some (.ref D), some (.int al), some (.ref lf), some (.int (0 + (i : Int))), some (.ref kb), some (.int pick), some (.bl x), x13], ?_, ?_⟩
      · walk_at "rd"
        (first | exact ⟨rfl, _, rfl⟩ | exact ⟨_, rfl⟩ | (refine bI ?_ ?_ <;> intro _ <;> walk_at "rd" <;> first | exact ⟨rfl, _, rfl⟩ | exact ⟨_, rfl⟩ | (refine bI ?_ ?_ <;> intro _ <;> walk_at "rd" <;> first | exact ⟨rfl, _, rfl⟩ | exact ⟨_, rfl⟩ | (refine bI ?_ ?_ <;> intro _ <;> walk_at "rd" <;> first | exact ⟨rfl, _, rfl⟩ | exact ⟨_, rfl⟩ | (refine bI ?_ ?_ <;> intro _ <;> walk_at "rd" <;> first | exact ⟨rfl, _, rfl⟩ | exact ⟨_, rfl⟩)))))
      rintro σ H' ⟨rfl, x, rfl⟩
      refine ⟨fun σ' H' => H11 = H' ∧ ∃ x : Bool, σ' = [some (.ref b), some (.ref a), some (.int way), some (.int low), some (.int (low + 1 + r3)), some (.int (2 + r4)), some (.ref D), some (.int al), some (.ref lf), some (.int (0 + (i : Int))), some (.ref kb), some (.int pick), some (.bl x), x13], ?_, ?_⟩
      · walk_at "rd"
        refine bI ?_ ?_ <;> intro h6
        · walk_at "rd"
          refine bI ?_ ?_ <;> intro h7
          · walk_at "rd"
            refine ⟨a, _, 0 + (i : Int), _, rfl, rfl, sqL_of ha11, hxi, ?_⟩
            walk_at "rd"
            (first | exact ⟨rfl, _, rfl⟩ | exact ⟨_, rfl⟩ | (refine bI ?_ ?_ <;> intro _ <;> walk_at "rd" <;> first | exact ⟨rfl, _, rfl⟩ | exact ⟨_, rfl⟩ | (refine bI ?_ ?_ <;> intro _ <;> walk_at "rd" <;> first | exact ⟨rfl, _, rfl⟩ | exact ⟨_, rfl⟩ | (refine bI ?_ ?_ <;> intro _ <;> walk_at "rd" <;> first | exact ⟨rfl, _, rfl⟩ | exact ⟨_, rfl⟩ | (refine bI ?_ ?_ <;> intro _ <;> walk_at "rd" <;> first | exact ⟨rfl, _, rfl⟩ | exact ⟨_, rfl⟩)))))
          · exact ⟨rfl, _, rfl⟩
        · exact ⟨rfl, _, rfl⟩
      rintro σ H' ⟨rfl, x, rfl⟩
      have hsz : ys.length < sizeLine := by rw [sizeLine_eq]; omega
      have et := take_snoc hq'
      walk_at "rd"
      refine bI ?_ ?_ <;> intro hx12
      · walk_at "rd"
        refine ⟨a, _, 0 + (i : Int), _, rfl, rfl, sqL_of ha11, hxi, ?_⟩
        walk_at "rd"
        have tk12 : TupK H11 (upd H11 lf (.lst (ys ++ [.ref ta]))) := TupK.set e11 fun _ z => nomatch z
        refine ⟨⟨_, _, _, _, _, rfl⟩, kk11.trans (Keep.set (by simp)), b11.app lfb lfcs, ys ++ [.ref ta], M ++ [q'], upd_same, Paired.snoc (Items.keep tk12 i11) (ia11.keep tk12), ?_⟩
        rw [et]
        exact s10.append (List.Sublist.refl _)
      · refine ⟨⟨_, _, _, _, _, rfl⟩, kk11, b11, ys, M, e11, i11, ?_⟩
        rw [et]
        exact s10.trans (List.sublist_append_left _ _)
    · rintro σ H10 ⟨⟨x9, x10, x11, x12, x13, rfl⟩, k10, b10, ys, M, e10, i10, s10⟩
      rw [Int.toNat_natCast, lxs, List.take_length] at s10
      refine ⟨_, rfl, q H10 lf ys M ?_ b10 hlf0 e10 i10 s10⟩
      refine Keep.only (S := [b, lf]) (((k08.mono (by simp)).trans (Keep.new hlf)).trans k10) ?_
      intro y m
      rcases List.mem_cons.mp m with z | z
      · exact .inl z
      · rw [List.mem_singleton.mp z]; exact .inr hlf0
end
end K41

/-! The law's own mending: held, cleared. -/
namespace K41
open PySem PySem.Spec PyProof.Rows L2 TL
def IB (H : Hp) (x : V) (o : Int) : Prop := ∃ a, x = .ref a ∧ H a = some (.tup [.int o, .bl true])
section
variable {P : Program} {w : World} {K : PySem.W.Frag} {mg : Str → Option Value} {base : Heap}
local macro_rules | `(tactic| walk_at "rd") => `(tactic| repeat (first | refine ⟨_, rfl, ?_⟩ | refine ⟨_, _, rfl, rfl, ?_⟩ | refine ⟨_, _, rfl, ?_⟩ | refine ⟨_, _, _, rfl, ?_⟩ | refine ⟨_, _, _, _, rfl, ?_⟩ | refine ⟨rfl, ?_⟩ | refine ⟨(by show (0 : Int) < _; decide), ?_⟩ | refine ⟨cdw (by decide) (by decide), ?_⟩ | refine ⟨Or.inl (by decide), ?_⟩ | refine ⟨Or.inr (by decide), ?_⟩ | refine And.intro len4v ?_ | refine And.intro len3v ?_ | refine And.intro len2v ?_ | refine And.intro len1v ?_ | refine And.intro len0v ?_ | refine And.intro (by assumption) ?_ | refine And.intro (SS.ty (by assumption)) ?_ | refine And.intro (tyL (by assumption)) ?_ | refine ⟨_, _, _, _, rfl, rfl, sqT_of (by assumption), (by rfl), ?_⟩ | refine ⟨_, _, _, rfl, rfl, (by assumption), (by assumption), ?_⟩ | refine ⟨_, _, rfl, (by assumption), ?_⟩ | refine ⟨_, _, _, _, _, rfl, (by assumption), rfl, (by assumption), (by assumption), ?_⟩ | refine And.intro (IntD.isD (by assumption)) ?_ | refine And.intro (Rep.isD (by assumption)) ?_ | refine ⟨_, _, rfl, sqT_of (by assumption), (by rfl), ?_⟩ | refine ⟨_, _, _, _, rfl, rfl, sqL_of (by assumption), (by rfl), ?_⟩ | refine ⟨_, _, _, _, rfl, rfl, sqL_of upd_same, (by rfl), ?_⟩ | refine ⟨_, _, rfl, Or.inl (sqL_of (by assumption)), ?_⟩ | refine ⟨_, _, _, _, rfl, rfl, upd_same, (by rfl), ?_⟩ | refine ⟨_, _, _, _, rfl, rfl, (by assumption), (by rfl), ?_⟩ | refine ⟨⟨by decide, by decide, by decide⟩, ?_⟩ | refine And.intro (lenNv (by simp only [List.length_cons, List.length_nil]; omega)) ?_))
def spHeld : Sp := fun vs H Q _ => ∃ a xs L, vs = [.ref a] ∧ H a = some (.lst xs) ∧ Items H xs L ∧ Srt L ∧ L.length < 90000 ∧ ∀ H' d, Keep [] H H' → H d = none → Rep H' d L → Q (.ref d) H'
abbrev s__law_held : Stmt := top 53
theorem sc__law_held : FnScope ["items", "held", "row"] ["items"] (defScope s__law_held) := ⟨rfl, rfl, rfl, by decide +kernel, rfl, by decide +kernel, by decide +kernel⟩
theorem ok__law_held {f : Addr} {fd : FuncData} (F : Fun K "_law_held" "_law_held" s__law_held f fd) (T : Txt mg) : FnOk P w K mg base CX0 1 f fd ["items"] spHeld := by
  refine F.ok sc__law_held (fun vs H Q E h => ?_) (fun cdv A outer s H vs Q E hr h => ?_)
  · obtain ⟨_, _, _, rfl, _⟩ := h
    rfl
  · obtain ⟨a, xs, L, rfl, ha, it, sL, hL, q⟩ := h
    refine ⟨_, (pss_cons (ps_set (i := 1) sc__law_held.nd rfl (Or.inl rfl) pe_dnewT)
  (pss_cons (ps_for PassesOwn.never rfl (pi_list (pv 0)) (pg_name (i := 2) sc__law_held.nd rfl (Or.inl rfl))
  (pss_one (ps_dput (hu_of hr) (pv 1) (pe_ix ix_tup (pv 2) pe_int (fun _ _ => rfl)) (pe_ix ix_tup (pv 2) pe_int (fun _ _ => rfl)) rfl)))
  (pss_one (ps_ret (pv 1))))), ?_⟩
    intro d hd
    have had : a ≠ d := ne_of_none ha hd
    dsimp only [gName, tSeq]
    have ha1 : upd H d (.dT []) a = some (.lst xs) := by rw [upd_ne had]; exact ha
    have lxs : xs.length = L.length := Paired.length it
    refine for_seq (a := a) (xs := xs) (S := [d]) (.inl (.inl ha1)) (fun Q q => ⟨_, rfl, q⟩) (by simpa using had) (fun i σ H1 => (∃ x2, σ = [some (.ref a), some (.ref d), x2]) ∧ Rep H1 d (L.take i)) ⟨⟨_, rfl⟩, [], upd_same, Ents.nil _⟩ ?_ ?_
    · rintro i x σ H1 hx ⟨⟨x2, rfl⟩, rep⟩ k1
      obtain ⟨p, hp, e, b, c, rfl, t1, t2, t3⟩ := Paired.get it hx
      have tk : TupK H H1 := (TupK.new (o := .dT []) hd).trans (k1.tup (.one upd_same fun _ z => nomatch z))
      have t1 := tk _ _ t1
      have t2 := T3.keep tk t2
      have t3 := T2.keep tk t3
      have hi : i < L.length := (List.getElem?_eq_some_iff.mp hp).1
      obtain ⟨o, g1, g2, _, _, g3⟩ := rep.put t2 t3 (by rw [List.length_take]; omega)
      walk_at "rd"
      refine ⟨k1.trans (Keep.set (by simp)), ⟨_, rfl⟩, ?_⟩
      rw [take_snoc hp, ← put_last (srt_before sL hp)]
      exact g2
    · rintro σ H1 k1 ⟨⟨x2, rfl⟩, rep⟩
      rw [lxs, List.take_length] at rep
      exact ⟨_, rfl, q H1 d (((Keep.new (S := [d]) (o := .dT []) hd).trans k1).drop hd) hd rep⟩
def spHeldI : Sp := fun vs H Q _ => ∃ (a : Addr) (xs : List V) (os : List Int), vs = [.ref a] ∧ H a = some (.lst xs) ∧ Paired (IB H) xs os ∧ os.length < 90000 ∧ ∀ H' d, Keep [] H H' → H d = none → IntD H' d (fun n => if n ∈ os then some (.bl true) else none) os.length → Q (.ref d) H'
theorem ok__law_held_I {f : Addr} {fd : FuncData} (F : Fun K "_law_held" "_law_held" s__law_held f fd) (T : Txt mg) : FnOk P w K mg base CX0 1 f fd ["items"] spHeldI := by
  refine F.ok sc__law_held (fun vs H Q E h => ?_) (fun cdv A outer s H vs Q E hr h => ?_)
  · obtain ⟨_, _, _, rfl, _⟩ := h
    rfl
  · obtain ⟨a, xs, os, rfl, ha, it, hL, q⟩ := h
    refine ⟨_, (pss_cons (ps_set (i := 1) sc__law_held.nd rfl (Or.inl rfl) pe_dnewK)
  (pss_cons (ps_for PassesOwn.never rfl (pi_list (pv 0)) (pg_name (i := 2) sc__law_held.nd rfl (Or.inl rfl))
  (pss_one (ps_dput (hu_of hr) (pv 1) (pe_ix ix_tup (pv 2) pe_int (fun _ _ => rfl)) (pe_ix ix_tup (pv 2) pe_int (fun _ _ => rfl)) rfl)))
  (pss_one (ps_ret (pv 1))))), ?_⟩
    intro d hd
    have had : a ≠ d := ne_of_none ha hd
    dsimp only [gName, tSeq]
    have ha1 : upd H d (.dK []) a = some (.lst xs) := by rw [upd_ne had]; exact ha
    have lxs : xs.length = os.length := Paired.length it
    refine for_seq (a := a) (xs := xs) (S := [d]) (.inl (.inl ha1)) (fun Q q => ⟨_, rfl, q⟩) (by simpa using had) (fun i σ H1 => (∃ x2, σ = [some (.ref a), some (.ref d), x2]) ∧ IntD H1 d (fun n => if n ∈ os.take i then some (.bl true) else none) i) ⟨⟨_, rfl⟩, (IntD.nil 0).mono (fun n => by simp) (Nat.le_refl _)⟩ ?_ ?_
    · rintro i x σ H1 hx ⟨⟨x2, rfl⟩, ci⟩ k1
      obtain ⟨o, hp, e, rfl, t1⟩ := Paired.get it hx
      have tk : TupK H H1 := (TupK.new (o := .dK []) hd).trans (k1.tup (.one upd_same fun _ z => nomatch z))
      have t1 := tk _ _ t1
      have hi : i < os.length := (List.getElem?_eq_some_iff.mp hp).1
      obtain ⟨u, g1, g2, g3⟩ := ci.put o (.bl true) (by omega)
      walk_at "rd"
      refine ⟨k1.trans (Keep.set (by simp)), ⟨_, rfl⟩, g2.mono (fun n => ?_) (Nat.le_refl _)⟩
      rw [List.take_add_one, hp]
      by_cases e : n = o
      · simp [e]
      · simp [e]
    · rintro σ H1 k1 ⟨⟨x2, rfl⟩, ci⟩
      rw [lxs, List.take_length] at ci
      exact ⟨_, rfl, q H1 d (((Keep.new (S := [d]) (o := .dK []) hd).trans k1).drop hd) hd ci⟩
end
end K41

/-! The law's own mending: cleared. -/
namespace K41
open PySem PySem.Spec PyProof.Rows L2 TL
/-- the charges are the items of number 0 -/
def ClrPre (L : List Itm) : Prop := ∀ p ∈ L, p.1.2.1 = 4 ↔ ¬ 0 < p.1.1
theorem Left.fit {L : List Itm} (h : Left L) : ∀ p ∈ L, (p.1.2.1 = 4 ∧ p.1.1 = 0) ∨ (p.1.2.1 ≠ 4 ∧ 1 ≤ p.1.1) := by
  obtain ⟨W, ⟨rk, R, S, C⟩, N, s, hW⟩ := h
  intro p m
  rcases S.fit p.1 p.2 (hW p m) with f | ⟨f1, _, _, _, f⟩
  · exact .inl ⟨f.2.1, f.1⟩
  · right
    refine ⟨?_, f1⟩
    rcases f with f | f | f | f
    · have := f.1; omega
    · have := f.1; omega
    · have := f.1; omega
    · have := f.1; omega
theorem Left.clr {L : List Itm} (h : Left L) : ClrPre (m1 L) := by
  intro p m
  obtain ⟨k, v⟩ := p
  have s : Srt L := let ⟨_, _, _, s, _⟩ := h; s
  rcases (mem_m1 s).mp m with m | ⟨_, rfl, rfl⟩
  · rcases h.fit _ m with ⟨a, b⟩ | ⟨a, b⟩
    · dsimp only at a b ⊢
      omega
    · dsimp only at a b ⊢
      omega
  · constructor
    · intro e; exact absurd e (by decide)
    · intro e; exact absurd (show 0 < (nk 1).1 by decide) e
/-- a list laid anew, without what is not kept -/
theorem keep_snoc {keep : Itm → Bool} {L : List Itm} {i : Nat} {q : Itm} (s : Srt L) (h : L[i]? = some q) (k : keep q = true) : (L.take (i + 1)).filter keep = put ((L.take i).filter keep) q.1 q.2 := by
  rw [take_snoc h, List.filter_append, List.filter_cons_of_pos k, List.filter_nil]
  exact (put_last fun p m => srt_before s h p (List.mem_filter.mp m).1).symm
theorem keep_no {keep : Itm → Bool} {L : List Itm} {i : Nat} {q : Itm} (h : L[i]? = some q) (k : keep q = false) : (L.take (i + 1)).filter keep = (L.take i).filter keep := by
  rw [take_snoc h, List.filter_append, List.filter_cons_of_neg (by simp [k])]
  simp
theorem SS.keepO {H H' : Hp} {d l : Addr} {L : List Itm} {ls : List Loss} {S : List Addr} (h : SS H d l L ls) (k : Keep S H H') (n : NoTup S H) (h1 : d ∉ S) (h2 : l ∉ S) : SS H' d l L ls := by
  have t := k.tup n
  refine ⟨h.rep.keep t fun o e => k.at e h1, ?_⟩
  obtain ⟨xs, e1, e2⟩ := h.los
  exact ⟨xs, k.at e1 h2, Paired.mapP e2 fun _ _ r => r.keep t⟩
theorem LsAt.keepO {H H' : Hp} {l : Addr} {ls : List Loss} {S : List Addr} (h : LsAt H l ls) (k : Keep S H H') (n : NoTup S H) (h2 : l ∉ S) : LsAt H' l ls := by
  have t := k.tup n
  obtain ⟨xs, e1, e2⟩ := h
  exact ⟨xs, k.at e1 h2, Paired.mapP e2 fun _ _ r => r.keep t⟩
section
variable {P : Program} {w : World} {K : PySem.W.Frag} {mg : Str → Option Value} {base : Heap}
local macro_rules | `(tactic| walk_at "rd") => `(tactic| repeat (first | refine ⟨_, rfl, ?_⟩ | refine ⟨_, _, rfl, rfl, ?_⟩ | refine ⟨_, _, rfl, ?_⟩ | refine ⟨_, _, _, rfl, ?_⟩ | refine ⟨_, _, _, _, rfl, ?_⟩ | refine ⟨rfl, ?_⟩ | refine ⟨(by show (0 : Int) < _; decide), ?_⟩ | refine ⟨cdw (by decide) (by decide), ?_⟩ | refine ⟨Or.inl (by decide), ?_⟩ | refine ⟨Or.inr (by decide), ?_⟩ | refine And.intro len4v ?_ | refine And.intro len3v ?_ | refine And.intro len2v ?_ | refine And.intro len1v ?_ | refine And.intro len0v ?_ | refine And.intro (by assumption) ?_ | refine And.intro (SS.ty (by assumption)) ?_ | refine And.intro (tyL (by assumption)) ?_ | refine ⟨_, _, _, _, rfl, rfl, sqT_of (by assumption), (by rfl), ?_⟩ | refine ⟨_, _, _, rfl, rfl, (by assumption), (by assumption), ?_⟩ | refine ⟨_, _, rfl, (by assumption), ?_⟩ | refine ⟨_, _, _, _, _, rfl, (by assumption), rfl, (by assumption), (by assumption), ?_⟩ | refine And.intro (IntD.isD (by assumption)) ?_ | refine And.intro (Rep.isD (by assumption)) ?_ | refine ⟨_, _, rfl, sqT_of (by assumption), (by rfl), ?_⟩ | refine ⟨_, _, _, _, rfl, rfl, sqL_of (by assumption), (by rfl), ?_⟩ | refine ⟨_, _, _, _, rfl, rfl, sqL_of upd_same, (by rfl), ?_⟩ | refine ⟨_, _, rfl, Or.inl (sqL_of (by assumption)), ?_⟩ | refine ⟨_, _, _, _, rfl, rfl, upd_same, (by rfl), ?_⟩ | refine ⟨_, _, _, _, rfl, rfl, (by assumption), (by rfl), ?_⟩ | refine ⟨⟨by decide, by decide, by decide⟩, ?_⟩ | refine And.intro (lenNv (by simp only [List.length_cons, List.length_nil]; omega)) ?_))
abbrev CHeld (P : Program) (w : World) (K : PySem.W.Frag) (mg : Str → Option Value) (base : Heap) : Prop := Cl P w K mg base 1 "_law_held" ["items"] spHeld
abbrev CHeldI (P : Program) (w : World) (K : PySem.W.Frag) (mg : Str → Option Value) (base : Heap) : Prop := Cl P w K mg base 1 "_law_held" ["items"] spHeldI
def spCleared : Sp := fun vs H Q _ => ∃ a l xs L, vs = [.ref a, .ref l] ∧ H a = some (.lst xs) ∧ Items H xs L ∧ H l = some (.lst []) ∧ a ≠ l ∧ L.length < 4000 ∧ Left L ∧
  ∀ H' d, Keep [l] H H' → H d = none → SS H' d l (m3 L) (rootLs L ++ itemLs (m1 L) ++ entLs (m2 L)) → Q (.ref d) H'
abbrev s__law_cleared : Stmt := top 54
theorem sc__law_cleared : FnScope ["items", "losses", "held", "kept", "key", "left"] ["items", "losses"] (defScope s__law_cleared) := ⟨rfl, rfl, rfl, by decide +kernel, rfl, by decide +kernel, by decide +kernel⟩
theorem ok__law_cleared {f : Addr} {fd : FuncData} (F : Fun K "_law_cleared" "_law_cleared" s__law_cleared f fd) (T : Txt mg) (C__law_held : CHeld P w K mg base) (C__law_packed : CPacked P w K mg base) :
    FnOk P w K mg base CX0 2 f fd ["items", "losses"] spCleared := by
  refine F.ok sc__law_cleared (fun vs H Q E h => ?_) (fun cdv A outer s H vs Q E hr h => ?_)
  · obtain ⟨_, _, _, _, rfl, _⟩ := h
    rfl
  · obtain ⟨a, l, xs, L, rfl, ha, it, hl, hal, hL, lf, q⟩ := h
    refine ⟨_, (pss_cons (ps_set (i := 2) sc__law_cleared.nd rfl (Or.inl rfl) (pe_own C__law_held hr (by decide) rfl (pa_cons (pv 0) pa_nil)))
  (Evl.pss_cut (ps_if (pt_cmp (pc_dnotin (hu_of hr) (pe_tup (pa_cons pe_int (pa_cons pe_int (pa_cons pe_int pa_nil)))) (pv 2)))
  (pss_cons (ps_dput (hu_of hr) (pv 2) (pe_tup (pa_cons pe_int (pa_cons pe_int (pa_cons pe_int pa_nil)))) (pe_tup (pa_cons (pe_own C__law_packed hr (by decide) rfl (pa_cons pe_int (pa_cons pe_int (pa_cons pe_int (pa_cons pe_int pa_nil))))) (pa_cons pe_int pa_nil))) rfl)
  (pss_one (ps_expr (pe_bm PySem.F.plainAttrs_list PySem.F.slot_list_append PySem.F.type_list_append mt_append (pv 1) (pa_cons (pe_tup (pa_cons pe_str pa_nil)) pa_nil)))))
  pss_nil)
  (pss_cons (ps_set (i := 3) sc__law_cleared.nd rfl (Or.inl rfl) pe_dnewT)
  (pss_cons (ps_for PassesOwn.never rfl (pi_list (pe_callB (cr_sortD rfl) (by rfl) T.b_sorted (by decide +kernel) (pa_cons (pv 2) pa_nil))) (pg_name (i := 4) sc__law_cleared.nd rfl (Or.inl rfl))
  (pss_one (ps_if (PW.pt (pw_and (pt_cmpR op_gt (pe_ix ix_tup (pv 4) pe_int (fun _ _ => rfl)) pe_int (nomark _)) (pw_and1 (pt_cmp (pc_dnotin (hu_of hr) (pe_tup (pa_cons (pe_ix ix_tup (pv 4) pe_int (fun _ _ => rfl)) (pa_cons pe_int (pa_cons pe_int pa_nil)))) (pv 2))))))
  (pss_one (ps_expr (pe_bm PySem.F.plainAttrs_list PySem.F.slot_list_append PySem.F.type_list_append mt_append (pv 1) (pa_cons (pe_tup (pa_cons pe_str (pa_cons (pv 4) pa_nil))) pa_nil))))
  (pss_one (ps_dput (hu_of hr) (pv 3) (pv 4) (pe_dget (hu_of hr) (pv 2) (pv 4) (fun _ _ => rfl)) rfl)))))
  (pss_cons (ps_set (i := 5) sc__law_cleared.nd rfl (Or.inl rfl) pe_dnewT)
  (pss_cons (ps_for PassesOwn.never rfl (pi_list (pe_callB (cr_sortD rfl) (by rfl) T.b_sorted (by decide +kernel) (pa_cons (pv 3) pa_nil))) (pg_name (i := 4) sc__law_cleared.nd rfl (Or.inl rfl))
  (pss_one (ps_if (PW.pt (pw_and (pt_cmpR op_eq (pe_ix ix_tup (pv 4) pe_int (fun _ _ => rfl)) pe_int (nomark _)) (pw_and1 (pt_cmp (pc_dnotin (hu_of hr) (pe_tup (pa_cons (pe_ix ix_tup (pe_dget (hu_of hr) (pv 3) (pv 4) (fun _ _ => rfl)) pe_int (fun _ _ => rfl)) (pa_cons pe_int (pa_cons pe_int pa_nil)))) (pv 3))))))
  (pss_one (ps_expr (pe_bm PySem.F.plainAttrs_list PySem.F.slot_list_append PySem.F.type_list_append mt_append (pv 1) (pa_cons (pe_tup (pa_cons pe_str (pa_cons (pv 4) (pa_cons (pe_ix ix_tup (pe_dget (hu_of hr) (pv 3) (pv 4) (fun _ _ => rfl)) pe_int (fun _ _ => rfl)) pa_nil)))) pa_nil))))
  (pss_one (ps_dput (hu_of hr) (pv 5) (pv 4) (pe_dget (hu_of hr) (pv 3) (pv 4) (fun _ _ => rfl)) rfl)))))
  (pss_one (ps_ret (pv 5))))))))), ?_⟩
    have sL : Srt L := let ⟨_, _, _, s, _⟩ := lf; s
    have clr := lf.clr
    walk_at "rd"
    refine ⟨a, xs, L, rfl, ha, it, sL, by omega, fun H1 d k1 hd r1 => ?_⟩
    have hl1 := k1.at hl (by simp)
    have ss1 : SS H1 d l L [] := ⟨r1, [], hl1, .nil⟩
    have g1 := len_rootLs L
    have h1 := len_m1 L
    have h2 := len_m2 L
    have g2' := len_itemLs (m1 L)
    have hdl : d ≠ l := ss1.ne
    dsimp only [gName, tSeq]
    refine ⟨fun σ' H' => (∃ x3 x4 x5, σ' = [some (.ref a), some (.ref l), some (.ref d), x3, x4, x5]) ∧ Keep [d, l] H1 H' ∧ SS H' d l (m1 L) (rootLs L), ?_, ?_⟩
    · walk_at "rd"
      intro p hp
      have ss2 := ss1.new (o := .tup (tv (nk 1))) hp
      obtain ⟨o, g1, g2⟩ := ss2.rep.has (k := nk 1) T3.at
      walk_at "rd"
      refine bI ?_ ?_ <;> intro hc
      · have hn : (lk L (nk 1)).isSome = false := by rw [← g2]; simpa using hc
        walk_at "rd"
        intro p2 hp2
        have ss3 := ss2.new (o := .tup [.int 128123, .int 1]) hp2
        walk_at "rd"
        intro p3 hp3
        have ss4 := ss3.new (o := .tup (tv (nk 1))) hp3
        obtain ⟨H5, g5, ss5, k5, t5⟩ := ss4.put (k := nk 1) (a := p2) (v := (128123, 1)) T3.at ((T2.at (H := upd H1 p (.tup (tv (nk 1)))) (a := 128123) (b := 1)).new hp3) (by omega)
        walk_at "rd"
        intro p6 hp6
        have ss6 := ss5.new (o := .tup [.str "root"]) hp6
        obtain ⟨ys, a1, a2, s7, k7, t7⟩ := ss6.app (m := .root) (x := .ref p6) ⟨p6, rfl, upd_same⟩ (by simp)
        walk_at "rd"
        refine ⟨⟨_, _, _, rfl⟩, ((((Keep.new hp).trans (Keep.new hp2)).trans (Keep.new hp3)).trans k5).trans ((Keep.new hp6).trans k7), ?_⟩
        unfold m1 rootS rootLs
        rw [if_neg (by rw [hn]; exact Bool.false_ne_true), if_neg (by rw [hn]; exact Bool.false_ne_true)]
        exact s7
      · have hn : (lk L (nk 1)).isSome = true := by rw [← g2]; simpa using hc
        refine ⟨⟨_, _, _, rfl⟩, Keep.new hp, ?_⟩
        unfold m1 rootS rootLs
        rw [if_pos hn, if_pos hn]
        exact ss2
    rintro σ H2 ⟨⟨x3, x4, x5, rfl⟩, k2, ss2⟩
    intro dk hdk
    have hk02 : Keep [l] H H2 := by
      refine Keep.only (S := [d, l]) ((k1.mono (by simp)).trans k2) ?_
      intro y m
      rcases List.mem_cons.mp m with z | z
      · rw [z]; exact .inr hd
      · rw [List.mem_singleton.mp z]; exact .inl rfl
    have dkd : dk ≠ d := fun e => by
      obtain ⟨_, e1, _⟩ := ss2.rep
      rw [e, e1] at hdk
      cases hdk
    have dkl : dk ≠ l := fun e => by
      obtain ⟨_, e1, _⟩ := ss2.los
      rw [e, e1] at hdk
      cases hdk
    have rep0 := ss2.rep.new (o := .dT []) hdk
    have ss0 : SS (upd H2 dk (.dT [])) dk l [] (rootLs L) := ⟨⟨[], upd_same, Ents.nil _⟩, ss2.los.new hdk⟩
    have sM := ss2.rep.srt
    have hdS : d ∉ [dk, l] := by simp [dkd.symm, hdl]
    dsimp only [gName, tSeq]
    refine for_sorted (rep0).r (fun Q q => ⟨_, rfl, q⟩) (S := [dk, l]) ss0.there ss0.noTup (fun i σ H' => (∃ x4 x5, σ = [some (.ref a), some (.ref l), some (.ref d), some (.ref dk), x4, x5]) ∧ Rep H' d (m1 L) ∧ SS H' dk l (((m1 L).take i).filter (keepI (m1 L))) (rootLs L ++ (Fx (keepI (m1 L)) (m1 L) i).map (fun p => Loss.item p.1))) ?_ ?_ ?_
    · intro p o hp
      refine ⟨⟨_, _, rfl⟩, rep0.new hp, ?_⟩
      have e : (Fx (keepI (m1 L)) (m1 L) 0).map (fun p => Loss.item p.1) = [] := rfl
      rw [e, List.append_nil]
      exact ss0.new hp
    · rintro G i q b σ HX hq ⟨⟨x4, x5, rfl⟩, rp, ssX⟩ kG kX hbX
      have hqL : q ∈ m1 L := List.mem_of_getElem? hq
      have hi : i < (m1 L).length := (List.getElem?_eq_some_iff.mp hq).1
      have hfx := len_fx (keepI (m1 L)) (m1 L) i
      walk_at "rd"
      refine dI ?_ ?_ <;> intro h0
      · have h4 : q.1.2.1 ≠ 4 := fun e => (clr q hqL).mp e h0
        walk_at "rd"
        intro p hp
        have rpP := rp.new (o := .tup (tv (nk q.1.1))) hp
        have ssP := ssX.new (o := .tup (tv (nk q.1.1))) hp
        have hbP := hbX.new (o := .tup (tv (nk q.1.1))) hp
        have kP := kX.trans (Keep.new (S := [dk, l]) (o := .tup (tv (nk q.1.1))) hp)
        obtain ⟨o, g1, g2⟩ := rpP.has (k := nk q.1.1) T3.at
        walk_at "rd"
        refine bI ?_ ?_ <;> intro hc
        · have hk : keepI (m1 L) q = false := keepI_F h4 (by rw [← g2]; simpa using hc)
          walk_at "rd"
          intro p4 hp4
          have s4 := ssP.new (o := .tup [.str "item", .ref b]) hp4
          obtain ⟨ys, a1, a2, s5, k5, t5⟩ := s4.app (m := .item q.1) (x := .ref p4) ⟨p4, b, rfl, upd_same, hbP.new hp4⟩ (by rw [List.length_append, List.length_map]; omega)
          walk_at "rd"
          refine ⟨(kP.trans (Keep.new hp4)).trans k5, ⟨_, _, rfl⟩, (rpP.new hp4).keep t5 fun o e => k5.at e hdS, ?_⟩
          rw [keep_no hq hk, fx_drop hq hk, List.map_append, ← List.append_assoc]
          exact s5
        · have hk : keepI (m1 L) q = true := keepI_T (.inr (by rw [← g2]; simpa using hc))
          obtain ⟨va, gv, tv1⟩ := rpP.get hbP (lk_of_mem sM hqL)
          obtain ⟨H9, g9, ss9, k9, t9⟩ := ssP.put (k := q.1) (v := q.2) hbP tv1 (by have := List.length_filter_le (keepI (m1 L)) ((m1 L).take i); rw [List.length_take] at this; omega)
          walk_at "rd"
          refine ⟨kP.trans k9, ⟨_, _, rfl⟩, rpP.keep t9 fun o e => k9.at e hdS, ?_⟩
          rw [keep_snoc sM hq hk, fx_keep hq hk]
          exact ss9
      · have h4 : q.1.2.1 = 4 := (clr q hqL).mpr h0
        have hk : keepI (m1 L) q = true := keepI_T (.inl h4)
        obtain ⟨va, gv, tv1⟩ := rp.get hbX (lk_of_mem sM hqL)
        obtain ⟨H9, g9, ss9, k9, t9⟩ := ssX.put (k := q.1) (v := q.2) hbX tv1 (by have := List.length_filter_le (keepI (m1 L)) ((m1 L).take i); rw [List.length_take] at this; omega)
        walk_at "rd"
        refine ⟨kX.trans k9, ⟨_, _, rfl⟩, rp.keep t9 fun o e => k9.at e hdS, ?_⟩
        rw [keep_snoc sM hq hk, fx_keep hq hk]
        exact ss9
    · rintro σ HZ kZ ⟨⟨x4, x5, rfl⟩, rp, ssZ⟩
      rw [List.take_length, fx_all] at ssZ
      clear sM hdS rep0 ss0
      intro dl hdl2
      have sM : Srt (m2 L) := ssZ.rep.srt
      have dldk : dl ≠ dk := fun e => by
        obtain ⟨_, e1, _⟩ := ssZ.rep
        rw [e, e1] at hdl2
        cases hdl2
      have dll : dl ≠ l := fun e => by
        obtain ⟨_, e1, _⟩ := ssZ.los
        rw [e, e1] at hdl2
        cases hdl2
      have hdS : dk ∉ [dl, l] := by simp [dldk.symm, dkl]
      have rep0 : Rep (upd HZ dl (.dT [])) dk (m2 L) := ssZ.rep.new hdl2
      have ss0 : SS (upd HZ dl (.dT [])) dl l [] (rootLs L ++ itemLs (m1 L)) := ⟨⟨[], upd_same, Ents.nil _⟩, ssZ.los.new hdl2⟩
      have kZ' := kZ
      dsimp only [gName, tSeq]
      refine for_sorted (rep0).r (fun Q q => ⟨_, rfl, q⟩) (S := [dl, l]) ss0.there ss0.noTup (fun i σ H' => (∃ x4, σ = [some (.ref a), some (.ref l), some (.ref d), some (.ref dk), x4, some (.ref dl)]) ∧ Rep H' dk (m2 L) ∧ SS H' dl l (((m2 L).take i).filter (keepE (m2 L))) ((rootLs L ++ itemLs (m1 L)) ++ (Fx (keepE (m2 L)) (m2 L) i).map (fun p => Loss.entry p.1 p.2.1))) ?_ ?_ ?_
      · intro p o hp
        refine ⟨⟨_, rfl⟩, rep0.new hp, ?_⟩
        have e : (Fx (keepE (m2 L)) (m2 L) 0).map (fun p => Loss.entry p.1 p.2.1) = [] := rfl
        rw [e, List.append_nil]
        exact ss0.new hp
      · rintro G i q b σ HX hq ⟨⟨x4, rfl⟩, rp, ssX⟩ kG kX hbX
        have hqL : q ∈ m2 L := List.mem_of_getElem? hq
        have hi : i < (m2 L).length := (List.getElem?_eq_some_iff.mp hq).1
        have hfx := len_fx (keepE (m2 L)) (m2 L) i
        walk_at "rd"
        have take2 : keepE (m2 L) q = true → True := fun _ => trivial
        refine bI ?_ ?_ <;> intro h1
        · have h1' : q.1.2.1 = 1 := by simpa using h1
          obtain ⟨vc, gc, tc⟩ := rp.get hbX (lk_of_mem sM hqL)
          walk_at "rd"
          intro p hp
          have rpP := rp.new (o := .tup (tv (nk q.2.1))) hp
          have ssP := ssX.new (o := .tup (tv (nk q.2.1))) hp
          have hbP := hbX.new (o := .tup (tv (nk q.2.1))) hp
          have tcP := tc.new (o := .tup (tv (nk q.2.1))) hp
          have kP := kX.trans (Keep.new (S := [dl, l]) (o := .tup (tv (nk q.2.1))) hp)
          obtain ⟨o, g1, g2⟩ := rpP.has (k := nk q.2.1) T3.at
          walk_at "rd"
          refine bI ?_ ?_ <;> intro hc
          · have hk : keepE (m2 L) q = false := keepE_F h1' (by rw [← g2]; simpa using hc)
            obtain ⟨vd, gd, td⟩ := rpP.get hbP (lk_of_mem sM hqL)
            walk_at "rd"
            intro p4 hp4
            have s4 := ssP.new (o := .tup [.str "entry", .ref b, .int q.2.1]) hp4
            obtain ⟨ys, a1, a2, s5, k5, t5⟩ := s4.app (m := .entry q.1 q.2.1) (x := .ref p4) ⟨p4, b, rfl, upd_same, hbP.new hp4⟩ (by rw [List.length_append, List.length_map, List.length_append]; omega)
            walk_at "rd"
            refine ⟨(kP.trans (Keep.new hp4)).trans k5, ⟨_, rfl⟩, (rpP.new hp4).keep t5 fun o e => k5.at e hdS, ?_⟩
            rw [keep_no hq hk, fx_drop hq hk, List.map_append, ← List.append_assoc]
            exact s5
          · have hk : keepE (m2 L) q = true := keepE_T (.inr (by rw [← g2]; simpa using hc))
            obtain ⟨va, gv, tv1⟩ := rpP.get hbP (lk_of_mem sM hqL)
            obtain ⟨H9, g9, ss9, k9, t9⟩ := ssP.put (k := q.1) (v := q.2) hbP tv1 (by have := List.length_filter_le (keepE (m2 L)) ((m2 L).take i); rw [List.length_take] at this; omega)
            walk_at "rd"
            refine ⟨kP.trans k9, ⟨_, rfl⟩, rpP.keep t9 fun o e => k9.at e hdS, ?_⟩
            rw [keep_snoc sM hq hk, fx_keep hq hk]
            exact ss9
        · have hk : keepE (m2 L) q = true := keepE_T (.inl (by simpa using h1))
          obtain ⟨va, gv, tv1⟩ := rp.get hbX (lk_of_mem sM hqL)
          obtain ⟨H9, g9, ss9, k9, t9⟩ := ssX.put (k := q.1) (v := q.2) hbX tv1 (by have := List.length_filter_le (keepE (m2 L)) ((m2 L).take i); rw [List.length_take] at this; omega)
          walk_at "rd"
          refine ⟨kX.trans k9, ⟨_, rfl⟩, rp.keep t9 fun o e => k9.at e hdS, ?_⟩
          rw [keep_snoc sM hq hk, fx_keep hq hk]
          exact ss9
      · rintro σ HY kY ⟨⟨x4, rfl⟩, rp, ssY⟩
        rw [List.take_length, fx_all] at ssY
        have hdk0 : H dk = none := hk02.free hdk (by simpa using dkl)
        have kHZ : Keep [l] H HZ := by
          refine Keep.only (S := [dk, l]) (((hk02.mono (by simp)).trans (Keep.new hdk)).trans kZ) ?_
          intro y m
          rcases List.mem_cons.mp m with z | z
          · rw [z]; exact .inr hdk0
          · rw [List.mem_singleton.mp z]; exact .inl rfl
        have hdl0 : H dl = none := kHZ.free hdl2 (by simpa using dll)
        refine ⟨_, rfl, q HY dl ?_ hdl0 ssY⟩
        refine Keep.only (S := [dl, l]) (((kHZ.mono (by simp)).trans (Keep.new hdl2)).trans kY) ?_
        intro y m
        rcases List.mem_cons.mp m with z | z
        · rw [z]; exact .inr hdl0
        · rw [List.mem_singleton.mp z]; exact .inl rfl
end
end K41

/-! The law's own mending: moved. -/
namespace K41
open PySem PySem.Spec PyProof.Rows L2 TL
def selN (q : Itm) : Bool := decide (q.1.2.1 = 0 ∧ 1 < q.1.1)
def nodesOf (L : List Itm) : List Int := (L.filter selN).map (·.1.1)
def orphP (L : List Itm) (i : Nat) : List Int := ((nodesOf L).take i).filter fun n => decide (cnt L n = 0)
theorem orphP_all {L : List Itm} (h : MovPre L) : orphP L (nodesOf L).length = orphans L := by
  unfold orphP nodesOf orphans
  rw [List.take_length, List.filter_map, List.filter_filter]
  congr 1
  refine List.filter_congr fun p m => ?_
  unfold selN isOrph
  rw [Bool.eq_iff_iff]
  simp only [Function.comp, Bool.and_eq_true, decide_eq_true_eq]
  constructor
  · rintro ⟨a, b, c⟩
    exact ⟨b, by omega, a⟩
  · rintro ⟨a, b, c⟩
    refine ⟨c, a, ?_⟩
    obtain ⟨rk, R, M⟩ := h
    rcases M.fit p.1 p.2 m with f | f
    · have := f.2.1; omega
    · have := f.1; omega
theorem orphP_split {L : List Itm} (h : MovPre L) {i : Nat} {n : Int} (e : (nodesOf L)[i]? = some n) : (cnt L n = 0 → orphP L (i + 1) = orphP L i ++ [n] ∧ ∃ r, orphans L = orphP L i ++ n :: r) ∧ (cnt L n ≠ 0 → orphP L (i + 1) = orphP L i) := by
  have et : (nodesOf L).take (i + 1) = (nodesOf L).take i ++ [n] := by rw [List.take_add_one, e]; rfl
  constructor
  · intro h0
    have e1 : orphP L (i + 1) = orphP L i ++ [n] := by
      unfold orphP
      rw [et, List.filter_append, List.filter_cons_of_pos (by simpa using h0), List.filter_nil]
    refine ⟨e1, ((nodesOf L).drop (i + 1)).filter (fun n => decide (cnt L n = 0)), ?_⟩
    rw [← orphP_all h]
    have e2 : (nodesOf L).take (nodesOf L).length = (nodesOf L).take (i + 1) ++ (nodesOf L).drop (i + 1) := by rw [List.take_length, List.take_append_drop]
    unfold orphP
    rw [e2, List.filter_append]
    have e1 : ((nodesOf L).take (i + 1)).filter (fun n => decide (cnt L n = 0)) = ((nodesOf L).take i).filter (fun n => decide (cnt L n = 0)) ++ [n] := e1
    rw [e1, List.append_assoc]
    rfl
  · intro h0
    unfold orphP
    rw [et, List.filter_append, List.filter_cons_of_neg (by simpa using h0)]
    simp
theorem cnt_mv {rk : Int → Nat} (R : Rk rk) : ∀ (r s : List Int) (L : List Itm), Mov rk L (r ++ s) → ∀ m, cnt L m ≤ cnt (mv r L) m
  | [], _, _, _, _ => Nat.le_refl _
  | n :: r, s, L, M, m => by
    have h := cnt_mv R r s _ (M.step R) m
    have e := cnt_moveS M.srt M.name.1 m
    have h : cnt (moveS L n) m ≤ cnt (mv (n :: r) L) m := h
    omega
theorem len_nodesOf (L : List Itm) : (nodesOf L).length ≤ L.length := by unfold nodesOf; rw [List.length_map]; exact List.length_filter_le _ _
theorem len_orphP (L : List Itm) (i : Nat) : (orphP L i).length ≤ L.length := by
  unfold orphP
  have h1 := List.length_filter_le (fun n => decide (cnt L n = 0)) ((nodesOf L).take i)
  have h2 := len_nodesOf L
  rw [List.length_take] at h1
  omega
theorem paired_map {α : Type} (g : α → V) : ∀ {ys : List V} {l : List α}, Paired (fun y q => y = g q) ys l → ys = l.map g
  | _, _, .nil => rfl
  | _, _, .cons r t => by rw [List.map_cons, ← paired_map g t, r]
section
variable {P : Program} {w : World} {K : PySem.W.Frag} {mg : Str → Option Value} {base : Heap}
local macro_rules | `(tactic| walk_at "rd") => `(tactic| repeat (first | refine ⟨_, rfl, ?_⟩ | refine ⟨_, _, rfl, rfl, ?_⟩ | refine ⟨_, _, rfl, ?_⟩ | refine ⟨_, _, _, rfl, ?_⟩ | refine ⟨_, _, _, _, rfl, ?_⟩ | refine ⟨rfl, ?_⟩ | refine ⟨(by show (0 : Int) < _; decide), ?_⟩ | refine ⟨cdw (by decide) (by decide), ?_⟩ | refine ⟨Or.inl (by decide), ?_⟩ | refine ⟨Or.inr (by decide), ?_⟩ | refine And.intro len4v ?_ | refine And.intro len3v ?_ | refine And.intro len2v ?_ | refine And.intro len1v ?_ | refine And.intro len0v ?_ | refine And.intro (by assumption) ?_ | refine And.intro (SS.ty (by assumption)) ?_ | refine And.intro (tyL (by assumption)) ?_ | refine ⟨_, _, _, _, rfl, rfl, sqT_of (by assumption), (by rfl), ?_⟩ | refine ⟨_, _, _, rfl, rfl, (by assumption), (by assumption), ?_⟩ | refine ⟨_, _, rfl, (by assumption), ?_⟩ | refine ⟨_, _, _, _, _, rfl, (by assumption), rfl, (by assumption), (by assumption), ?_⟩ | refine And.intro (IntD.isD (by assumption)) ?_ | refine And.intro (Rep.isD (by assumption)) ?_ | refine ⟨_, _, rfl, sqT_of (by assumption), (by rfl), ?_⟩ | refine ⟨_, _, _, _, rfl, rfl, sqL_of (by assumption), (by rfl), ?_⟩ | refine ⟨_, _, _, _, rfl, rfl, sqL_of upd_same, (by rfl), ?_⟩ | refine ⟨_, _, rfl, Or.inl (sqL_of (by assumption)), ?_⟩ | refine ⟨_, _, _, _, rfl, rfl, upd_same, (by rfl), ?_⟩ | refine ⟨_, _, _, _, rfl, rfl, (by assumption), (by rfl), ?_⟩ | refine ⟨⟨by decide, by decide, by decide⟩, ?_⟩ | refine And.intro (lenNv (by simp only [List.length_cons, List.length_nil]; omega)) ?_))
def spMoved : Sp := fun vs H Q _ => ∃ d l L ls, vs = [.ref d, .ref l] ∧ SS H d l L ls ∧ L.length < 20000 ∧ ls.length < 30000 ∧ MovPre L ∧
  ∀ H' c, Keep [d, l] H H' → H c = none → SS H' d l (mv (orphans L) L) (ls ++ mvLs (orphans L) L) → IntD H' c (cntV (cnt (mv (orphans L) L))) (2 * L.length) → Q (.ref c) H'
abbrev s__law_moved : Stmt := top 55
theorem sc__law_moved : FnScope ["left", "losses", "leads", "key", "child", "n", "name", "k", "packed"] ["left", "losses"] (defScope s__law_moved) := ⟨rfl, rfl, rfl, by decide +kernel, rfl, by decide +kernel, by decide +kernel⟩
theorem ok__law_moved {f : Addr} {fd : FuncData} (F : Fun K "_law_moved" "_law_moved" s__law_moved f fd) (T : Txt mg) (C__law_word : CWord P w K mg base) :
    FnOk P w K mg base CX0 2 f fd ["left", "losses"] spMoved := by
  refine F.ok sc__law_moved (fun vs H Q E h => ?_) (fun cdv A outer s H vs Q E hr h => ?_)
  · obtain ⟨_, _, _, _, rfl, _⟩ := h
    rfl
  · obtain ⟨d, l, L, ls, rfl, ss0, hL, hl, pre, q⟩ := h
    refine ⟨_, (pss_cons (ps_set (i := 2) sc__law_moved.nd rfl (Or.inl rfl) pe_dnewK)
  (pss_cons (ps_for PassesOwn.never rfl (pi_list (pe_callB (cr_sortD rfl) (by rfl) T.b_sorted (by decide +kernel) (pa_cons (pv 0) pa_nil))) (pg_name (i := 3) sc__law_moved.nd rfl (Or.inl rfl))
  (pss_one (ps_if (pt_cmpR op_eq (pe_ix ix_tup (pv 3) pe_int (fun _ _ => rfl)) pe_int (nomark _))
  (pss_cons (ps_set (i := 4) sc__law_moved.nd rfl (Or.inl rfl) (pe_ix ix_tup (pe_dget (hu_of hr) (pv 0) (pv 3) (fun _ _ => rfl)) pe_int (fun _ _ => rfl)))
  (pss_one (ps_dput (hu_of hr) (pv 2) (pv 4) (pe_op op_add (pe_dget2 (hu_of hr) (pv 2) (pv 4) pe_int ⟨rfl, rfl, rfl, rfl⟩) pe_int) rfl)))
  pss_nil)))
  (pss_cons (ps_for PassesOwn.never rfl (pi_list (pe_lc (own := [("key", 3)]) (g := gName 3) rfl sc__law_moved.nd (pi_list (pe_callB (cr_sortD rfl) (by rfl) T.b_sorted (by decide +kernel) (pa_cons (pv 0) pa_nil))) (blkOk_by (N := ["left", "losses", "leads", "key", "child", "n", "name", "k", "packed"]) (sc := defScope s__law_moved) (by decide +kernel)) (fun _ _ _ _ _ => pg_name (i := 3) sc__law_moved.nd rfl (Or.inl rfl)) (fun _ _ _ _ _ => (pts_one (PW.pt (pw_and (pt_cmpR op_eq (pe_ix (ix_tupK (K := K) rfl) (pv 3) pe_int (fun _ _ => rfl)) pe_int (nomark _)) (pw_and1 (pt_cmpR op_gt (pe_ix (ix_tupK (K := K) rfl) (pv 3) pe_int (fun _ _ => rfl)) pe_int (nomark _))))))) (fun _ _ _ _ _ => (pe_ix (ix_tupK (K := K) rfl) (pv 3) pe_int (fun _ _ => rfl))))) (pg_name (i := 5) sc__law_moved.nd rfl (Or.inl rfl))
  (pss_one (ps_if (pt_cmp (pc_dnotin (hu_of hr) (pv 5) (pv 2)))
  (pss_cons (ps_set (i := 6) sc__law_moved.nd rfl (Or.inl rfl) (pe_op op_add_str pe_str (pe_callTy call_str_int (by rfl) T.b_str (by decide +kernel) (pa_cons (pv 5) pa_nil))))
  (pss_cons (ps_for PassesOwn.never rfl (pi_range1 rfl T.b_range (pa_cons pe_int pa_nil)) (pg_name (i := 7) sc__law_moved.nd rfl (Or.inl rfl))
  (pss_one (ps_if (pt_cmp (pc_din (hu_of hr) (pe_tup (pa_cons pe_int (pa_cons pe_int (pa_cons (pe_own C__law_word hr (by decide) rfl (pa_cons (pv 6) pa_nil)) pa_nil)))) (pv 0)))
  (pss_one (ps_set (i := 6) sc__law_moved.nd rfl (Or.inl rfl) (pe_op op_add_str (pv 6) pe_str)))
  pss_nil)))
  (pss_cons (ps_dput (hu_of hr) (pv 0) (pe_tup (pa_cons pe_int (pa_cons pe_int (pa_cons (pe_own C__law_word hr (by decide) rfl (pa_cons (pv 6) pa_nil)) pa_nil)))) (pe_tup (pa_cons (pv 5) (pa_cons pe_int pa_nil))) rfl)
  (pss_cons (ps_dput (hu_of hr) (pv 2) (pv 5) pe_int rfl)
  (pss_cons (ps_set (i := 8) sc__law_moved.nd rfl (Or.inl rfl) (pe_ix ix_tup (pe_dget (hu_of hr) (pv 0) (pe_tup (pa_cons (pv 5) (pa_cons pe_int (pa_cons pe_int pa_nil)))) (fun _ _ => rfl)) pe_int (fun _ _ => rfl)))
  (pss_cons (ps_if (pt_cmpR op_eq (pe_op op_mod (pe_callTy cr_int (by rfl) T.b_int (by decide +kernel) (pa_cons (pv 8) pa_nil)) pe_int) pe_int (nomark _))
  (pss_one (ps_dput (hu_of hr) (pv 0) (pe_tup (pa_cons (pv 5) (pa_cons pe_int (pa_cons pe_int pa_nil)))) (pe_tup (pa_cons (pv 8) (pa_cons pe_int pa_nil))) rfl))
  pss_nil)
  (pss_one (ps_expr (pe_bm PySem.F.plainAttrs_list PySem.F.slot_list_append PySem.F.type_list_append mt_append (pv 1) (pa_cons (pe_tup (pa_cons pe_str (pa_cons (pv 5) (pa_cons (pv 6) pa_nil)))) pa_nil))))))))))
  pss_nil)))
  (pss_one (ps_ret (pv 2)))))), ?_⟩
    intro c hc
    have sL := ss0.rep.srt
    have cd : c ≠ d := fun e => by
      obtain ⟨_, e1, _⟩ := ss0.rep
      rw [e, e1] at hc
      cases hc
    have cl : c ≠ l := fun e => by
      obtain ⟨_, e1, _⟩ := ss0.los
      rw [e, e1] at hc
      cases hc
    have ss1 := ss0.new (o := .dK []) hc
    dsimp only [gName, tSeq]
    refine for_sorted ss1.rep.r (fun Q q => ⟨_, rfl, q⟩) (S := [c]) (fun a m => by rw [List.mem_singleton.mp m, upd_same]; simp) (.one upd_same fun _ z => nomatch z)
      (fun i σ H1 => (∃ x3 x4 x5 x6 x7 x8, σ = [some (.ref d), some (.ref l), some (.ref c), x3, x4, x5, x6, x7, x8]) ∧ IntD H1 c (cntV (cnt (L.take i))) i ∧ SS H1 d l L ls) ?_ ?_ ?_
    · intro p o hp
      exact ⟨⟨_, _, _, _, _, _, rfl⟩, ((IntD.nil (H := H) (p := c) 0).mono (fun _ => rfl) (Nat.le_refl _)).new hp, ss1.new hp⟩
    · rintro G i q b σ H1 hq ⟨⟨x3, x4, x5, x6, x7, x8, rfl⟩, ci, s1⟩ kG k1 hb
      have hi : i < L.length := (List.getElem?_eq_some_iff.mp hq).1
      have et := take_snoc hq
      walk_at "rd"
      refine bI ?_ ?_ <;> intro h4
      · obtain ⟨a, ga, ta⟩ := s1.rep.get hb (lk_of_mem sL (List.mem_of_getElem? hq))
        walk_at "rd"
        obtain ⟨o, ho, hoe⟩ := ci.getZ q.2.1
        refine ⟨o, ho, ?_⟩
        rw [hoe]
        walk_at "rd"
        obtain ⟨u, p1, p2, p3⟩ := ci.put q.2.1 (.int ((cnt (L.take i) q.2.1 : Nat) + 1)) (by omega)
        walk_at "rd"
        have kc : Keep [c] H1 (upd H1 c u) := Keep.set (by simp)
        refine ⟨k1.trans kc, ⟨_, _, _, _, _, _, rfl⟩, p2.mono (fun n => ?_) (Nat.le_refl _), ?_⟩
        · have h4 : q.1.2.1 = 1 := by simpa using h4
          unfold cntV
          rw [et, cnt_snoc]
          unfold isEnt
          by_cases e : n = q.2.1
          · simp [e, h4]
          · have : ¬ q.2.1 = n := fun z => e z.symm
            simp [e, this]
        · refine ⟨s1.rep.keep p3 fun o e => by rw [upd_ne cd.symm]; exact e, s1.los.other cl p3⟩
      · refine ⟨k1, ⟨_, _, _, _, _, _, rfl⟩, ci.mono (fun n => ?_) (by omega), s1⟩
        have h4 : q.1.2.1 ≠ 1 := by simpa using h4
        unfold cntV
        rw [et, cnt_snoc]
        unfold isEnt
        simp [h4]
    · rintro σ H1 k1 ⟨⟨x3, x4, x5, x6, x7, x8, rfl⟩, ci, s1⟩
      rw [List.take_length] at ci
      have k01 : Keep [] H H1 := ((Keep.new (S := [c]) (o := .dK []) hc).trans k1).drop hc
      have hln := len_nodesOf L
      dsimp only [gName, tSeq]
      refine for_seqN (xs := (nodesOf L).map V.int) (S := [d, l, c]) (fun k hk => ?_) ?_ (fun i σ H' => (∃ x3 x4 x5 x6 x7 x8, σ = [some (.ref d), some (.ref l), some (.ref c), x3, x4, x5, x6, x7, x8]) ∧
        SS H' d l (mv (orphP L i) L) (ls ++ mvLs (orphP L i) L) ∧ IntD H' c (cntV (cnt (mv (orphP L i) L))) (L.length + i)) ?_ ?_ ?_
      · refine lc_sorted (fun _ y q => y = .int q.1.1) selN s1.rep.r (fun Q q => ⟨_, rfl, q⟩) (by omega) (fun _ _ _ _ _ h => h) ?_ ?_
        · intro b q H8 N1 N2 hq k8 hb n1 n2
          walk_at "rd"
          refine bI ?_ ?_ <;> intro h0
          · walk_at "rd"
            refine dI ?_ ?_ <;> intro h1
            · walk_at "rd"
              exact n1 _ _ (Keep.refl _ _) rfl (decide_eq_true ⟨by simpa using h0, h1⟩)
            · exact n2 _ (Keep.refl _ _) (decide_eq_false fun z => h1 z.2)
          · refine n2 _ (Keep.refl _ _) (decide_eq_false fun z => ?_)
            have : q.1.2.1 ≠ 0 := by simpa using h0
            exact this z.1
        · intro D H8 ys hD k8 e8 i8
          have e : ys = (nodesOf L).map V.int := by
            rw [paired_map (fun q : Itm => V.int q.1.1) i8]
            unfold nodesOf
            rw [List.map_map]
            rfl
          rw [e] at e8
          exact hk D H8 k8 hD (sqL_of e8)
      · intro a m e
        simp only [List.mem_cons, List.not_mem_nil, or_false] at m
        rcases m with rfl | rfl | rfl
        · obtain ⟨_, e1, _⟩ := s1.rep
          rw [e1] at e; cases e
        · obtain ⟨_, e1, _⟩ := s1.los
          rw [e1] at e; cases e
        · obtain ⟨_, e1, _⟩ := ci
          rw [e1] at e; cases e
      · intro H2 k2
        refine ⟨⟨_, _, _, _, _, _, rfl⟩, ?_, ?_⟩
        · have e : ls ++ mvLs (orphP L 0) L = ls := List.append_nil _
          rw [e]
          exact s1.keep0 k2
        · exact (ci.keep k2 (by simp)).mono (fun _ => rfl) (by omega)
      · rintro HG i x σ H3 hx ⟨⟨x3, x4, x5, x6, x7, x8, rfl⟩, s3, c3⟩ kG k3
        rw [List.getElem?_map] at hx
        cases en : (nodesOf L)[i]? with
        | none => rw [en] at hx; cases hx
        | some n =>
          rw [en] at hx
          obtain rfl := Option.some.inj hx
          obtain ⟨sp1, sp2⟩ := orphP_split pre en
          have hi : i < (nodesOf L).length := (List.getElem?_eq_some_iff.mp en).1
          have g3 := c3.get n
          have hlo := len_orphP L i
          have hlm := len_mv (orphP L i) L
          walk_at "rd"
          refine bI ?_ ?_ <;> intro hin
          · have hc0 : cnt (mv (orphP L i) L) n = 0 := by rw [cntV_some] at hin; simpa using hin
            have hcL : cnt L n = 0 := by
              obtain ⟨rk, R, M⟩ := pre
              by_cases z : cnt L n = 0
              · exact z
              · have hm : n ∉ orphans L := fun m => by
                  obtain ⟨_, _, _, _, z'⟩ := mem_orphans.mp m
                  exact z z'
                have e : orphP L i ++ (orphans L).drop (orphP L i).length = orphans L := by
                  rw [← orphP_all ⟨rk, R, M⟩]
                  unfold orphP
                  have e2 : (nodesOf L).take (nodesOf L).length = (nodesOf L).take i ++ (nodesOf L).drop i := by rw [List.take_length, List.take_append_drop]
                  rw [e2, List.filter_append, List.drop_left]
                rw [← e] at M
                have := cnt_mv R _ _ _ M n
                omega
            obtain ⟨e1, r, hr'⟩ := sp1 hcL
            obtain ⟨rk, R, M0⟩ := pre
            have M : Mov rk (mv (orphP L i) L) (n :: r) := by
              rw [hr'] at M0
              exact M0.after R _ _ _
            obtain ⟨gt1, num, u, hu, _⟩ := M.rem _ List.mem_cons_self
            have hok := M.name
            have ec : ∀ m, cnt (moveS (mv (orphP L i) L) n) m = cnt (mv (orphP L i) L) m + if n = m then 1 else 0 := cnt_moveS M.srt hok.1
            obtain ⟨N, rfl⟩ : ∃ N : Nat, n = (N : Int) := ⟨n.toNat, by omega⟩
            rw [Int.toNat_natCast] at hok
            obtain ⟨hf, hj, hlen⟩ := hok
            have hlk : lk (mv (orphP L i) L) (nk (N : Int)) = some u := lk_of_mem M.srt hu
            have hN10 : N < 10000000000 := by unfold NumOk at num; omega
            have eL : ls ++ mvLs (orphP L (i + 1)) L = ls ++ mvLs (orphP L i) L ++ [.moved N (freeJ (mv (orphP L i) L) N)] := by rw [e1, mvLs_snoc, Int.toNat_natCast, List.append_assoc]
            have hll : (ls ++ mvLs (orphP L i) L).length < 90000 := by
              rw [List.length_append, mvLs_len]
              omega
            have hle : (mv (orphP L i) L).length < 90000 := by omega
            have eM : mv (orphP L (i + 1)) L = moveS (mv (orphP L i) L) N := by rw [e1, mv_snoc]
            have sM := M.srt
            rw [eM, eL]
            clear eM eL e1 hr' sp1 sp2 M0 M hlm
            generalize mv (orphP L i) L = Mi at *
            generalize ls ++ mvLs (orphP L i) L = li at *
            have lg := log1920 hN10
            have ln1 : (Str.ofString "n").length = 1 := by decide
            have hz0 : tl (Str.ofString "n" ++ Str.ofString (toString ((N : Nat) : Int))) = nmL cN N 0 := by
              rw [tl_append, tl_num]
              have : tl (Str.ofString "n") = [cN] := by decide
              rw [this]
              unfold nmL
              simp
            have ln2 : (Str.ofString (toString ((N : Nat) : Int))).length ≤ 11 := by
              have h1 := hlen 0 (Nat.zero_le _)
              rw [nmL_len] at h1
              rw [len_tl, tl_num]
              omega
            have ls1 : (Str.ofString "n").length + (Str.ofString (toString ((N : Nat) : Int))).length ≤ sizeLine := by rw [sizeLine_eq]; omega
            walk_at "rd"
            refine ⟨by omega, by omega, ?_⟩
            refine for_range (fun k σ H' => (∃ z x7 x8, σ = [some (.ref d), some (.ref l), some (.ref c), x3, x4, some (.int (N : Int)), some (.str z), x7, x8] ∧ tl z = nmL cN N (min k (freeJ Mi N))) ∧ Keep [] H3 H') ⟨⟨_, _, _, rfl, by rw [Nat.zero_min]; exact hz0⟩, Keep.refl _ _⟩ ?_ ?_
            · rintro k σ H4 hk ⟨⟨z, x7, x8, rfl, hz⟩, k4⟩
              have s4 := s3.keep0 k4
              have hle11 := hlen (min k (freeJ Mi N)) (Nat.min_le_right _ _)
              have hokz : OkName (tl z) := by rw [hz]; exact nmL_ok code_cN hle11
              walk_at "rd"
              intro p hp
              have s5 := s4.new (o := .tup (tv (1, 1, wordOf (tl z)))) hp
              obtain ⟨o, g1, g2⟩ := s5.rep.has (k := (1, 1, wordOf (tl z))) T3.at
              walk_at "rd"
              refine bI ?_ ?_ <;> intro hc1
              · have hlt : k < freeJ Mi N := by
                  rcases Nat.lt_or_ge k (freeJ Mi N) with h | h
                  · exact h
                  · exfalso
                    rw [hz, Nat.min_eq_right h] at g2
                    have g2 : o.isSome = (lk Mi (1, 1, nw cN N (freeJ Mi N))).isSome := g2
                    rw [hf, hc1] at g2
                    cases g2
                have hzl : z.length ≤ 11 := by rw [len_tl, hz]; exact hle11
                have hzl1 : z.length + (Str.ofString "_").length ≤ sizeLine := by
                  have e1 : (Str.ofString "_").length = 1 := by decide
                  rw [e1, sizeLine_eq]
                  omega
                walk_at "rd"
                refine ⟨⟨_, _, _, rfl, ?_⟩, k4.trans (Keep.new hp)⟩
                rw [tl_append, hz, Nat.min_eq_left (Nat.le_of_lt hlt), Nat.min_eq_left hlt]
                unfold nmL
                rw [List.replicate_succ']
                simp
                rfl
              · refine ⟨⟨_, _, _, rfl, ?_⟩, k4.trans (Keep.new hp)⟩
                have hge : freeJ Mi N ≤ k := by
                  rcases Nat.lt_or_ge k (freeJ Mi N) with h | h
                  · exfalso
                    have h1 := freeJ_lt h
                    unfold freeAt at h1
                    rw [hz, Nat.min_eq_left (Nat.le_of_lt h)] at g2
                    have g2 : o.isSome = (lk Mi (1, 1, nw cN N k)).isSome := g2
                    cases q : lk Mi (1, 1, nw cN N k) with
                    | none => rw [q] at h1; cases h1
                    | some _ => rw [q, hc1] at g2; cases g2
                  · exact h
                rw [hz, Nat.min_eq_right hge, Nat.min_eq_right (by omega)]
            · rintro σ H4 ⟨⟨z, x7, x8, rfl, hz⟩, k4⟩
              have e4 : Int.toNat 4 = 4 := rfl
              rw [e4, Nat.min_eq_right (by omega)] at hz
              have s4 := s3.keep0 k4
              have c4 := c3.keep k4 (by simp)
              have hokz : OkName (tl z) := by rw [hz]; exact nmL_ok code_cN (hlen _ (Nat.le_refl _))
              have hwd : wordOf (tl z) = nw cN N (freeJ Mi N) := by rw [hz]; rfl
              walk_at "rd"
              intro p5 hp5
              have s5 := s4.new (o := .tup [.int (N : Int), .int 0]) hp5
              have c5 := c4.new (o := .tup [.int (N : Int), .int 0]) hp5
              walk_at "rd"
              intro p6 hp6
              have s6 := s5.new (o := .tup (tv (1, 1, wordOf (tl z)))) hp6
              have c6 := c5.new (o := .tup (tv (1, 1, wordOf (tl z)))) hp6
              obtain ⟨H7, g7, ss7, k7, t7⟩ := s6.put (k := (1, 1, wordOf (tl z))) (a := p5) (v := ((N : Int), 0)) T3.at ((T2.at (H := H4)).new hp6) (by omega)
              have c7 := c6.keep k7 (by simp [cd, cl])
              obtain ⟨uo, d1, d2, d3⟩ := c7.put (N : Int) (.int 1) (by omega)
              walk_at "rd"
              have ss8 : SS (upd H7 c uo) d l (put Mi (1, 1, wordOf (tl z)) ((N : Int), 0)) li := ⟨ss7.rep.keep d3 fun o e => by rw [upd_ne cd.symm]; exact e, ss7.los.other cl d3⟩
              have c8 : IntD (upd H7 c uo) c (cntV (cnt (moveS Mi N))) (L.length + (i + 1)) := d2.mono (fun m => by
                unfold cntV
                rw [ec]
                by_cases z : m = (N : Int)
                · rw [z, hc0]; simp
                · have : ¬ (N : Int) = m := fun q => z q.symm
                  simp [z, this]) (Nat.le_refl _)
              have k8 : Keep [d, l, c] H3 (upd H7 c uo) := ((((k4.mono (by simp)).trans (Keep.new hp5)).trans (Keep.new hp6)).trans (k7.mono (by simp))).trans (Keep.set (by simp))
              generalize upd H7 c uo = H8 at *
              intro p9 hp9
              have ss9 := ss8.new (o := .tup (tv (nk (N : Int)))) hp9
              have c9 := c8.new (o := .tup (tv (nk (N : Int)))) hp9
              have ne1 : nk (N : Int) ≠ (1, 1, wordOf (tl z)) := fun z => by
                have := congrArg (fun k : K3 => k.2.1) z
                have this : (0 : Int) = 1 := this
                omega
              have lk9 : lk (put Mi (1, 1, wordOf (tl z)) ((N : Int), 0)) (nk (N : Int)) = some u := by
                rw [lk_put sM, if_neg ne1]
                exact hlk
              obtain ⟨a9, g9, t9⟩ := ss9.rep.get (b := p9) (k := nk (N : Int)) T3.at lk9
              walk_at "rd"
              have hlp := len_put Mi (1, 1, wordOf (tl z)) ((N : Int), 0)
              refine bI ?_ ?_ <;> intro hfold
              · have hf' : u.1 % 2 = 1 := by simpa using hfold
                walk_at "rd"
                intro p10 hp10
                have ss10 := ss9.new (o := .tup [.int u.1, .int 1]) hp10
                have c10 := c9.new (o := .tup [.int u.1, .int 1]) hp10
                walk_at "rd"
                intro p11 hp11
                have ss11 := ss10.new (o := .tup (tv (nk (N : Int)))) hp11
                have c11 := c10.new (o := .tup (tv (nk (N : Int)))) hp11
                obtain ⟨H12, g12, ss12, k12, t12⟩ := ss11.put (k := nk (N : Int)) (a := p10) (v := (u.1, 1)) T3.at ((T2.at (H := upd H8 p9 (.tup (tv (nk (N : Int)))))).new hp11) (by omega)
                have c12 := c11.keep k12 (by simp [cd, cl])
                walk_at "rd"
                intro p13 hp13
                have ss13 := ss12.new (o := .tup [.str "moved", .int (N : Int), .str z]) hp13
                have c13 := c12.new (o := .tup [.str "moved", .int (N : Int), .str z]) hp13
                obtain ⟨ys, a1, a2, s14, k14, t14⟩ := ss13.app (m := .moved N (freeJ Mi N)) (x := .ref p13) ⟨p13, z, rfl, upd_same, by rw [hz, Int.toNat_natCast]⟩ (by omega)
                have c14 := c13.keep k14 (by simp [cd, cl])
                walk_at "rd"
                refine ⟨?_, ⟨_, _, _, _, _, _, rfl⟩, ?_, c14⟩
                · exact ((((((k3.trans k8).trans (Keep.new hp9)).trans (Keep.new hp10)).trans (Keep.new hp11)).trans (k12.mono (by simp))).trans (Keep.new hp13)).trans (k14.mono (by simp))
                · have e : moveS Mi N = put (put Mi (1, 1, wordOf (tl z)) ((N : Int), 0)) (nk (N : Int)) (u.1, 1) := by
                    unfold moveS
                    rw [hlk, hwd, Int.toNat_natCast]
                    dsimp only
                    rw [if_pos hf']
                  rw [e]
                  exact s14
              · have hf' : u.1 % 2 ≠ 1 := by simpa using hfold
                walk_at "rd"
                intro p13 hp13
                have ss13 := ss9.new (o := .tup [.str "moved", .int (N : Int), .str z]) hp13
                have c13 := c9.new (o := .tup [.str "moved", .int (N : Int), .str z]) hp13
                obtain ⟨ys, a1, a2, s14, k14, t14⟩ := ss13.app (m := .moved N (freeJ Mi N)) (x := .ref p13) ⟨p13, z, rfl, upd_same, by rw [hz, Int.toNat_natCast]⟩ (by omega)
                have c14 := c13.keep k14 (by simp [cd, cl])
                walk_at "rd"
                refine ⟨?_, ⟨_, _, _, _, _, _, rfl⟩, ?_, c14⟩
                · exact (((k3.trans k8).trans (Keep.new hp9)).trans (Keep.new hp13)).trans (k14.mono (by simp))
                · have e : moveS Mi N = put Mi (1, 1, wordOf (tl z)) ((N : Int), 0) := by
                    unfold moveS
                    rw [hlk, hwd, Int.toNat_natCast]
                    dsimp only
                    rw [if_neg hf']
                  rw [e]
                  exact s14
          · have hcn : cnt (mv (orphP L i) L) n ≠ 0 := by rw [cntV_some] at hin; simpa using hin
            have hcL : cnt L n ≠ 0 := fun z => by
              obtain ⟨_, r, hr'⟩ := sp1 z
              obtain ⟨rk, R, M0⟩ := pre
              rw [hr'] at M0
              obtain ⟨_, _, _, _, h⟩ := (M0.after R _ _ _).rem _ List.mem_cons_self
              exact hcn h.1
            rw [sp2 hcL]
            exact ⟨k3, ⟨_, _, _, _, _, _, rfl⟩, s3, c3.mono (fun _ => rfl) (by omega)⟩
      · rintro σ H3 k3 ⟨⟨x3, x4, x5, x6, x7, x8, rfl⟩, s3, c3⟩
        rw [List.length_map, orphP_all pre] at s3 c3
        refine ⟨_, rfl, q H3 c ?_ hc s3 (c3.mono (fun _ => rfl) (by omega))⟩
        have kk := (k01.mono (T := [d, l, c]) (by simp)).trans k3
        intro y u e m
        refine kk y u e fun m2 => ?_
        simp only [List.mem_cons, List.not_mem_nil, or_false] at m2 m
        rcases m2 with z | z | z
        · exact m (.inl z)
        · exact m (.inr z)
        · rw [z, hc] at e; cases e
end
end K41

/-! Loops over locked dicts; links laid one by one. -/
namespace K41
open PySem PySem.Spec PyProof.Rows L2 TL
/-- [.. for key in found if ..], found locked -/
theorem lc_keysT {te0 : TE} {g : TG} {tt : TT} {te : TE} {vs : List Nat} {σ : L2.St} {H : Hp} {Q : VK} {d : Addr} {L : List Itm} (Rl : Hp → V → Itm → Prop) (sel : Itm → Bool) (rep : Rep H d L) (ht : ∀ H1 Q, Q (.ref d) H1 → te0 σ H1 Q) (hl : L.length < 1000000)
    (keepR : ∀ H H' x q, TupK H H' → Rl H x q → Rl H' x q)
    (hs : ∀ b q H1 (N1 : V → Hp → Prop) (N2 : Hp → Prop), q ∈ L → T3 H1 b q.1 → (∀ y H4, Keep [] H1 H4 → Rl H4 y q → sel q = true → N1 y H4) → (∀ H3, Keep [] H1 H3 → sel q = false → N2 H3) →
      g (.ref b) (wipe σ vs) H1 fun σ2 H2 => wipe σ2 vs = wipe σ vs ∧ tt σ2 H2 fun c H3 => if c = true then te σ2 H3 N1 else N2 H3)
    (hd : ∀ D H1 ys (M : List Itm), M.Perm L → H D = none → Keep [] H H1 → H1 D = some (.lst ys) → Paired (Rl H1) ys (M.filter sel) → Q (.ref D) H1) : tLockE (tLc (iKeys te0) g tt te vs) σ H Q := by
  obtain ⟨kvs, h1, h2⟩ := rep
  obtain ⟨s, M, pm, pr⟩ := h2
  refine ⟨d, .dT kvs, h1, trivial, fun od => ?_⟩
  have tk1 : TupK H (upd H d (.frz od (.dT kvs))) := TupK.set h1 fun _ z => nomatch z
  have hne : ∀ b, b ≠ d → upd H d (.frz od (.dT kvs)) b = H b := fun b e => upd_ne e
  refine ht _ _ ⟨d, od, rfl, .inr ⟨kvs, upd_same, ?_⟩⟩
  have hl' : kvs.length = M.length := Paired.length pr
  have hw := walk_keysT (d := d) (o := od) (kvs := kvs)
  rw [hl'] at hw
  refine lc_gen (Ls := M) (H := upd H d (.frz od (.dT kvs))) (Q := fun v H' => H' d = some (.frz od (.dT kvs)) ∧ Q v (upd H' d (.dT kvs))) (fun H1 x q => ∃ b, x = .ref b ∧ T3 H1 b q.1) Rl sel hw (by rw [pm.length_eq]; exact hl) (fun H1 k => k.at upd_same (by simp)) ?_ keepR ?_ ?_
  · rintro i H1 x H2 k1 ⟨rfl, k, v, b, e1, rfl, e2⟩
    obtain ⟨q, e3, r1, a, r2, r3⟩ := Paired.get pr e1
    have r1 : k = tk q.1 := r1
    subst r1
    exact ⟨rfl, q, e3, b, rfl, e2⟩
  · rintro x q H1 N1 N2 hq k1 ⟨b, rfl, t⟩ n1 n2
    exact hs b q H1 N1 N2 (pm.mem_iff.mp hq) t n1 n2
  · intro D H1 ys hD k1 e1 e2
    have Dd : D ≠ d := fun z => by
      rw [z, upd_same] at hD
      cases hD
    have hd1 : H1 d = some (.frz od (.dT kvs)) := k1.at upd_same (by simp)
    have tk2 : TupK H1 (upd H1 d (.dT kvs)) := TupK.set hd1 fun _ z => nomatch z
    refine ⟨hd1, hd D _ ys M pm (by rw [← hne D Dd]; exact hD) ?_ (by rw [upd_ne Dd]; exact e1) (Paired.mapP e2 fun _ _ r => keepR _ _ _ _ tk2 r)⟩
    intro b u e _
    by_cases z : b = d
    · rw [z, upd_same, ← h1, ← z, e]
    · rw [upd_ne z]
      exact k1 b u (by rw [hne b z]; exact e) (by simp)
/-- for o in a dict of ints, which is locked -/
theorem for_keysK {te : TE} {g : TG} {tb : TS} {D : Ends} {σ : L2.St} {H : Hp} {c : Addr} {gv : Int → Option V} {B : Nat} {S : List Addr} (ci : IntD H c gv B) (ht : ∀ H1 Q, Q (.ref c) H1 → te σ H1 Q)
    (hS : c ∉ S) (Pv : List Int → L2.St → Hp → Prop) (h0 : ∀ HL, (∀ b, b ≠ c → HL b = H b) → Pv [] σ HL)
    (hs : ∀ G R n σ H1 rt bk, gv n ≠ none → Pv R σ H1 → Keep S G H1 → (R ++ [n]).length ≤ B → g (.int n) σ H1 fun σ2 H2 => tb ⟨fun σ3 H3 => Keep S G H3 ∧ Pv (R ++ [n]) σ3 H3, rt, bk, fun σ3 H3 => Keep S G H3 ∧ Pv (R ++ [n]) σ3 H3⟩ σ2 H2)
    (hd : ∀ R σ H1 H2, (∀ n, n ∈ R ↔ gv n ≠ none) → Pv R σ H1 → (∀ b, b ≠ c → H2 b = H1 b) → IntD H2 c gv B → Keep S H H2 → D.nx σ H2) : tLock (tFor (iKeys te) g tb) D σ H := by
  obtain ⟨kvs, h1, h2, h3, ks, h4, h5⟩ := ci
  refine ⟨c, .dK kvs, h1, trivial, fun od => ?_⟩
  have hne : ∀ b, b ≠ c → upd H c (.frz od (.dK kvs)) b = H b := fun b e => upd_ne e
  refine ht _ _ ⟨c, od, rfl, .inl ⟨kvs, upd_same, ?_⟩⟩
  have hl : kvs.length = ks.length := by
    have := congrArg List.length h4
    simpa using this
  have hmem : ∀ n, n ∈ ks ↔ gv n ≠ none := fun n => by
    rw [← h2]
    constructor
    · intro m e
      exact valV_not e (by rw [h4]; exact List.mem_map_of_mem m)
    · intro ne
      cases q : valV kvs (Sum.inl n) with
      | none => exact absurd q ne
      | some v =>
        have := valV_in q
        rw [h4] at this
        obtain ⟨y, m, e⟩ := List.mem_map.mp this
        rw [← Sum.inl.inj e]
        exact m
  refine for_it walk_keys (fun i σ H1 => Keep S (upd H c (.frz od (.dK kvs))) H1 ∧ Pv (ks.take i) σ H1) ⟨Keep.refl S _, h0 _ hne⟩ (fun i σ H1 _ h => h.1.at upd_same hS) ?_ ?_
  · rintro i x σ1 H1 H2 hi ⟨k1, pv⟩ ⟨rfl, k, v, e1, rfl⟩
    have e2 : (kvs.map (·.1))[i]? = some k := by rw [List.getElem?_map, e1]; rfl
    rw [h4, List.getElem?_map] at e2
    cases e3 : ks[i]? with
    | none => rw [e3] at e2; cases e2
    | some n =>
      rw [e3] at e2
      obtain rfl : Sum.inl n = k := Option.some.inj e2
      have et : ks.take (i + 1) = ks.take i ++ [n] := by rw [List.take_add_one, e3]; rfl
      have hlen : (ks.take i ++ [n]).length ≤ B := by
        rw [← et, List.length_take]
        omega
      have := fun rt bk => hs (upd H c (.frz od (.dK kvs))) (ks.take i) n σ1 H2 rt bk ((hmem n).mp (List.mem_of_getElem? e3)) pv k1 hlen
      rw [← et] at this
      exact this _ _
  · rintro σ1 H1 ⟨k1, pv⟩
    rw [hl, List.take_length] at pv
    have hc1 : H1 c = some (.frz od (.dK kvs)) := k1.at upd_same hS
    refine ⟨hc1, hd ks σ1 H1 _ hmem pv (fun b e => upd_ne e) ⟨kvs, upd_same, h2, h3, ks, h4, h5⟩ fun b u e m => ?_⟩
    by_cases z : b = c
    · rw [z, upd_same, ← h1, ← z, e]
    · rw [upd_ne z]
      exact k1 b u (by rw [hne b z]; exact e) m
/-! ### links, node by node -/
theorem lk_map {f : Itm → Itm} (hf : ∀ p, (f p).1 = p.1) (k : K3) : ∀ L : List Itm, lk (L.map f) k = (lk L k).map fun v => (f (k, v)).2
  | [] => rfl
  | p :: r => by
    rw [List.map_cons, lk_cons, lk_cons, hf, lk_map hf k r]
    by_cases e : p.1 = k
    · rw [if_pos e, if_pos e]
      subst e
      rfl
    · rw [if_neg e, if_neg e]
theorem lk_ext {L M : List Itm} (s : Srt L) (t : Srt M) (h : ∀ k, lk L k = lk M k) : L = M := srt_ext s t fun p => by
  obtain ⟨k, v⟩ := p
  rw [← lk_iff s, ← lk_iff t, h]
theorem srt_map {f : Itm → Itm} (hf : ∀ p, (f p).1 = p.1) {L : List Itm} (s : Srt L) : Srt (L.map f) := by
  unfold Srt
  rw [List.pairwise_map]
  exact s.imp fun h => by rw [hf, hf]; exact h
def kind0 (p : Itm) : Bool := decide (p.1.2.1 = 0)
def P0 (L : List Itm) : List Itm := L.filter kind0
def fA (L : List Itm) (A : List Int) (p : Itm) : Itm := if p.1.2.1 = 0 ∧ p.1.1 ∈ A then linkF L p else p
def linkA (L : List Itm) (A : List Int) : List Itm := L.map (fA L A)
def A0 (L : List Itm) (i : Nat) : List Int := ((P0 L).take i).map (·.1.1)
def lA (L : List Itm) (i : Nat) : List Loss := (((P0 L).take i).filter (badLinks L)).map fun p => .links p.1.1 (p.2.1 / 128000) (cnt L p.1.1)
theorem fA_key (L : List Itm) (A : List Int) (p : Itm) : (fA L A p).1 = p.1 := by unfold fA; split; exact linkF_key p; rfl
theorem linkA_zero (L : List Itm) : linkA L (A0 L 0) = L := by
  unfold linkA
  have : ∀ p ∈ L, fA L (A0 L 0) p = p := fun p _ => if_neg fun z => by
    have : A0 L 0 = [] := rfl
    rw [this] at z
    exact absurd z.2 (by simp)
  rw [List.map_congr_left this]
  exact List.map_id' _
theorem linkA_all (L : List Itm) : linkA L (A0 L (P0 L).length) = linkS L := by
  unfold linkA linkS A0
  rw [List.take_length]
  refine List.map_congr_left fun p m => ?_
  unfold fA
  split
  · rfl
  · rename_i h
    refine (linkF_other fun e => h ⟨e, List.mem_map.mpr ⟨p, List.mem_filter.mpr ⟨m, decide_eq_true e⟩, rfl⟩⟩).symm
theorem lA_all (L : List Itm) : lA L (P0 L).length = linkLs L := by
  unfold lA linkLs P0
  rw [List.take_length, List.filter_filter]
  congr 1
  refine List.filter_congr fun p m => ?_
  unfold badLinks kind0
  rw [Bool.eq_iff_iff]
  simp only [Bool.and_eq_true, decide_eq_true_eq]
  exact ⟨fun h => h.1, fun h => ⟨h, h.1⟩⟩
theorem len_linkA (L : List Itm) (A : List Int) : (linkA L A).length = L.length := by unfold linkA; rw [List.length_map]
theorem linkA_step {L : List Itm} (s : Srt L) (hn : ∀ p ∈ L, p.1.2.1 = 0 → p.1 = nk p.1.1) {i : Nat} {q : Itm} (h : (P0 L)[i]? = some q) :
    q ∈ L ∧ q.1 = nk q.1.1 ∧ lk (linkA L (A0 L i)) (nk q.1.1) = some q.2 ∧ (badLinks L q = true → linkA L (A0 L (i + 1)) = put (linkA L (A0 L i)) (nk q.1.1) (linkF L q).2 ∧ lA L (i + 1) = lA L i ++ [.links q.1.1 (q.2.1 / 128000) (cnt L q.1.1)]) ∧
    (badLinks L q = false → linkA L (A0 L (i + 1)) = linkA L (A0 L i) ∧ lA L (i + 1) = lA L i) := by
  have hm := List.mem_of_getElem? h
  obtain ⟨hqL, hk⟩ := List.mem_filter.mp hm
  have hk : q.1.2.1 = 0 := of_decide_eq_true hk
  have hq := hn q hqL hk
  have s0 : Srt (P0 L) := srt_filter s _
  have et : (P0 L).take (i + 1) = (P0 L).take i ++ [q] := take_snoc h
  have eA : A0 L (i + 1) = A0 L i ++ [q.1.1] := by unfold A0; rw [et, List.map_append]; rfl
  have hno : q.1.1 ∉ A0 L i := fun m => by
    obtain ⟨p, mp, e⟩ := List.mem_map.mp m
    have l := srt_before s0 h p mp
    obtain ⟨mpL, kp⟩ := List.mem_filter.mp (List.mem_of_mem_take mp)
    rw [hn p mpL (of_decide_eq_true kp), hq, e] at l
    exact ltK_irrefl _ l
  have hlk : lk L (nk q.1.1) = some q.2 := by rw [← hq]; exact lk_of_mem s hqL
  have e0 : lk (linkA L (A0 L i)) (nk q.1.1) = some q.2 := by
    unfold linkA
    rw [lk_map (fA_key L _), hlk]
    show some (fA L (A0 L i) (nk q.1.1, q.2)).2 = some q.2
    unfold fA
    rw [if_neg fun z => hno z.2]
  have sA : ∀ A, Srt (linkA L A) := fun A => srt_map (fA_key L A) s
  have other : ∀ k v, k ≠ nk q.1.1 → lk L k = some v → fA L (A0 L (i + 1)) (k, v) = fA L (A0 L i) (k, v) := fun k v ne e => by
    unfold fA
    rw [eA]
    by_cases z : k.2.1 = 0
    · have hk' : k = nk k.1 := hn (k, v) (lk_some_mem e) z
      have : k.1 ≠ q.1.1 := fun w => ne (by rw [hk', w])
      by_cases y : k.1 ∈ A0 L i
      · rw [if_pos ⟨z, List.mem_append_left _ y⟩, if_pos ⟨z, y⟩]
      · rw [if_neg fun w => ?_, if_neg fun w => y w.2]
        rcases List.mem_append.mp w.2 with m | m
        · exact y m
        · exact this (List.mem_singleton.mp m)
    · rw [if_neg fun w => z w.1, if_neg fun w => z w.1]
  have at_q : fA L (A0 L (i + 1)) (nk q.1.1, q.2) = linkF L q := by
    unfold fA
    rw [if_pos ⟨rfl, by rw [eA]; exact List.mem_append_right _ (List.mem_singleton.mpr rfl)⟩, ← hq]
  refine ⟨hqL, hq, e0, fun hb => ⟨?_, ?_⟩, fun hb => ⟨?_, ?_⟩⟩
  · refine lk_ext (sA _) (srt_put (sA _) _ _) fun k => ?_
    rw [lk_put (sA _)]
    unfold linkA
    rw [lk_map (fA_key L _), lk_map (fA_key L _)]
    by_cases z : k = nk q.1.1
    · rw [if_pos z, z, hlk]
      show some (fA L (A0 L (i + 1)) (nk q.1.1, q.2)).2 = _
      rw [at_q]
    · rw [if_neg z]
      cases e : lk L k with
      | none => rfl
      | some v =>
        show some (fA L (A0 L (i + 1)) (k, v)).2 = some (fA L (A0 L i) (k, v)).2
        rw [other k v z e]
  · unfold lA
    rw [et, List.filter_append, List.filter_cons_of_pos hb, List.filter_nil, List.map_append]
    rfl
  · refine lk_ext (sA _) (sA _) fun k => ?_
    unfold linkA
    rw [lk_map (fA_key L _), lk_map (fA_key L _)]
    by_cases z : k = nk q.1.1
    · rw [z, hlk]
      show some (fA L (A0 L (i + 1)) (nk q.1.1, q.2)).2 = some (fA L (A0 L i) (nk q.1.1, q.2)).2
      have e1 : fA L (A0 L i) (nk q.1.1, q.2) = (nk q.1.1, q.2) := if_neg fun z => hno z.2
      have e2 : linkF L q = q := by
        unfold linkF
        rw [hb]
        rfl
      rw [at_q, e1, e2]
    · cases e : lk L k with
      | none => rfl
      | some v =>
        show some (fA L (A0 L (i + 1)) (k, v)).2 = some (fA L (A0 L i) (k, v)).2
        rw [other k v z e]
  · unfold lA
    rw [et, List.filter_append, List.filter_cons_of_neg (by simp [hb])]
    simp
end K41

/-! The law's own mending: counted. -/
namespace K41
open PySem PySem.Spec PyProof.Rows L2 TL
structure CountPre (L : List Itm) : Prop where
  node : ∀ p ∈ L, p.1.2.1 = 0 → p.1 = nk p.1.1
  pos : ∀ p ∈ L, p.1.2.1 = 0 → p.2.1 % 2 = 0 → 0 < cnt L p.1.1
  sums : SumPre (linkS L)
def ownK (M : List Itm) : List Int := (M.filter fun p => decide (p.1.2.1 = 4)).map (·.1.2.2)
theorem mem_ownK {M L : List Itm} (pm : M.Perm L) (n : Int) : n ∈ ownK M ↔ ∃ p ∈ L, p.1.2.1 = 4 ∧ p.1.2.2 = n := by
  unfold ownK
  rw [List.mem_map]
  constructor
  · rintro ⟨p, m, e⟩
    obtain ⟨m1, m2⟩ := List.mem_filter.mp m
    exact ⟨p, pm.mem_iff.mp m1, of_decide_eq_true m2, e⟩
  · rintro ⟨p, m, h, e⟩
    exact ⟨p, List.mem_filter.mpr ⟨pm.mem_iff.mpr m, decide_eq_true h⟩, e⟩
theorem owners_iff {L : List Itm} (n : Int) : n ∈ owners L ↔ (∃ p ∈ L, p.1.2.1 = 4 ∧ p.1.2.2 = n) ∨ 0 < used L n := by
  rw [mem_owners, used_pos]
  constructor
  · rintro ⟨p, m, e⟩
    unfold ownOf at e
    split at e
    · rename_i h
      exact .inl ⟨p, m, h, Option.some.inj e⟩
    · split at e
      · rename_i h
        exact .inr ⟨p, m, h, Option.some.inj e⟩
      · cases e
  · rintro (⟨p, m, h, e⟩ | ⟨p, m, h, e⟩)
    · exact ⟨p, m, by unfold ownOf; rw [if_pos h, e]⟩
    · exact ⟨p, m, by unfold ownOf; rw [if_neg (by omega), if_pos h, e]⟩
theorem del_put {L : List Itm} (s : Srt L) (k : K3) (v : Val) : del (put L k v) k = del L k := by
  refine lk_ext (srt_del (srt_put s k v) k) (srt_del s k) fun j => ?_
  rw [lk_del (srt_put s k v), lk_del s, lk_put s]
  by_cases e : j = k
  · rw [if_pos e, if_pos e]
  · rw [if_neg e, if_neg e, if_neg e]
theorem paired_mapR {α β : Type} {F : V → β → Prop} (g : α → β) : ∀ {ys : List V} {l : List α}, Paired (fun y q => F y (g q)) ys l → Paired F ys (l.map g)
  | _, _, .nil => .nil
  | _, _, .cons r t => .cons r (paired_mapR g t)
/-- a key is taken out by pop -/
theorem SS.tyD {K : PySem.W.Frag} {H : Hp} {d l : Addr} {L : List Itm} {ls : List Loss} (h : SS H d l L ls) : tyV K "dict" (.ref d) H := let ⟨kvs, h1, _⟩ := h.rep; .inr (.inr (.inl ⟨rfl, .inr ⟨kvs, h1⟩⟩))
section
variable {P : Program} {w : World} {K : PySem.W.Frag} {mg : Str → Option Value} {base : Heap}
local macro_rules | `(tactic| walk_at "rd") => `(tactic| repeat (first | refine ⟨_, rfl, ?_⟩ | refine ⟨_, _, rfl, rfl, ?_⟩ | refine ⟨_, _, rfl, ?_⟩ | refine ⟨_, _, _, rfl, ?_⟩ | refine ⟨_, _, _, _, rfl, ?_⟩ | refine ⟨rfl, ?_⟩ | refine ⟨(by show (0 : Int) < _; decide), ?_⟩ | refine ⟨cdw (by decide) (by decide), ?_⟩ | refine ⟨Or.inl (by decide), ?_⟩ | refine ⟨Or.inr (by decide), ?_⟩ | refine And.intro len4v ?_ | refine And.intro len3v ?_ | refine And.intro len2v ?_ | refine And.intro len1v ?_ | refine And.intro len0v ?_ | refine And.intro (by assumption) ?_ | refine And.intro (SS.ty (by assumption)) ?_ | refine And.intro (tyL (by assumption)) ?_ | refine ⟨_, _, _, _, rfl, rfl, sqT_of (by assumption), (by rfl), ?_⟩ | refine ⟨_, _, _, rfl, rfl, (by assumption), (by assumption), ?_⟩ | refine ⟨_, _, rfl, (by assumption), ?_⟩ | refine ⟨_, _, _, _, _, rfl, (by assumption), rfl, (by assumption), (by assumption), ?_⟩ | refine And.intro (IntD.isD (by assumption)) ?_ | refine And.intro (Rep.isD (by assumption)) ?_ | refine ⟨_, _, rfl, sqT_of (by assumption), (by rfl), ?_⟩ | refine ⟨_, _, _, _, rfl, rfl, sqL_of (by assumption), (by rfl), ?_⟩ | refine ⟨_, _, _, _, rfl, rfl, sqL_of upd_same, (by rfl), ?_⟩ | refine ⟨_, _, rfl, Or.inl (sqL_of (by assumption)), ?_⟩ | refine ⟨_, _, _, _, rfl, rfl, upd_same, (by rfl), ?_⟩ | refine ⟨_, _, _, _, rfl, rfl, (by assumption), (by rfl), ?_⟩ | refine ⟨⟨by decide, by decide, by decide⟩, ?_⟩ | refine And.intro (lenNv (by simp only [List.length_cons, List.length_nil]; omega)) ?_))
def spCounted : Sp := fun vs H Q _ => ∃ d c l L ls B, vs = [.ref d, .ref c, .ref l] ∧ SS H d l L ls ∧ IntD H c (cntV (cnt L)) B ∧ L.length < 30000 ∧ ls.length < 30000 ∧ CountPre L ∧
  ∀ H', Keep [d, l] H H' → SS H' d l (chg (usedI (linkS L)) (owners (linkS L)) (linkS L)) (ls ++ linkLs L ++ chgLs (usedI (linkS L)) (owners (linkS L)) (linkS L)) → Q .non H'
abbrev s__law_counted : Stmt := top 56
theorem sc__law_counted : FnScope ["left", "leads", "losses", "n", "packed", "links", "sums", "owners", "owner", "old", "used", "key"] ["left", "leads", "losses"] (defScope s__law_counted) := ⟨rfl, rfl, rfl, by decide +kernel, rfl, by decide +kernel, by decide +kernel⟩
theorem ok__law_counted {f : Addr} {fd : FuncData} (F : Fun K "_law_counted" "_law_counted" s__law_counted f fd) (T : Txt mg) (C__law_sums : CSums P w K mg base) (C__law_held_I : CHeldI P w K mg base) :
    FnOk P w K mg base CX0 2 f fd ["left", "leads", "losses"] spCounted := by
  refine F.ok sc__law_counted (fun vs H Q E h => ?_) (fun cdv A outer s H vs Q E hr h => ?_)
  · obtain ⟨_, _, _, _, _, _, rfl, _⟩ := h
    rfl
  · obtain ⟨d, c, l, L, ls, B, rfl, ss0, c0, hL, hl, pre, q⟩ := h
    refine ⟨_, (pss_cons (ps_for PassesOwn.never rfl (pi_list (pe_lc (own := [("key", 11)]) (g := gName 11) rfl sc__law_counted.nd (pi_list (pe_callB (cr_sortD rfl) (by rfl) T.b_sorted (by decide +kernel) (pa_cons (pv 0) pa_nil))) (blkOk_by (N := ["left", "leads", "losses", "n", "packed", "links", "sums", "owners", "owner", "old", "used", "key"]) (sc := defScope s__law_counted) (by decide +kernel)) (fun _ _ _ _ _ => pg_name (i := 11) sc__law_counted.nd rfl (Or.inl rfl)) (fun _ _ _ _ _ => (pts_one (pt_cmpR op_eq (pe_ix (ix_tupK (K := K) rfl) (pv 11) pe_int (fun _ _ => rfl)) pe_int (nomark _)))) (fun _ _ _ _ _ => (pe_ix (ix_tupK (K := K) rfl) (pv 11) pe_int (fun _ _ => rfl))))) (pg_name (i := 3) sc__law_counted.nd rfl (Or.inl rfl))
  (pss_cons (ps_set (i := 4) sc__law_counted.nd rfl (Or.inl rfl) (pe_ix ix_tup (pe_dget (hu_of hr) (pv 0) (pe_tup (pa_cons (pv 3) (pa_cons pe_int (pa_cons pe_int pa_nil)))) (fun _ _ => rfl)) pe_int (fun _ _ => rfl)))
  (pss_cons (ps_set (i := 5) sc__law_counted.nd rfl (Or.inl rfl) (pe_op op_fdivW (pv 4) pe_int))
  (pss_one (ps_if (PW.pt (pw_and (pt_cmpR op_eq (pe_op op_mod (pe_callTy cr_int (by rfl) T.b_int (by decide +kernel) (pa_cons (pv 4) pa_nil)) pe_int) pe_int (nomark _)) (pw_and1 (pt_cmpR op_ne (pv 5) (pe_dget (hu_of hr) (pv 1) (pv 3) (fun _ _ => rfl)) (nomark _)))))
  (pss_cons (ps_expr (pe_bm PySem.F.plainAttrs_list PySem.F.slot_list_append PySem.F.type_list_append mt_append (pv 2) (pa_cons (pe_tup (pa_cons pe_str (pa_cons (pv 3) (pa_cons (pv 5) (pa_cons (pe_dget (hu_of hr) (pv 1) (pv 3) (fun _ _ => rfl)) pa_nil))))) pa_nil)))
  (pss_one (ps_dput (hu_of hr) (pv 0) (pe_tup (pa_cons (pv 3) (pa_cons pe_int (pa_cons pe_int pa_nil)))) (pe_tup (pa_cons (pe_op op_add (pv 4) (pe_op op_mul pe_int (pe_op op_sub (pe_dget (hu_of hr) (pv 1) (pv 3) (fun _ _ => rfl)) (pv 5)))) (pa_cons (pe_ix ix_tup (pe_dget (hu_of hr) (pv 0) (pe_tup (pa_cons (pv 3) (pa_cons pe_int (pa_cons pe_int pa_nil)))) (fun _ _ => rfl)) pe_int (fun _ _ => rfl)) pa_nil))) rfl)))
  pss_nil)))))
  (pss_cons (ps_set (i := 6) sc__law_counted.nd rfl (Or.inl rfl) (pe_own C__law_sums hr (by decide) rfl (pa_cons (pv 0) pa_nil)))
  (pss_cons (ps_set (i := 7) sc__law_counted.nd rfl (Or.inl rfl) (pe_own C__law_held_I hr (by decide) rfl (pa_cons (pe_lock (pe_lc (own := [("key", 11)]) (g := gName 11) rfl sc__law_counted.nd (pi_keys (pv 0)) (blkOk_by (N := ["left", "leads", "losses", "n", "packed", "links", "sums", "owners", "owner", "old", "used", "key"]) (sc := defScope s__law_counted) (by decide +kernel)) (fun _ _ _ _ _ => pg_name (i := 11) sc__law_counted.nd rfl (Or.inl rfl)) (fun _ _ _ _ _ => (pts_one (pt_cmpR op_eq (pe_ix (ix_tupK (K := K) rfl) (pv 11) pe_int (fun _ _ => rfl)) pe_int (nomark _)))) (fun _ _ _ _ _ => (pe_tup (pa_cons (pe_ix (ix_tupK (K := K) rfl) (pv 11) pe_int (fun _ _ => rfl)) (pa_cons pe_bl pa_nil)))))) pa_nil)))
  (pss_cons (ps_lock (ps_for PassesOwn.never rfl (pi_keys (pv 6)) (pg_name (i := 8) sc__law_counted.nd rfl (Or.inl rfl))
  (pss_one (ps_dput (hu_of hr) (pv 7) (pv 8) pe_bl rfl))))
  (pss_one (ps_for PassesOwn.never rfl (pi_list (pe_callB (cr_sortI rfl) (by rfl) T.b_sorted (by decide +kernel) (pa_cons (pv 7) pa_nil))) (pg_name (i := 8) sc__law_counted.nd rfl (Or.inl rfl))
  (pss_cons (ps_set (i := 9) sc__law_counted.nd rfl (Or.inl rfl) (pe_dget2 (hu_of hr) (pv 0) (pe_tup (pa_cons pe_int (pa_cons pe_int (pa_cons (pv 8) pa_nil)))) (pe_tup (pa_cons pe_int (pa_cons pe_int pa_nil))) ⟨rfl, rfl, rfl, rfl⟩))
  (pss_cons (ps_set (i := 10) sc__law_counted.nd rfl (Or.inl rfl) (pe_dget2 (hu_of hr) (pv 6) (pv 8) pe_int ⟨rfl, rfl, rfl, rfl⟩))
  (pss_one (ps_if (pt_cmpR op_ne (pe_ix ix_tup (pv 9) pe_int (fun _ _ => rfl)) (pv 10) (nomark _))
  (pss_cons (ps_expr (pe_bm PySem.F.plainAttrs_list PySem.F.slot_list_append PySem.F.type_list_append mt_append (pv 2) (pa_cons (pe_tup (pa_cons pe_str (pa_cons (pv 8) (pa_cons (pe_ix ix_tup (pv 9) pe_int (fun _ _ => rfl)) (pa_cons (pv 10) pa_nil))))) pa_nil)))
  (pss_cons (ps_dput (hu_of hr) (pv 0) (pe_tup (pa_cons pe_int (pa_cons pe_int (pa_cons (pv 8) pa_nil)))) (pe_tup (pa_cons (pv 10) (pa_cons (pe_ix ix_tup (pv 9) pe_int (fun _ _ => rfl)) pa_nil))) rfl)
  (pss_one (ps_if (PW.pt (pw_and (pt_cmpR op_eq (pv 10) pe_int (nomark _)) (pw_and1 (pt_cmpR op_eq (pe_ix ix_tup (pv 9) pe_int (fun _ _ => rfl)) pe_int (nomark _)))))
  (pss_one (ps_expr (pe_bm PySem.F.plainAttrs_dict PySem.F.slot_dict_pop PySem.F.type_dict_pop (mt_popT1 (hu_of hr)) (pv 0) (pa_cons (pe_tup (pa_cons pe_int (pa_cons pe_int (pa_cons (pv 8) pa_nil)))) pa_nil))))
  pss_nil))))
  pss_nil)))))))))), ?_⟩
    have sL := ss0.rep.srt
    have cd := c0.neT ss0.rep
    have cl := c0.neL ss0.los
    have hcS : c ∉ [d, l] := by simp [cd, cl]
    have hP0 : (P0 L).length ≤ L.length := List.length_filter_le _ _
    dsimp only [gName, tSeq]
    refine for_seqN (xs := (P0 L).map fun p => V.int p.1.1) (S := [d, l]) (fun k hk => ?_) ss0.there (fun i σ H' => (∃ x3 x4 x5 x6 x7 x8 x9 x10 x11, σ = [some (.ref d), some (.ref c), some (.ref l), x3, x4, x5, x6, x7, x8, x9, x10, x11]) ∧
      SS H' d l (linkA L (A0 L i)) (ls ++ lA L i)) ?_ ?_ ?_
    · refine lc_sorted (fun _ y q => y = .int q.1.1) kind0 ss0.rep.r (fun Q q => ⟨_, rfl, q⟩) (by omega) (fun _ _ _ _ _ h => h) ?_ ?_
      · intro b q H8 N1 N2 hq k8 hb n1 n2
        walk_at "rd"
        refine bI ?_ ?_ <;> intro h0
        · walk_at "rd"
          exact n1 _ _ (Keep.refl _ _) rfl (decide_eq_true (by simpa using h0))
        · exact n2 _ (Keep.refl _ _) (decide_eq_false (by simpa using h0))
      · intro D H8 ys hD k8 e8 i8
        rw [paired_map (fun q : Itm => V.int q.1.1) i8] at e8
        exact hk D H8 k8 hD (sqL_of e8)
    · intro H2 k2
      refine ⟨⟨_, _, _, _, _, _, _, _, _, rfl⟩, ?_⟩
      have e : ls ++ lA L 0 = ls := List.append_nil _
      rw [e, linkA_zero]
      exact ss0.keep0 k2
    · rintro HG i x σ H3 hx ⟨⟨x3, x4, x5, x6, x7, x8, x9, x10, x11, rfl⟩, s3⟩ kG k3
      rw [List.getElem?_map] at hx
      cases en : (P0 L)[i]? with
      | none => rw [en] at hx; cases hx
      | some q =>
        rw [en] at hx
        obtain rfl := Option.some.inj hx
        obtain ⟨hqL, hqk, hlk, st1, st2⟩ := linkA_step sL pre.node en
        have hk0 : q.1.2.1 = 0 := by rw [hqk]; rfl
        have hi : i < (P0 L).length := (List.getElem?_eq_some_iff.mp en).1
        have hlen := len_linkA L (A0 L i)
        have hlA : (lA L i).length ≤ (P0 L).length := by
          unfold lA
          rw [List.length_map]
          have := List.length_filter_le (badLinks L) ((P0 L).take i)
          rw [List.length_take] at this
          omega
        have c3 := (c0.keep kG hcS).keep k3 hcS
        have gl : 0 < cnt L q.1.1 → ∀ H', IntD H' c (cntV (cnt L)) B → DGet H' c (.int q.1.1) (some (.int (cnt L q.1.1 : Nat))) := fun hp H' ci => by
          have := ci.get q.1.1
          have e : cntV (cnt L) q.1.1 = some (.int (cnt L q.1.1 : Nat)) := by unfold cntV; rw [if_neg (by omega)]
          rw [e] at this
          exact this
        have stay : badLinks L q = false → SS H3 d l (linkA L (A0 L (i + 1))) (ls ++ lA L (i + 1)) := fun hb => by
          obtain ⟨e1, e2⟩ := st2 hb
          rw [e1, e2]
          exact s3
        walk_at "rd"
        intro p4 hp4
        have s4 := s3.new (o := .tup (tv (nk q.1.1))) hp4
        have c4 := c3.new (o := .tup (tv (nk q.1.1))) hp4
        obtain ⟨a4, g4, t4⟩ := s4.rep.get (b := p4) T3.at hlk
        have k4 := k3.trans (Keep.new (S := [d, l]) (o := .tup (tv (nk q.1.1))) hp4)
        walk_at "rd"
        refine bI ?_ ?_ <;> intro hev
        · have hev' : q.2.1 % 2 = 0 := by simpa using hev
          have hpos := pre.pos q hqL hk0 hev'
          have gl4 := gl hpos _ c4
          walk_at "rd"
          refine bI ?_ ?_ <;> intro hne
          · have hne' : q.2.1 / 128000 ≠ (cnt L q.1.1 : Int) := by simpa using hne
            have hb : badLinks L q = true := decide_eq_true ⟨hk0, hev', hne'⟩
            obtain ⟨e1, e2⟩ := st1 hb
            have ev : (linkF L q).2 = (q.2.1 + 128000 * ((cnt L q.1.1 : Int) - q.2.1 / 128000), q.2.2) := by
              unfold linkF
              rw [if_pos hb]
            rw [e1, e2, ev, ← List.append_assoc]
            walk_at "rd"
            intro p5 hp5
            have s5 := s4.new (o := .tup [.str "links", .int q.1.1, .int (q.2.1 / 128000), .int (cnt L q.1.1 : Nat)]) hp5
            have c5 := c4.new (o := .tup [.str "links", .int q.1.1, .int (q.2.1 / 128000), .int (cnt L q.1.1 : Nat)]) hp5
            obtain ⟨ys, a1, a2, s6, k6, t6⟩ := s5.app (m := .links q.1.1 (q.2.1 / 128000) (cnt L q.1.1)) (x := .ref p5) ⟨p5, rfl, upd_same⟩ (by rw [List.length_append]; omega)
            have c6 := c5.keep k6 hcS
            have gl6 := gl hpos _ c6
            have k6' := (k4.trans (Keep.new (o := .tup [.str "links", .int q.1.1, .int (q.2.1 / 128000), .int (cnt L q.1.1 : Nat)]) hp5)).trans k6
            walk_at "rd"
            intro p7 hp7
            have s7 := s6.new (o := .tup (tv (nk q.1.1))) hp7
            obtain ⟨a7, g7, t7⟩ := s7.rep.get (b := p7) T3.at hlk
            walk_at "rd"
            intro p8 hp8
            have s8 := s7.new (o := .tup [.int (q.2.1 + 128000 * ((cnt L q.1.1 : Int) - q.2.1 / 128000)), .int q.2.2]) hp8
            walk_at "rd"
            intro p9 hp9
            have s9 := s8.new (o := .tup (tv (nk q.1.1))) hp9
            obtain ⟨H10, g10, s10, k10, t10⟩ := s9.put (k := nk q.1.1) (a := p8) (v := (q.2.1 + 128000 * ((cnt L q.1.1 : Int) - q.2.1 / 128000), q.2.2)) T3.at ((T2.at (a := q.2.1 + 128000 * ((cnt L q.1.1 : Int) - q.2.1 / 128000)) (b := q.2.2)).new hp9) (by omega)
            walk_at "rd"
            exact ⟨(((k6'.trans (Keep.new hp7)).trans (Keep.new hp8)).trans (Keep.new hp9)).trans k10, ⟨_, _, _, _, _, _, _, _, _, rfl⟩, s10⟩
          · have hb : badLinks L q = false := decide_eq_false fun z => by
              have hne' : q.2.1 / 128000 = (cnt L q.1.1 : Int) := by simpa using hne
              exact z.2.2 hne'
            exact ⟨k4, ⟨_, _, _, _, _, _, _, _, _, rfl⟩, (stay hb).new hp4⟩
        · have hb : badLinks L q = false := decide_eq_false fun z => by
            have hev' : q.2.1 % 2 ≠ 0 := by simpa using hev
            exact hev' z.2.1
          exact ⟨k4, ⟨_, _, _, _, _, _, _, _, _, rfl⟩, (stay hb).new hp4⟩
    · rintro σ H3 k3 ⟨⟨x3, x4, x5, x6, x7, x8, x9, x10, x11, rfl⟩, s3⟩
      rw [List.length_map, linkA_all, lA_all] at s3
      have hlS : (linkS L).length = L.length := by unfold linkS; rw [List.length_map]
      have hlLs := len_linkLs L
      have hso := len_owners (linkS L)
      have preS := pre.sums
      generalize linkS L = M at *
      have hll : (ls ++ linkLs L).length < 61000 := by rw [List.length_append]; omega
      generalize ls ++ linkLs L = li at *
      have sM := s3.rep.srt
      walk_at "rd"
      refine ⟨d, M, rfl, s3.rep, by omega, preS, fun H4 cs hcs k4 cS => ?_⟩
      have s4 := s3.keep0 k4
      have csd := cS.neT s4.rep
      have csl := cS.neL s4.los
      dsimp only [gName, tSeq, tAsg, tCall, tCons]
      refine lc_keysT (fun H y q => IB H y q.1.2.2) (fun q => decide (q.1.2.1 = 4)) s4.rep (fun H1 Q q => ⟨_, rfl, q⟩) (by omega) (fun H H' x q k ⟨a, h1, h2⟩ => ⟨a, h1, k _ _ h2⟩) ?_ ?_
      · intro b q H8 N1 N2 hq hb n1 n2
        walk_at "rd"
        refine bI ?_ ?_ <;> intro h0
        · walk_at "rd"
          intro p hp
          exact n1 _ _ (Keep.new hp) ⟨p, rfl, upd_same⟩ (decide_eq_true (by simpa using h0))
        · exact n2 _ (Keep.refl _ _) (decide_eq_false (by simpa using h0))
      intro D H5 ys M' pm hD k5 e5 i5
      have hlk : (ownK M').length ≤ M.length := by
        unfold ownK
        rw [List.length_map, ← pm.length_eq]
        exact List.length_filter_le _ _
      refine ⟨D, ys, ownK M', rfl, e5, paired_mapR (fun q : Itm => q.1.2.2) i5, by omega, fun H6 ow k6 how cO => ?_⟩
      have s6 := (s4.keep0 k5).keep0 k6
      have cS6 := (cS.keep k5 (by simp)).keep k6 (by simp)
      have owd := cO.neT s6.rep
      have owl := cO.neL s6.los
      have owcs : ow ≠ cs := fun e => by
        obtain ⟨_, e1, _⟩ := cS.keep k5 (by simp)
        rw [e, e1] at how
        cases how
      dsimp only [gName, tSeq]
      refine for_keysK cS6 (fun H1 Q q => ⟨_, rfl, q⟩) (S := [ow]) (by simpa using owcs.symm) (fun R σ H' => (∃ x8 x9 x10 x11, σ = [some (.ref d), some (.ref c), some (.ref l), x3, x4, x5, some (.ref cs), some (.ref ow), x8, x9, x10, x11]) ∧
        IntD H' ow (fun n => if n ∈ ownK M' ∨ n ∈ R then some (.bl true) else none) ((ownK M').length + R.length)) ?_ ?_ ?_
      · intro HL hHL
        refine ⟨⟨_, _, _, _, rfl⟩, ?_⟩
        obtain ⟨kvs, e1, e2, e3⟩ := cO
        exact ⟨kvs, by rw [hHL ow owcs]; exact e1, fun n => by rw [e2]; simp, e3⟩
      · rintro G R n σ H7 rt bk hn ⟨⟨x8, x9, x10, x11, rfl⟩, cj⟩ k7 hlen
        have hR : R.length + 1 ≤ M.length := by rw [List.length_append] at hlen; simpa using hlen
        obtain ⟨u, p1, p2, p3⟩ := cj.put n (.bl true) (by omega)
        walk_at "rd"
        refine ⟨k7.trans (Keep.set (by simp)), ⟨_, _, _, _, rfl⟩, p2.mono (fun m => ?_) (by simp; omega)⟩
        by_cases e : m = n
        · simp [e]
        · simp [e]
      rintro R σ H7 H8 hR ⟨⟨x8, x9, x10, x11, rfl⟩, cj⟩ e8 cS8 k8
      have cO8 : IntD H8 ow (fun n => if n ∈ ownK M' ∨ n ∈ R then some (.bl true) else none) ((ownK M').length + R.length) := by
        obtain ⟨kvs, e1, e2⟩ := cj
        exact ⟨kvs, by rw [e8 ow owcs]; exact e1, e2⟩
      have ntO : NoTup [ow] H6 := by
        obtain ⟨_, e1, _⟩ := cO
        exact .one e1 fun _ z => nomatch z
      have s8 := s6.keepO k8 ntO (by simpa using owd.symm) (by simpa using owl.symm)
      have k38 : Keep [d, l] H3 H8 := by
        have kk : Keep [ow] H3 H8 := (((k4.mono (by simp)).trans (k5.mono (by simp))).trans (k6.mono (by simp))).trans k8
        have how3 : H3 ow = none := (k4.trans k5).free how (by simp)
        exact (kk.drop how3).mono (by simp)
      have csS : cs ∉ [d, l] := by simp [csd, csl]
      dsimp only [gName, tSeq]
      refine for_sortedI cO8 (srt_owners M) (fun n => ?_) (fun Q q => ⟨_, rfl, q⟩) (S := [d, l]) s8.there (fun i σ H' => (∃ x8 x9 x10 x11, σ = [some (.ref d), some (.ref c), some (.ref l), x3, x4, x5, some (.ref cs), some (.ref ow), x8, x9, x10, x11]) ∧ SS H' d l (chg (usedI M) ((owners M).take i) M) (li ++ chgLs (usedI M) ((owners M).take i) M)) ?_ ?_ ?_
      · rw [owners_iff]
        have e1 := mem_ownK pm n
        have e2 := hR n
        have e3 : cntV (used M) n ≠ none ↔ 0 < used M n := by
          unfold cntV
          by_cases z : used M n = 0
          · simp [z]
          · simp [z]; omega
        by_cases z : n ∈ ownK M' ∨ n ∈ R
        · rw [if_pos z]
          refine ⟨fun _ => by simp, fun _ => ?_⟩
          rcases z with z | z
          · exact .inl (e1.mp z)
          · exact .inr (e3.mp (e2.mp z))
        · rw [if_neg z]
          refine ⟨fun y => absurd ?_ z, fun y => absurd rfl y⟩
          rcases y with y | y
          · exact .inl (e1.mpr y)
          · exact .inr (e2.mpr (e3.mpr y))
      · intro p o hp
        refine ⟨⟨_, _, _, _, rfl⟩, ?_⟩
        have e : li ++ chgLs (usedI M) ((owners M).take 0) M = li := List.append_nil _
        rw [e]
        exact s8.new hp
      · rintro HG i o σ H9 hq ⟨⟨x8, x9, x10, x11, rfl⟩, s9⟩ kG k9
        have cs9 := (cS8.keep kG csS).keep k9 csS
        have tq : (owners M).take (i + 1) = (owners M).take i ++ [o] := by rw [List.take_add_one, hq]; rfl
        have hlen := len_chg (usedI M) ((owners M).take i) M
        have hlen2 := len_chgLs (usedI M) ((owners M).take i) M
        have hlt : ((owners M).take i).length ≤ (owners M).length := by rw [List.length_take]; omega
        have hl2 : (li ++ chgLs (usedI M) ((owners M).take i) M).length < 95000 := by rw [List.length_append]; omega
        have hl1 : (chg (usedI M) ((owners M).take i) M).length < 90000 := by omega
        rw [tq, chg_snoc, chgLs_snoc, ← List.append_assoc]
        generalize chg (usedI M) ((owners M).take i) M = Mi at *
        generalize li ++ chgLs (usedI M) ((owners M).take i) M = lj at *
        have sMi := s9.rep.srt
        have hisd := s9.rep.isD
        walk_at "rd"
        intro p hp
        have ss2 := s9.new (o := .tup (tv (ck o))) hp
        walk_at "rd"
        intro p2 hp2
        have ss3 := ss2.new (o := .tup [.int 0, .int 0]) hp2
        have hb : T3 (upd (upd H9 p (.tup (tv (ck o)))) p2 (.tup [.int 0, .int 0])) p (ck o) := (T3.at (H := H9)).new hp2
        obtain ⟨ov, a, g1, g2, t2⟩ : ∃ ov a, DGet (upd (upd H9 p (.tup (tv (ck o)))) p2 (.tup [.int 0, .int 0])) d (.ref p) ov ∧ ov.getD (.ref p2) = .ref a ∧ T2 (upd (upd H9 p (.tup (tv (ck o)))) p2 (.tup [.int 0, .int 0])) a (oldC Mi o) := by
          obtain ⟨o, h1, h2⟩ := ss3.rep.get? hb
          rcases h2 with ⟨rfl, e⟩ | ⟨a, v, rfl, e, t⟩
          · refine ⟨_, p2, h1, rfl, ?_⟩
            unfold oldC
            rw [e]
            exact T2.at
          · refine ⟨_, a, h1, rfl, ?_⟩
            unfold oldC
            rw [e]
            exact t
        refine ⟨ov, g1, ?_⟩
        rw [g2]
        have t2' : (upd (upd H9 p (.tup (tv (ck o)))) p2 (.tup [.int 0, .int 0])) a = some (.tup [.int (oldC Mi o).1, .int (oldC Mi o).2]) := t2
        have c3 := (cs9.new (o := .tup (tv (ck o))) hp).new (o := .tup [.int 0, .int 0]) hp2
        have isc := c3.isD
        obtain ⟨oz, z1, z2⟩ := c3.getZ o
        walk_at "rd"
        refine ⟨oz, z1, ?_⟩
        rw [z2]
        walk_at "rd"
        have k3' := (k9.trans (Keep.new (o := .tup (tv (ck o))) hp)).trans (Keep.new (o := .tup [.int 0, .int 0]) hp2)
        by_cases hne : (oldC Mi o).1 = usedI M o
        · refine nF (congrArg V.int hne) ?_
          have e : chgS (usedI M) Mi o = Mi := if_pos hne
          rw [e, if_pos hne, List.append_nil]
          exact ⟨k3', ⟨_, _, _, _, rfl⟩, ss3⟩
        · refine nT (fun z => hne (V.int.inj z)) ?_
          rw [if_neg hne]
          walk_at "rd"
          intro p4 hp4
          have ss4 := ss3.new (o := .tup [.str "charge", .int o, .int (oldC Mi o).1, .int (used M o : Nat)]) hp4
          obtain ⟨ys4, a1, a2, ss5, k5', t5⟩ := ss4.app (m := .charge o (oldC Mi o).1 (used M o : Nat)) (x := .ref p4) ⟨p4, rfl, upd_same⟩ (by omega)
          have tk4 := (TupK.new (o := .tup [.str "charge", .int o, .int (oldC Mi o).1, .int (used M o : Nat)]) hp4).trans t5
          have t5' := tk4 _ _ t2'
          have kk5 := (k3'.trans (Keep.new (o := .tup [.str "charge", .int o, .int (oldC Mi o).1, .int (used M o : Nat)]) hp4)).trans k5'
          walk_at "rd"
          intro p6 hp6
          have ss6 := ss5.new (o := .tup [.int (used M o : Nat), .int (oldC Mi o).2]) hp6
          have t6' := (TupK.new (o := .tup [.int (used M o : Nat), .int (oldC Mi o).2]) hp6) _ _ t5'
          walk_at "rd"
          intro p7 hp7
          have ss7 := ss6.new (o := .tup (tv (ck o))) hp7
          have t7' := (TupK.new (o := .tup (tv (ck o))) hp7) _ _ t6'
          obtain ⟨H8', g8, ss8, k8', t8⟩ := ss7.put (k := ck o) (a := p6) (v := ((used M o : Nat), (oldC Mi o).2)) T3.at ((T2.at (a := (used M o : Nat)) (b := (oldC Mi o).2)).new hp7) (by omega)
          have t8' := t8 _ _ t7'
          have kk8 := ((kk5.trans (Keep.new hp6)).trans (Keep.new hp7)).trans k8'
          walk_at "rd"
          by_cases hz : usedI M o = 0
          · refine dT (congrArg V.int hz) ?_
            walk_at "rd"
            by_cases hz2 : (oldC Mi o).2 = 0
            · refine dT (congrArg V.int hz2) ?_
              have e : chgS (usedI M) Mi o = del Mi (ck o) := by
                unfold chgS
                rw [if_neg hne, if_pos ⟨hz, hz2⟩]
              rw [e]
              have tyd := ss8.tyD (K := K)
              walk_at "rd"
              intro p10 hp10
              have ss10 := ss8.new (o := .tup (tv (ck o))) hp10
              obtain ⟨kvs, y, g3, g4, g5, ss11, k11, t11⟩ := ss10.del (b := p10) (k := ck o) (v := ((used M o : Nat), (oldC Mi o).2)) T3.at (by rw [lk_put sMi, if_pos rfl])
              refine ⟨d, kvs, tk (ck o), p10, y, rfl, rfl, g3, g4, g5, ?_⟩
              rw [del_put sMi] at ss11
              exact ⟨(kk8.trans (Keep.new hp10)).trans k11, ⟨_, _, _, _, rfl⟩, ss11⟩
            · refine dF (fun z => hz2 (V.int.inj z)) ?_
              have e : chgS (usedI M) Mi o = put Mi (ck o) (usedI M o, (oldC Mi o).2) := by
                unfold chgS
                rw [if_neg hne, if_neg (fun z => hz2 z.2)]
              rw [e]
              exact ⟨kk8, ⟨_, _, _, _, rfl⟩, ss8⟩
          · refine dF (fun z => hz (V.int.inj z)) ?_
            have e : chgS (usedI M) Mi o = put Mi (ck o) (usedI M o, (oldC Mi o).2) := by
              unfold chgS
              rw [if_neg hne, if_neg (fun z => hz z.1)]
            rw [e]
            exact ⟨kk8, ⟨_, _, _, _, rfl⟩, ss8⟩
      · rintro σ H9 k9 ⟨_, s9⟩
        rw [List.take_length] at s9
        exact q H9 ((k3.trans k38).trans k9) s9
end
end K41

/-! The law's own mending: due. -/
namespace K41
open PySem PySem.Spec PyProof.Rows L2 TL
theorem Left.count {L : List Itm} (h : Left L) : CountPre (m4 L) := by
  obtain ⟨rk, R, M⟩ := h.movPre
  have M4 : Mov rk (m4 L) [] := M.all R
  have S := M4.snd R
  refine ⟨fun p m e => nk_of (v := p.2) (M4.fit p.1 p.2 m) e, fun p m e ev => ?_, ⟨fun p m e => nk_of (v := p.2) (S.fit p.1 p.2 m) e, fun p m e => ?_⟩⟩
  · have hk := nk_of (v := p.2) (M4.fit p.1 p.2 m) e
    have m' : (nk p.1.1, p.2) ∈ m4 L := by rw [← hk]; exact m
    have n1 : p.1.1 ≠ 1 := fun z => by
      obtain ⟨w, hw, h1, _⟩ := M4.root
      rw [z] at m'
      have := mem_one M4.srt m' hw
      rw [this] at ev
      omega
    exact (M4.good _ _ n1 m' (by simp)).1
  · rcases S.fit p.1 p.2 m with f | ⟨f1, _, w, f, _⟩
    · have := f.2.1; omega
    · exact ⟨f1, w, lk_of_mem S.srt f⟩
section
variable {P : Program} {w : World} {K : PySem.W.Frag} {mg : Str → Option Value} {base : Heap}
local macro_rules | `(tactic| walk_at "rd") => `(tactic| repeat (first | refine ⟨_, rfl, ?_⟩ | refine ⟨_, _, rfl, rfl, ?_⟩ | refine ⟨_, _, rfl, ?_⟩ | refine ⟨_, _, _, rfl, ?_⟩ | refine ⟨_, _, _, _, rfl, ?_⟩ | refine ⟨rfl, ?_⟩ | refine ⟨(by show (0 : Int) < _; decide), ?_⟩ | refine ⟨cdw (by decide) (by decide), ?_⟩ | refine ⟨Or.inl (by decide), ?_⟩ | refine ⟨Or.inr (by decide), ?_⟩ | refine And.intro len4v ?_ | refine And.intro len3v ?_ | refine And.intro len2v ?_ | refine And.intro len1v ?_ | refine And.intro len0v ?_ | refine And.intro (by assumption) ?_ | refine And.intro (SS.ty (by assumption)) ?_ | refine And.intro (tyL (by assumption)) ?_ | refine ⟨_, _, _, _, rfl, rfl, sqT_of (by assumption), (by rfl), ?_⟩ | refine ⟨_, _, _, rfl, rfl, (by assumption), (by assumption), ?_⟩ | refine ⟨_, _, rfl, (by assumption), ?_⟩ | refine ⟨_, _, _, _, _, rfl, (by assumption), rfl, (by assumption), (by assumption), ?_⟩ | refine And.intro (IntD.isD (by assumption)) ?_ | refine And.intro (Rep.isD (by assumption)) ?_ | refine ⟨_, _, rfl, sqT_of (by assumption), (by rfl), ?_⟩ | refine ⟨_, _, _, _, rfl, rfl, sqL_of (by assumption), (by rfl), ?_⟩ | refine ⟨_, _, _, _, rfl, rfl, sqL_of upd_same, (by rfl), ?_⟩ | refine ⟨_, _, rfl, Or.inl (sqL_of (by assumption)), ?_⟩ | refine ⟨_, _, _, _, rfl, rfl, upd_same, (by rfl), ?_⟩ | refine ⟨_, _, _, _, rfl, rfl, (by assumption), (by rfl), ?_⟩ | refine ⟨⟨by decide, by decide, by decide⟩, ?_⟩ | refine And.intro (lenNv (by simp only [List.length_cons, List.length_nil]; omega)) ?_))
abbrev s__law_due : Stmt := top 57
theorem sc__law_due : FnScope ["items", "losses", "left", "leads", "key"] ["items"] (defScope s__law_due) := ⟨rfl, rfl, rfl, by decide +kernel, rfl, by decide +kernel, by decide +kernel⟩
theorem ok__law_due {f : Addr} {fd : FuncData} (F : Fun K "_law_due" "_law_due" s__law_due f fd) (T : Txt mg) (C__law_cleared : Cl P w K mg base 2 "_law_cleared" ["items", "losses"] spCleared) (C__law_moved : Cl P w K mg base 2 "_law_moved" ["left", "losses"] spMoved)
    (C__law_counted : Cl P w K mg base 2 "_law_counted" ["left", "leads", "losses"] spCounted) : FnOk P w K mg base CX0 3 f fd ["items"] spMend := by
  refine F.ok sc__law_due (fun vs H Q E h => ?_) (fun cdv A outer s H vs Q E hr h => ?_)
  · obtain ⟨_, _, _, rfl, _⟩ := h
    rfl
  · obtain ⟨a, xs, L, rfl, ha, it, hL, lf, q⟩ := h
    refine ⟨_, (pss_cons (ps_set (i := 1) sc__law_due.nd rfl (Or.inl rfl) (pe_lst pa_nil))
  (pss_cons (ps_set (i := 2) sc__law_due.nd rfl (Or.inr rfl) (pe_own C__law_cleared hr (by decide) rfl (pa_cons (pv 0) (pa_cons (pv 1) pa_nil))))
  (pss_cons (ps_set (i := 3) sc__law_due.nd rfl (Or.inl rfl) (pe_own C__law_moved hr (by decide) rfl (pa_cons (pv 2) (pa_cons (pv 1) pa_nil))))
  (pss_cons (ps_expr (pe_own C__law_counted hr (by decide) rfl (pa_cons (pv 2) (pa_cons (pv 3) (pa_cons (pv 1) pa_nil)))))
  (pss_one (ps_ret (pe_tup (pa_cons (pe_lc (own := [("key", 4)]) (g := gName 4) (tt := tYes) rfl sc__law_due.nd (pi_list (pe_callB (cr_sortD rfl) (by rfl) T.b_sorted (by decide +kernel) (pa_cons (pv 2) pa_nil))) (blkOk_by (N := ["items", "losses", "left", "leads", "key"]) (sc := defScope s__law_due) (by decide +kernel)) (fun _ _ _ _ _ => pg_name (i := 4) sc__law_due.nd rfl (Or.inl rfl)) (fun _ _ _ _ _ => pts_nil) (fun _ _ _ _ _ => (pe_tup (pa_cons (pv 4) (pa_cons (pe_dget (hu_of hr) (pv 2) (pv 4) (fun _ _ => rfl)) pa_nil))))) (pa_cons (pv 1) pa_nil))))))))), ?_⟩
    have h1 := len_m1 L
    have h2 := len_m2 L
    have h3 := len_m3 L
    have h4 := len_m4 L
    have h6 := len_m6 L
    have g1 := len_rootLs L
    have g2 := len_itemLs (m1 L)
    have g3 := len_entLs (m2 L)
    have g4 := mvLs_len (orphans (m3 L)) (m3 L)
    have g4' := len_orph (m3 L)
    walk_at "rd"
    intro l hl
    have hal : a ≠ l := ne_of_none ha hl
    have ha1 : upd H l (.lst []) a = some (.lst xs) := by rw [upd_ne hal]; exact ha
    walk_at "rd"
    refine ⟨a, l, xs, L, rfl, ha1, Items.keep (TupK.new hl) it, upd_same, hal, hL, lf, fun H1 d k1 hd s1 => ?_⟩
    have hd0 : H d = none := (Keep.new (S := []) (o := .lst []) hl).free hd (by simp)
    walk_at "rd"
    refine ⟨d, l, m3 L, _, rfl, s1, by omega, by simp; omega, lf.movPre, fun H2 c k2 hc s2 c2 => ?_⟩
    walk_at "rd"
    refine ⟨d, c, l, m4 L, _, _, rfl, s2, c2, by omega, by simp; omega, lf.count, fun H3 k3 s3 => ?_⟩
    dsimp only [tRet, tTup, tCons]
    have s3' : SS H3 d l (m6 L) (losses L) := s3
    have kall : Keep [] H H3 := by
      have kk : Keep [l, d] H H3 := (((Keep.new (o := .lst []) hl).trans (k1.mono (by simp))).trans (k2.mono (by simp [or_comm]))).trans (k3.mono (by simp [or_comm]))
      intro z u e _
      exact kk z u e (by simp only [List.mem_cons, List.not_mem_nil, or_false]; rintro (rfl | rfl) <;> simp_all)
    refine lc_sorted ItemAt (fun _ => true) s3'.rep.r (fun Q q => ⟨_, rfl, q⟩) (by omega) (fun H H' x q k r => r.keep k) ?_ ?_
    · intro b q H8 N1 N2 hq k8 hb n1 n2
      have s8 := s3'.keep0 k8
      obtain ⟨a9, g9, t9⟩ := s8.rep.get hb (lk_of_mem s8.rep.srt hq)
      walk_at "rd"
      intro p hp
      exact n1 _ _ (Keep.new hp) ⟨p, b, a9, rfl, upd_same, hb.new hp, t9.new hp⟩ rfl
    · intro D H8 ys hD k8 e8 i8
      obtain ⟨zs, z1, z2⟩ := s3'.los
      walk_at "rd"
      intro p hp
      have tk9 : TupK H8 (upd H8 p (.tup [.ref D, .ref l])) := TupK.new hp
      have z1' := k8.at z1 (by simp)
      refine q _ p D l ys zs ((kall.trans k8).trans (Keep.new hp)) (kall.free hD (by simp)) upd_same ?_ ?_ ?_ ?_
      · rw [upd_ne (ne_of_none e8 hp)]
        exact e8
      · have e : (m6 L).filter (fun _ => true) = m6 L := List.filter_eq_self.mpr fun _ _ => rfl
        rw [e] at i8
        exact Items.keep tk9 i8
      · rw [upd_ne (ne_of_none z1' hp)]
        exact z1'
      · exact Paired.mapP z2 fun _ _ r => (r.keep (k8.tup (NoTup.nil _))).keep tk9
end
end K41

/-! Alike. -/
namespace K41
open PySem PySem.Spec PyProof.Rows L2 TL
/-- two values alike: the same int, the same text, or two tuples or two lists of alike things -/
def Aln (Al : Hp → V → V → Prop) (H : Hp) (x y : V) : Prop :=
  (∃ i, x = .int i ∧ y = .int i) ∨ (∃ z, x = .str z ∧ y = .str z) ∨
  (∃ a b xs ys, x = .ref a ∧ y = .ref b ∧ H a = some (.tup xs) ∧ H b = some (.tup ys) ∧ xs.length < 100000 ∧ Paired (Al H) xs ys) ∨
  ∃ a b xs ys, x = .ref a ∧ y = .ref b ∧ H a = some (.lst xs) ∧ H b = some (.lst ys) ∧ xs.length < 100000 ∧ Paired (Al H) xs ys
def spAl (Al : Hp → V → V → Prop) : Sp := fun vs H Q _ => ∃ x y, vs = [x, y] ∧ Al H x y ∧ Q (.bl true) H
theorem kii : kitB "int" "str" = some false ∧ kitB "int" "int" = some true ∧ kitB "int" "bool" = some false ∧ kitB "str" "str" = some true ∧ kitB "tuple" "str" = some false ∧ kitB "tuple" "int" = some false ∧ kitB "tuple" "list" = some false ∧ kitB "tuple" "tuple" = some true ∧
    kitB "list" "str" = some false ∧ kitB "list" "int" = some false ∧ kitB "list" "list" = some true ∧ kitB "list" "tuple" = some false := by decide +kernel
section
variable {P : Program} {w : World} {K : PySem.W.Frag} {mg : Str → Option Value} {base : Heap}
local macro_rules | `(tactic| walk_at "rd") => `(tactic| repeat (first | refine ⟨_, rfl, ?_⟩ | refine ⟨_, _, rfl, rfl, ?_⟩ | refine ⟨_, _, rfl, ?_⟩ | refine ⟨_, _, _, rfl, ?_⟩ | refine ⟨_, _, _, _, rfl, ?_⟩ | refine ⟨rfl, ?_⟩ | refine ⟨(by show (0 : Int) < _; decide), ?_⟩ | refine ⟨cdw (by decide) (by decide), ?_⟩ | refine ⟨Or.inl (by decide), ?_⟩ | refine ⟨Or.inr (by decide), ?_⟩ | refine And.intro len4v ?_ | refine And.intro len3v ?_ | refine And.intro len2v ?_ | refine And.intro len1v ?_ | refine And.intro len0v ?_ | refine And.intro (by assumption) ?_ | refine And.intro (SS.ty (by assumption)) ?_ | refine And.intro (tyL (by assumption)) ?_ | refine ⟨_, _, _, _, rfl, rfl, sqT_of (by assumption), (by rfl), ?_⟩ | refine ⟨_, _, _, rfl, rfl, (by assumption), (by assumption), ?_⟩ | refine ⟨_, _, rfl, (by assumption), ?_⟩ | refine ⟨_, _, _, _, _, rfl, (by assumption), rfl, (by assumption), (by assumption), ?_⟩ | refine And.intro (IntD.isD (by assumption)) ?_ | refine And.intro (Rep.isD (by assumption)) ?_ | refine ⟨_, _, rfl, sqT_of (by assumption), (by rfl), ?_⟩ | refine ⟨_, _, _, _, rfl, rfl, sqL_of (by assumption), (by rfl), ?_⟩ | refine ⟨_, _, _, _, rfl, rfl, sqL_of upd_same, (by rfl), ?_⟩ | refine ⟨_, _, rfl, Or.inl (sqL_of (by assumption)), ?_⟩ | refine ⟨_, _, _, _, rfl, rfl, upd_same, (by rfl), ?_⟩ | refine ⟨_, _, _, _, rfl, rfl, (by assumption), (by rfl), ?_⟩ | refine ⟨⟨by decide, by decide, by decide⟩, ?_⟩ | refine And.intro (lenNv (by simp only [List.length_cons, List.length_nil]; omega)) ?_))
abbrev s__law_alike : Stmt := top 58
theorem sc__law_alike : FnScope ["told", "due", "k"] ["told", "due"] (defScope s__law_alike) := ⟨rfl, rfl, rfl, by decide +kernel, rfl, by decide +kernel, by decide +kernel⟩
theorem ok__law_alike {f : Addr} {fd : FuncData} (F : Fun K "_law_alike" "_law_alike" s__law_alike f fd) (T : Txt mg) (n : Nat) (Al : Hp → V → V → Prop) (sp0 : Sp) (C__law_alike_R : Cl P w K mg base n "_law_alike" ["told", "due"] sp0)
    (h0 : ∀ x y H Q E, Al H x y → Q (.bl true) H → sp0 [x, y] H Q E) : FnOk P w K mg base CX0 (n + 1) f fd ["told", "due"] (spAl (Aln Al)) := by
  refine F.ok sc__law_alike (fun vs H Q E h => ?_) (fun cdv A outer s H vs Q E hr h => ?_)
  · obtain ⟨_, _, rfl, _⟩ := h
    rfl
  · obtain ⟨x, y, rfl, al, q⟩ := h
    refine ⟨_, (pss_cons (ps_if (pt_val (pe_callB call_isi (by rfl) T.b_isinstance (by decide +kernel) (pa_cons (pv 1) (pa_cons (pe_bltn (v := .ty "str") (by rfl) T.b_str (by decide +kernel) rfl) pa_nil))))
  (pss_one (ps_ret (pe_and (pe_callB call_isi (by rfl) T.b_isinstance (by decide +kernel) (pa_cons (pv 0) (pa_cons (pe_bltn (v := .ty "str") (by rfl) T.b_str (by decide +kernel) rfl) pa_nil))) (pe_one (pe_cmpR op_eq (pv 0) (pv 1) (nomark _))))))
  pss_nil)
  (pss_cons (ps_if (pt_val (pe_callB call_isi (by rfl) T.b_isinstance (by decide +kernel) (pa_cons (pv 1) (pa_cons (pe_bltn (v := .ty "int") (by rfl) T.b_int (by decide +kernel) rfl) pa_nil))))
  (pss_one (ps_ret (pe_and (pe_callB call_isi (by rfl) T.b_isinstance (by decide +kernel) (pa_cons (pv 0) (pa_cons (pe_bltn (v := .ty "int") (by rfl) T.b_int (by decide +kernel) rfl) pa_nil))) (pe_and (pe_not (pe_callB call_isi (by rfl) T.b_isinstance (by decide +kernel) (pa_cons (pv 0) (pa_cons (pe_bltn (v := .ty "bool") (by rfl) T.b_bool (by decide +kernel) rfl) pa_nil)))) (pe_one (pe_cmpR op_eq (pv 0) (pv 1) (nomark _)))))))
  pss_nil)
  (pss_cons (ps_if (PW.pt (pw_and (pt_val (pe_callB call_isi (by rfl) T.b_isinstance (by decide +kernel) (pa_cons (pv 1) (pa_cons (pe_bltn (v := .ty "list") (by rfl) T.b_list (by decide +kernel) rfl) pa_nil)))) (pw_and1 (pt_not (pt_val (pe_callB call_isi (by rfl) T.b_isinstance (by decide +kernel) (pa_cons (pv 0) (pa_cons (pe_bltn (v := .ty "list") (by rfl) T.b_list (by decide +kernel) rfl) pa_nil))))))))
  (pss_one (ps_ret pe_bl))
  pss_nil)
  (pss_cons (ps_if (PW.pt (pw_and (pt_val (pe_callB call_isi (by rfl) T.b_isinstance (by decide +kernel) (pa_cons (pv 1) (pa_cons (pe_bltn (v := .ty "tuple") (by rfl) T.b_tuple (by decide +kernel) rfl) pa_nil)))) (pw_and1 (pt_not (pt_val (pe_callB call_isi (by rfl) T.b_isinstance (by decide +kernel) (pa_cons (pv 0) (pa_cons (pe_bltn (v := .ty "tuple") (by rfl) T.b_tuple (by decide +kernel) rfl) pa_nil))))))))
  (pss_one (ps_ret pe_bl))
  pss_nil)
  (pss_cons (ps_if (pt_cmpR op_ne (pe_callB call_len_seq (by rfl) T.b_len (by decide +kernel) (pa_cons (pv 0) pa_nil)) (pe_callB call_len_seq (by rfl) T.b_len (by decide +kernel) (pa_cons (pv 1) pa_nil)) (nomark _))
  (pss_one (ps_ret pe_bl))
  pss_nil)
  (pss_cons (ps_for PassesOwn.never rfl (pi_range1 rfl T.b_range (pa_cons (pe_callB call_len_seq (by rfl) T.b_len (by decide +kernel) (pa_cons (pv 1) pa_nil)) pa_nil)) (pg_name (i := 2) sc__law_alike.nd rfl (Or.inl rfl))
  (pss_one (ps_if (pt_not (pt_val (pe_own C__law_alike_R hr (Nat.le_refl _) rfl (pa_cons (pe_ix ix_seq (pv 0) (pv 2) (fun _ _ => rfl)) (pa_cons (pe_ix ix_seq (pv 1) (pv 2) (fun _ _ => rfl)) pa_nil)))))
  (pss_one (ps_ret pe_bl))
  pss_nil)))
  (pss_one (ps_ret pe_bl)))))))), ?_⟩
    obtain ⟨k1, k2, k3, k4, k5, k6, k7, k8, k9, k10, k11, k12⟩ := kii
    rcases al with ⟨i, rfl, rfl⟩ | ⟨z, rfl, rfl⟩ | ⟨a, b, xs, ys, rfl, rfl, e1, e2, hl, pr⟩ | ⟨a, b, xs, ys, rfl, rfl, e1, e2, hl, pr⟩
    · have ti : TyX K H (.int i) (.type "int") := .base (.int i)
      walk_at "rd"
      refine ⟨_, _, _, _, _, rfl, ClsV.ty _, ti, kit_ty k1, ?_⟩
      walk_at "rd"
      refine ⟨_, _, _, _, _, rfl, ClsV.ty _, ti, kit_ty k2, ?_⟩
      walk_at "rd"
      refine ⟨_, _, _, _, _, rfl, ClsV.ty _, ti, kit_ty k2, ?_⟩
      walk_at "rd"
      refine ⟨_, _, _, _, _, rfl, ClsV.ty _, ti, kit_ty k3, ?_⟩
      walk_at "rd"
      have e : decide (V.int i = V.int i) = true := decide_eq_true rfl
      show Q (.bl (decide (V.int i = V.int i))) H
      rw [e]
      exact q
    · have ti : TyX K H (.str z) (.type "str") := .base (.str z)
      walk_at "rd"
      refine ⟨_, _, _, _, _, rfl, ClsV.ty _, ti, kit_ty k4, ?_⟩
      walk_at "rd"
      refine ⟨_, _, _, _, _, rfl, ClsV.ty _, ti, kit_ty k4, ?_⟩
      walk_at "rd"
      have e : decide (V.str z = V.str z) = true := decide_eq_true rfl
      show Q (.bl (decide (V.str z = V.str z))) H
      rw [e]
      exact q
    · have ta : TyX K H (.ref a) (.type "tuple") := .base (.tup e1)
      have tb : TyX K H (.ref b) (.type "tuple") := .base (.tup e2)
      walk_at "rd"
      refine ⟨_, _, _, _, _, rfl, ClsV.ty _, tb, kit_ty k5, ?_⟩
      walk_at "rd"
      refine ⟨_, _, _, _, _, rfl, ClsV.ty _, tb, kit_ty k6, ?_⟩
      walk_at "rd"
      refine ⟨_, _, _, _, _, rfl, ClsV.ty _, tb, kit_ty k7, ?_⟩
      walk_at "rd"
      refine ⟨_, _, _, _, _, rfl, ClsV.ty _, tb, kit_ty k8, ?_⟩
      walk_at "rd"
      refine ⟨_, _, _, _, _, rfl, ClsV.ty _, ta, kit_ty k8, ?_⟩
      walk_at "rd"
      refine ⟨a, xs, rfl, Or.inr (sqT_of e1), ?_⟩
      walk_at "rd"
      refine ⟨b, ys, rfl, Or.inr (sqT_of e2), ?_⟩
      walk_at "rd"
      have hll : xs.length = ys.length := Paired.length pr
      refine nF (by rw [hll]) ?_
      walk_at "rd"
      refine ⟨b, ys, rfl, Or.inr (sqT_of e2), ?_⟩
      walk_at "rd"
      refine ⟨by omega, by omega, ?_⟩
      refine for_range (fun i σ H' => H' = H ∧ ∃ x2, σ = [some (.ref a), some (.ref b), x2]) ⟨rfl, _, rfl⟩ ?_ ?_
      · rintro i σ H' hi ⟨rfl, x2, rfl⟩
        have hi' : i < ys.length := by rw [Int.toNat_natCast] at hi; exact hi
        obtain ⟨y0, hy0⟩ : ∃ y0, ys[i]? = some y0 := ⟨ys[i], List.getElem?_eq_getElem hi'⟩
        obtain ⟨x0, hx0⟩ : ∃ x0, xs[i]? = some x0 := ⟨xs[i]'(by omega), List.getElem?_eq_getElem (by omega)⟩
        have hal := Paired.getR pr hx0 hy0
        have ax : atI xs (0 + (i : Int)) = some x0 := by rw [Int.zero_add]; exact atI_nat hx0
        have ay : atI ys (0 + (i : Int)) = some y0 := by rw [Int.zero_add]; exact atI_nat hy0
        refine ⟨_, rfl, _, rfl, ?_⟩
        refine Or.inr <| Or.inl ⟨a, _, 0 + (i : Int), _, rfl, rfl, sqT_of e1, ax, ?_⟩
        refine ⟨_, rfl, _, rfl, ?_⟩
        refine Or.inr <| Or.inl ⟨b, _, 0 + (i : Int), _, rfl, rfl, sqT_of e2, ay, ?_⟩
        refine h0 _ _ _ _ _ hal ?_
        walk_at "rd"
        exact ⟨_, rfl⟩
      · rintro σ H' ⟨rfl, x2, rfl⟩
        exact q
    · have ta : TyX K H (.ref a) (.type "list") := .base (.lst e1)
      have tb : TyX K H (.ref b) (.type "list") := .base (.lst e2)
      walk_at "rd"
      refine ⟨_, _, _, _, _, rfl, ClsV.ty _, tb, kit_ty k9, ?_⟩
      walk_at "rd"
      refine ⟨_, _, _, _, _, rfl, ClsV.ty _, tb, kit_ty k10, ?_⟩
      walk_at "rd"
      refine ⟨_, _, _, _, _, rfl, ClsV.ty _, tb, kit_ty k11, ?_⟩
      walk_at "rd"
      refine ⟨_, _, _, _, _, rfl, ClsV.ty _, ta, kit_ty k11, ?_⟩
      walk_at "rd"
      refine ⟨_, _, _, _, _, rfl, ClsV.ty _, tb, kit_ty k12, ?_⟩
      walk_at "rd"
      have hll : xs.length = ys.length := Paired.length pr
      refine nF (by rw [hll]) ?_
      walk_at "rd"
      refine ⟨by omega, by omega, ?_⟩
      refine for_range (fun i σ H' => H' = H ∧ ∃ x2, σ = [some (.ref a), some (.ref b), x2]) ⟨rfl, _, rfl⟩ ?_ ?_
      · rintro i σ H' hi ⟨rfl, x2, rfl⟩
        have hi' : i < ys.length := by rw [Int.toNat_natCast] at hi; exact hi
        obtain ⟨y0, hy0⟩ : ∃ y0, ys[i]? = some y0 := ⟨ys[i], List.getElem?_eq_getElem hi'⟩
        obtain ⟨x0, hx0⟩ : ∃ x0, xs[i]? = some x0 := ⟨xs[i]'(by omega), List.getElem?_eq_getElem (by omega)⟩
        have hal := Paired.getR pr hx0 hy0
        have ax : atI xs (0 + (i : Int)) = some x0 := by rw [Int.zero_add]; exact atI_nat hx0
        have ay : atI ys (0 + (i : Int)) = some y0 := by rw [Int.zero_add]; exact atI_nat hy0
        refine ⟨_, rfl, _, rfl, ?_⟩
        refine Or.inl ⟨a, _, 0 + (i : Int), _, rfl, rfl, sqL_of e1, ax, ?_⟩
        refine ⟨_, rfl, _, rfl, ?_⟩
        refine Or.inl ⟨b, _, 0 + (i : Int), _, rfl, rfl, sqL_of e2, ay, ?_⟩
        refine h0 _ _ _ _ _ hal ?_
        walk_at "rd"
        exact ⟨_, rfl⟩
      · rintro σ H' ⟨rfl, x2, rfl⟩
        exact q
end
end K41

/-! Deep equality of triples, pairs, items; an item fits. -/
namespace K41
open PySem PySem.Spec PyProof.Rows L2 TL
def dT3 (k : K3) : PyData := .tuple [.int k.1, .int k.2.1, .int k.2.2]
def dT2 (v : Val) : PyData := .tuple [.int v.1, .int v.2]
def dItm (p : Itm) : PyData := .tuple [dT3 p.1, dT2 p.2]
theorem shT3 (k : K3) : SeqAt.shaped (dT3 k) = true := by
  unfold SeqAt.shaped dT3
  simp [PyData.canLay0, PyData.canLayAll0, PyData.depth, PyData.depthAll]
theorem shT2 (v : Val) : SeqAt.shaped (dT2 v) = true := by
  unfold SeqAt.shaped dT2
  simp [PyData.canLay0, PyData.canLayAll0, PyData.depth, PyData.depthAll]
theorem clItm (p : Itm) : (dItm p).canLay0 = true ∧ (dItm p).depth = 2 := by
  unfold dItm dT3 dT2
  simp [PyData.canLay0, PyData.canLayAll0, PyData.depth, PyData.depthAll]
theorem clT3 (k : K3) : (dT3 k).canLay0 = true ∧ (dT3 k).depth = 1 := by
  unfold dT3
  simp [PyData.canLay0, PyData.canLayAll0, PyData.depth, PyData.depthAll]
theorem shL (f : α → PyData) (n : Nat) (hn : n ≤ 60) (hf : ∀ x, (f x).canLay0 = true ∧ (f x).depth = n) (l : List α) : SeqAt.shaped (.list (l.map f)) = true := by
  have h1 : PyData.canLayAll0 (l.map f) = true := by
    induction l with
    | nil => rfl
    | cons x r ih => simp only [List.map_cons, PyData.canLayAll0, (hf x).1, ih, Bool.and_self]
  have h2 : PyData.depthAll (l.map f) ≤ n := by
    induction l with
    | nil => exact Nat.zero_le _
    | cons x r ih =>
      have h1' : PyData.canLayAll0 (r.map f) = true := by
        simp only [List.map_cons, PyData.canLayAll0, Bool.and_eq_true] at h1
        exact h1.2
      have := ih h1'
      simp only [List.map_cons, PyData.depthAll, (hf x).2]
      omega
  unfold SeqAt.shaped
  rw [Bool.and_eq_true]
  refine ⟨by simpa [PyData.canLay0] using h1, decide_eq_true ?_⟩
  have e : (PyData.list (l.map f)).depth = PyData.depthAll (l.map f) + 1 := by simp only [PyData.depth]
  rw [e]
  omega
section
variable {K : PySem.W.Frag} {H : Hp}
theorem dpT3 {b : Addr} {k : K3} (h : T3 H b k) : Dp K H (.ref b) (dT3 k) := .tup (sqT_of h) (.cons (.int _) (.cons (.int _) (.cons (.int _) .nil)))
theorem dpT2 {b : Addr} {v : Val} (h : T2 H b v) : Dp K H (.ref b) (dT2 v) := .tup (sqT_of h) (.cons (.int _) (.cons (.int _) .nil))
theorem dpItm {x : V} {p : Itm} (h : ItemAt H x p) : Dp K H x (dItm p) := by
  obtain ⟨a, b, c, rfl, h1, h2, h3⟩ := h
  exact .tup (sqT_of h1) (.cons (dpT3 h2) (.cons (dpT2 h3) .nil))
theorem dpAll {α : Type} {R : V → α → Prop} {f : α → PyData} (hf : ∀ x q, R x q → Dp K H x (f q)) : ∀ {xs : List V} {l : List α}, Paired R xs l → DpAll K H xs (l.map f)
  | _, _, .nil => .nil
  | _, _, .cons r t => .cons (hf _ _ r) (dpAll hf t)
theorem dpItems {a : Addr} {xs : List V} {L : List Itm} (h : H a = some (.lst xs)) (it : Items H xs L) : Dp K H (.ref a) (.list (L.map dItm)) := .lst (sqL_of h) (dpAll (fun _ _ r => dpItm r) it)
end
theorem eqvT2 (v u : Val) : PyData.eqv (dT2 v) (dT2 u) = decide (v = u) := by
  unfold dT2
  simp only [PyData.eqv, PyData.eqvAll]
  rw [Bool.eq_iff_iff]
  simp [Prod.ext_iff]
theorem eqvSelf {d : PyData} (h : SeqAt.shaped d = true) : PyData.eqv d d = true := SeqAt.eqv_refl d (SeqAt.canLay_of_shaped h)
section
variable {P : Program} {w : World} {K : PySem.W.Frag} {mg : Str → Option Value} {base : Heap}
local macro_rules | `(tactic| walk_at "rd") => `(tactic| repeat (first | refine ⟨_, rfl, ?_⟩ | refine ⟨_, _, rfl, rfl, ?_⟩ | refine ⟨_, _, rfl, ?_⟩ | refine ⟨_, _, _, rfl, ?_⟩ | refine ⟨_, _, _, _, rfl, ?_⟩ | refine ⟨rfl, ?_⟩ | refine ⟨(by show (0 : Int) < _; decide), ?_⟩ | refine ⟨cdw (by decide) (by decide), ?_⟩ | refine ⟨Or.inl (by decide), ?_⟩ | refine ⟨Or.inr (by decide), ?_⟩ | refine And.intro len4v ?_ | refine And.intro len3v ?_ | refine And.intro len2v ?_ | refine And.intro len1v ?_ | refine And.intro len0v ?_ | refine And.intro (by assumption) ?_ | refine And.intro (SS.ty (by assumption)) ?_ | refine And.intro (tyL (by assumption)) ?_ | refine ⟨_, _, _, _, rfl, rfl, sqT_of (by assumption), (by rfl), ?_⟩ | refine ⟨_, _, _, rfl, rfl, (by assumption), (by assumption), ?_⟩ | refine ⟨_, _, rfl, (by assumption), ?_⟩ | refine ⟨_, _, _, _, _, rfl, (by assumption), rfl, (by assumption), (by assumption), ?_⟩ | refine And.intro (IntD.isD (by assumption)) ?_ | refine And.intro (Rep.isD (by assumption)) ?_ | refine ⟨_, _, rfl, sqT_of (by assumption), (by rfl), ?_⟩ | refine ⟨_, _, _, _, rfl, rfl, sqL_of (by assumption), (by rfl), ?_⟩ | refine ⟨_, _, _, _, rfl, rfl, sqL_of upd_same, (by rfl), ?_⟩ | refine ⟨_, _, rfl, Or.inl (sqL_of (by assumption)), ?_⟩ | refine ⟨_, _, _, _, rfl, rfl, upd_same, (by rfl), ?_⟩ | refine ⟨_, _, _, _, rfl, rfl, (by assumption), (by rfl), ?_⟩ | refine ⟨⟨by decide, by decide, by decide⟩, ?_⟩ | refine And.intro (lenNv (by simp only [List.length_cons, List.length_nil]; omega)) ?_))
def spFits : Sp := fun vs H Q _ => ∃ d b L k v, vs = [.ref d, .ref b] ∧ Rep H d L ∧ T3 H b k ∧ (k, v) ∈ L ∧ Fit L k v ∧ ∀ H', Keep [] H H' → Q (.bl true) H'
abbrev s__law_fits : Stmt := top 59
theorem sc__law_fits : FnScope ["held", "key", "value", "node", "kind"] ["held", "key"] (defScope s__law_fits) := ⟨rfl, rfl, rfl, by decide +kernel, rfl, by decide +kernel, by decide +kernel⟩
theorem ok__law_fits {f : Addr} {fd : FuncData} (F : Fun K "_law_fits" "_law_fits" s__law_fits f fd) (T : Txt mg) : FnOk P w K mg base CX0 1 f fd ["held", "key"] spFits := by
  refine F.ok sc__law_fits (fun vs H Q E h => ?_) (fun cdv A outer s H vs Q E hr h => ?_)
  · obtain ⟨_, _, _, _, _, rfl, _⟩ := h
    rfl
  · obtain ⟨d, b, L, k, v, rfl, rep, hb, hm, fit, q⟩ := h
    refine ⟨_, (pss_cons (ps_set (i := 2) sc__law_fits.nd rfl (Or.inl rfl) (pe_dget (hu_of hr) (pv 0) (pv 1) (fun _ _ => rfl)))
  (pss_cons (ps_if (pt_cmpR op_eq (pe_ix ix_tup (pv 1) pe_int (fun _ _ => rfl)) pe_int (nomark _))
  (pss_cons (ps_if (PW.pt (pw_or (pt_cmpR op_lt (pe_ix ix_tup (pv 2) pe_int (fun _ _ => rfl)) pe_int (nomark _)) (pw_or (pt_cmpR op_lt (pe_ix ix_tup (pv 2) pe_int (fun _ _ => rfl)) pe_int (nomark _)) (pw_or (pt_cmpR op_gt (pe_ix ix_tup (pv 2) pe_int (fun _ _ => rfl)) (pe_op op_add (pe_op op_pow pe_int pe_int) pe_int) (nomark _)) (pw_or1 (pt_cmpR (op_eqD hr.units) (pv 2) (pe_tup (pa_cons pe_int (pa_cons pe_int pa_nil))) (nomark _)))))))
  (pss_one (ps_ret pe_bl))
  pss_nil)
  (pss_one (ps_ret (pe_and (pe_cmpR op_eq (pe_ix ix_tup (pv 1) pe_int (fun _ _ => rfl)) pe_int (nomark _)) (pe_one (pe_chain op_le op_le pe_int (pe_ix ix_tup (pv 1) pe_int (fun _ _ => rfl)) pe_int))))))
  pss_nil)
  (pss_cons (ps_if (PW.pt (pw_or (pt_cmp (pc_dnotin (hu_of hr) (pe_tup (pa_cons (pe_ix ix_tup (pv 1) pe_int (fun _ _ => rfl)) (pa_cons pe_int (pa_cons pe_int pa_nil)))) (pv 0))) (pw_or1 (pt_cmpR op_lt (pe_ix ix_tup (pv 1) pe_int (fun _ _ => rfl)) pe_int (nomark _)))))
  (pss_one (ps_ret pe_bl))
  pss_nil)
  (pss_cons (ps_set (i := 3) sc__law_fits.nd rfl (Or.inl rfl) (pe_dget (hu_of hr) (pv 0) (pe_tup (pa_cons (pe_ix ix_tup (pv 1) pe_int (fun _ _ => rfl)) (pa_cons pe_int (pa_cons pe_int pa_nil)))) (fun _ _ => rfl)))
  (pss_cons (ps_set (i := 4) sc__law_fits.nd rfl (Or.inl rfl) (pe_op op_mod (pe_callTy cr_int (by rfl) T.b_int (by decide +kernel) (pa_cons (pe_ix ix_tup (pv 3) pe_int (fun _ _ => rfl)) pa_nil)) pe_int))
  (pss_cons (ps_if (pt_cmpR op_eq (pe_ix ix_tup (pv 1) pe_int (fun _ _ => rfl)) pe_int (nomark _))
  (pss_one (ps_ret (pe_and (pe_cmpR op_eq (pe_ix ix_tup (pv 1) pe_int (fun _ _ => rfl)) pe_int (nomark _)) (pe_and (pe_cmpR op_ge (pe_ix ix_tup (pv 3) pe_int (fun _ _ => rfl)) pe_int (nomark _)) (pe_and (pe_cmpR op_ge (pe_ix ix_tup (pv 3) pe_int (fun _ _ => rfl)) pe_int (nomark _)) (pe_one (pe_or (pe_cmpR op_eq (pv 4) pe_int (nomark _)) (pe_one (pe_cmpR op_le (pe_ix ix_tup (pv 3) pe_int (fun _ _ => rfl)) (pe_op op_pow pe_int pe_int) (nomark _))))))))))
  pss_nil)
  (pss_cons (ps_if (pt_cmpR op_eq (pe_ix ix_tup (pv 1) pe_int (fun _ _ => rfl)) pe_int (nomark _))
  (pss_one (ps_ret (pe_and (pe_cmpR op_eq (pv 4) pe_int (nomark _)) (pe_and (pe_cmpR op_gt (pe_ix ix_tup (pv 2) pe_int (fun _ _ => rfl)) pe_int (nomark _)) (pe_and (pe_cmp (pc_din (hu_of hr) (pe_tup (pa_cons (pe_ix ix_tup (pv 2) pe_int (fun _ _ => rfl)) (pa_cons pe_int (pa_cons pe_int pa_nil)))) (pv 0)) rfl) (pe_one (pe_cmpR op_eq (pe_ix ix_tup (pv 2) pe_int (fun _ _ => rfl)) pe_int (nomark _))))))))
  pss_nil)
  (pss_cons (ps_if (pt_cmpR op_eq (pe_ix ix_tup (pv 1) pe_int (fun _ _ => rfl)) pe_int (nomark _))
  (pss_one (ps_ret (pe_and (pe_chain op_le op_lt pe_int (pe_ix ix_tup (pv 2) pe_int (fun _ _ => rfl)) (pe_op op_sub (pe_op op_pow pe_int pe_int) pe_int)) (pe_one (pe_cmpR op_eq (pe_ix ix_tup (pv 2) pe_int (fun _ _ => rfl)) pe_int (nomark _))))))
  pss_nil)
  (pss_one (ps_ret (pe_and (pe_cmpR op_eq (pe_ix ix_tup (pv 1) pe_int (fun _ _ => rfl)) pe_int (nomark _)) (pe_and (pe_cmpR op_eq (pv 4) pe_int (nomark _)) (pe_one (pe_cmpR op_lt (pe_op op_mul pe_int (pe_ix ix_tup (pv 1) pe_int (fun _ _ => rfl))) (pe_ix ix_tup (pv 3) pe_int (fun _ _ => rfl)) (nomark _))))))))))))))), ?_⟩
    have e6 : (10 : Int) ^ (Int.toNat 6) = 1000000 := by decide
    have sL := rep.srt
    obtain ⟨a, ga, ta⟩ := rep.get hb (lk_of_mem sL hm)
    have bok : ∀ {p : Prop} [Decidable p], p → decide p = true := fun h => decide_eq_true h
    walk_at "rd"
    rcases fit with ⟨f1, f2, f3, f4, f5, f6, f7, f8⟩ | ⟨f1, f2, u, f3, f4⟩
    · refine dT (congrArg V.int f1) ?_
      walk_at "rd"
      refine dF (by omega) ?_
      walk_at "rd"
      refine dF (by omega) ?_
      walk_at "rd"
      rw [e6]
      refine dF (by omega) ?_
      walk_at "rd"
      intro p hp
      have ta2 : T2 (upd H p (.tup [.int 0, .int 0])) a v := ta.new hp
      have tp : T2 (upd H p (.tup [.int 0, .int 0])) p (0, 0) := T2.at
      walk_at "rd"
      refine ⟨dT2 v, dT2 (0, 0), dpT2 ta2, dpT2 tp, shT2 _, shT2 _, ?_⟩
      rw [eqvT2, decide_eq_false f8]
      have hb2 := hb.new (o := .tup [.int 0, .int 0]) hp
      walk_at "rd"
      refine dT (congrArg V.int f2) ?_
      walk_at "rd"
      refine dT f3 ?_
      have e : decide (k.2.2 ≤ 999) = true := decide_eq_true f4
      walk_at "rd"
      show Q (.bl (decide (k.2.2 ≤ 999))) _
      rw [e]
      exact q _ (Keep.new hp)
    · refine dF (fun z => by have := V.int.inj z; omega) ?_
      walk_at "rd"
      intro p hp
      have rep2 := rep.new (o := .tup (tv (nk k.1))) hp
      have hb2 := hb.new (o := .tup (tv (nk k.1))) hp
      have ta2 := ta.new (o := .tup (tv (nk k.1))) hp
      obtain ⟨a3, g3, t3⟩ := rep2.get (b := p) (k := nk k.1) T3.at (lk_of_mem sL f3)
      walk_at "rd"
      refine dF (by omega) ?_
      walk_at "rd"
      intro p4 hp4
      have rep4 := rep2.new (o := .tup (tv (nk k.1))) hp4
      have hb4 := hb2.new (o := .tup (tv (nk k.1))) hp4
      have ta4 := ta2.new (o := .tup (tv (nk k.1))) hp4
      have t34 := t3.new (o := .tup (tv (nk k.1))) hp4
      obtain ⟨a5, g5, t5⟩ := rep4.get (b := p4) (k := nk k.1) T3.at (lk_of_mem sL f3)
      have kp := (Keep.new (S := []) (o := .tup (tv (nk k.1))) hp).trans (Keep.new (o := .tup (tv (nk k.1))) hp4)
      clear t34 t3 g3 ta2 hb2 ga ta hb
      walk_at "rd"
      rcases f4 with ⟨z1, z2, z3, z4, z5⟩ | ⟨z1, z2, z3, z4, u', z5⟩ | ⟨z1, z2, z3, z4⟩ | ⟨z1, z2, z3⟩
      · refine dT (congrArg V.int z1) ?_
        have euv : u = v := mem_one sL f3 (by
          have : k = nk k.1 := Prod.ext rfl (Prod.ext z1 z2)
          rw [this] at hm
          exact hm)
        subst euv
        walk_at "rd"
        refine dT (congrArg V.int z2) ?_
        walk_at "rd"
        refine dT z3 ?_
        walk_at "rd"
        refine dT z4 ?_
        walk_at "rd"
        by_cases h1 : u.1 % 2 = 1
        · refine dT (congrArg V.int h1) ?_
          exact q _ kp
        · refine dF (fun z => h1 (V.int.inj z)) ?_
          walk_at "rd"
          have e : decide (u.2 ≤ 10 ^ Int.toNat 6) = true := by rw [e6]; exact decide_eq_true (z5.resolve_left h1)
          show Q (.bl (decide (u.2 ≤ 10 ^ Int.toNat 6))) _
          rw [e]
          exact q _ kp
      · refine dF (fun z => by have := V.int.inj z; omega) ?_
        walk_at "rd"
        refine dT (congrArg V.int z1) ?_
        walk_at "rd"
        refine dT (congrArg V.int z2) ?_
        walk_at "rd"
        refine dT z3 ?_
        walk_at "rd"
        intro p6 hp6
        have rep6 := rep4.new (o := .tup (tv (nk v.1))) hp6
        have ta6 := ta4.new (o := .tup (tv (nk v.1))) hp6
        obtain ⟨a7, g7, t7⟩ := rep6.get (b := p6) (k := nk v.1) T3.at (lk_of_mem sL z5)
        walk_at "rd"
        have e : decide (V.int v.2 = V.int 0) = true := decide_eq_true (congrArg V.int z4)
        show Q (.bl (decide (V.int v.2 = V.int 0))) _
        rw [e]
        exact q _ (kp.trans (Keep.new hp6))
      · refine dF (fun z => by have := V.int.inj z; omega) ?_
        walk_at "rd"
        refine dF (fun z => by have := V.int.inj z; omega) ?_
        walk_at "rd"
        refine dT (congrArg V.int z1) ?_
        walk_at "rd"
        refine dT z2 ?_
        walk_at "rd"
        have e61 : (2 : Int) ^ (Int.toNat 61) = 2305843009213693952 := by decide
        rw [e61]
        refine dT (by omega) ?_
        walk_at "rd"
        have e : decide (V.int v.2 = V.int 0) = true := decide_eq_true (congrArg V.int z4)
        show Q (.bl (decide (V.int v.2 = V.int 0))) _
        rw [e]
        exact q _ kp
      · refine dF (fun z => by have := V.int.inj z; omega) ?_
        walk_at "rd"
        refine dF (fun z => by have := V.int.inj z; omega) ?_
        walk_at "rd"
        refine dF (fun z => by have := V.int.inj z; omega) ?_
        walk_at "rd"
        refine dT (congrArg V.int z1) ?_
        walk_at "rd"
        refine dT (congrArg V.int z2) ?_
        walk_at "rd"
        have e : decide (30 * k.2.2 < u.2) = true := decide_eq_true z3
        show Q (.bl (decide (30 * k.2.2 < u.2))) _
        rw [e]
        exact q _ kp
end
end K41

/-! Rooted, linked. -/
namespace K41
open PySem PySem.Spec PyProof.Rows L2 TL
theorem Snd0.parent {rk : Int → Nat} {L : List Itm} (S : Snd0 rk L) {n : Int} {u : Val} (h1 : n ≠ 1) (h : (nk n, u) ∈ L) (hf : u.1 % 2 = 1) : ∃ u', (nk u.2, u') ∈ L ∧ u'.1 % 2 = 1 ∧ rk u.2 < rk n := by
  obtain ⟨p1, p2, p3⟩ := S.par n u h1 h hf
  have hc := S.cnt n u h1 h
  rw [p1] at hc
  obtain ⟨a, c, x, m⟩ := cnt_pos.mp (show 0 < K41.cnt L n by omega)
  have ha := p3 a c x m
  rcases S.fit _ _ m with f | ⟨_, _, w, fw, f⟩
  · have := f.2.1
    dsimp only at this
    omega
  · rcases f with f | ⟨_, f, _⟩ | f | f
    · have := f.1
      dsimp only at this
      omega
    · dsimp only at fw
      rw [ha] at fw
      exact ⟨w, fw, f, p2⟩
    · have := f.1
      dsimp only at this
      omega
    · have := f.1
      dsimp only at this
      omega
section
variable {P : Program} {w : World} {K : PySem.W.Frag} {mg : Str → Option Value} {base : Heap}
local macro_rules | `(tactic| walk_at "rd") => `(tactic| repeat (first | refine ⟨_, rfl, ?_⟩ | refine ⟨_, _, rfl, rfl, ?_⟩ | refine ⟨_, _, rfl, ?_⟩ | refine ⟨_, _, _, rfl, ?_⟩ | refine ⟨_, _, _, _, rfl, ?_⟩ | refine ⟨rfl, ?_⟩ | refine ⟨(by show (0 : Int) < _; decide), ?_⟩ | refine ⟨cdw (by decide) (by decide), ?_⟩ | refine ⟨Or.inl (by decide), ?_⟩ | refine ⟨Or.inr (by decide), ?_⟩ | refine And.intro len4v ?_ | refine And.intro len3v ?_ | refine And.intro len2v ?_ | refine And.intro len1v ?_ | refine And.intro len0v ?_ | refine And.intro (by assumption) ?_ | refine And.intro (SS.ty (by assumption)) ?_ | refine And.intro (tyL (by assumption)) ?_ | refine ⟨_, _, _, _, rfl, rfl, sqT_of (by assumption), (by rfl), ?_⟩ | refine ⟨_, _, _, rfl, rfl, (by assumption), (by assumption), ?_⟩ | refine ⟨_, _, rfl, (by assumption), ?_⟩ | refine ⟨_, _, _, _, _, rfl, (by assumption), rfl, (by assumption), (by assumption), ?_⟩ | refine And.intro (IntD.isD (by assumption)) ?_ | refine And.intro (Rep.isD (by assumption)) ?_ | refine ⟨_, _, rfl, sqT_of (by assumption), (by rfl), ?_⟩ | refine ⟨_, _, _, _, rfl, rfl, sqL_of (by assumption), (by rfl), ?_⟩ | refine ⟨_, _, _, _, rfl, rfl, sqL_of upd_same, (by rfl), ?_⟩ | refine ⟨_, _, rfl, Or.inl (sqL_of (by assumption)), ?_⟩ | refine ⟨_, _, _, _, rfl, rfl, upd_same, (by rfl), ?_⟩ | refine ⟨_, _, _, _, rfl, rfl, (by assumption), (by rfl), ?_⟩ | refine ⟨⟨by decide, by decide, by decide⟩, ?_⟩ | refine And.intro (lenNv (by simp only [List.length_cons, List.length_nil]; omega)) ?_))
def spRooted : Sp := fun vs H Q _ => ∃ (d : Addr) (L : List Itm) (rk : Int → Nat) (n : Int) (u : Val), vs = [.ref d, .int n] ∧ Rep H d L ∧ L.length < 90000 ∧ Snd0 rk L ∧ (nk n, u) ∈ L ∧ u.1 % 2 = 1 ∧ ∀ H', Keep [] H H' → Q (.bl true) H'
abbrev s__law_is_rooted : Stmt := top 60
theorem sc__law_is_rooted : FnScope ["held", "n", "at", "k", "node"] ["held", "n"] (defScope s__law_is_rooted) := ⟨rfl, rfl, rfl, by decide +kernel, rfl, by decide +kernel, by decide +kernel⟩
theorem ok__law_is_rooted {f : Addr} {fd : FuncData} (F : Fun K "_law_is_rooted" "_law_is_rooted" s__law_is_rooted f fd) (T : Txt mg) : FnOk P w K mg base CX0 1 f fd ["held", "n"] spRooted := by
  refine F.ok sc__law_is_rooted (fun vs H Q E h => ?_) (fun cdv A outer s H vs Q E hr h => ?_)
  · obtain ⟨_, _, _, _, _, rfl, _⟩ := h
    rfl
  · obtain ⟨d, L, rk, n, u, rfl, rep, hL, S, hm, hf, q⟩ := h
    refine ⟨_, (pss_cons (ps_set (i := 2) sc__law_is_rooted.nd rfl (Or.inl rfl) (pv 1))
  (pss_cons (ps_for PassesOwn.never rfl (pi_range1 rfl T.b_range (pa_cons (pe_callB call_len_dT (by rfl) T.b_len (by decide +kernel) (pa_cons (pv 0) pa_nil)) pa_nil)) (pg_name (i := 3) sc__law_is_rooted.nd rfl (Or.inl rfl))
  (pss_cons (ps_if (pt_cmpR op_eq (pv 2) pe_int (nomark _))
  (pss_one (ps_ret pe_bl))
  pss_nil)
  (pss_cons (ps_set (i := 4) sc__law_is_rooted.nd rfl (Or.inl rfl) (pe_dget2 (hu_of hr) (pv 0) (pe_tup (pa_cons (pv 2) (pa_cons pe_int (pa_cons pe_int pa_nil)))) (pe_tup (pa_cons pe_int (pa_cons pe_int pa_nil))) ⟨rfl, rfl, rfl, rfl⟩))
  (pss_cons (ps_if (pt_cmpR op_eq (pe_op op_mod (pe_callTy cr_int (by rfl) T.b_int (by decide +kernel) (pa_cons (pe_ix ix_tup (pv 4) pe_int (fun _ _ => rfl)) pa_nil)) pe_int) pe_int (nomark _))
  (pss_one (ps_ret pe_bl))
  pss_nil)
  (pss_one (ps_set (i := 2) sc__law_is_rooted.nd rfl (Or.inl rfl) (pe_ix ix_tup (pv 4) pe_int (fun _ _ => rfl))))))))
  (pss_one (ps_ret (pe_cmpR op_eq (pv 2) pe_int (nomark _)))))), ?_⟩
    have sL := rep.srt
    obtain ⟨kvs, e1, e2⟩ := rep.len
    walk_at "rd"
    rw [e2]
    refine ⟨by omega, by omega, ?_⟩
    refine for_range (fun i σ H' => (∃ (at_ : Int) (x3 x4 : Option V), σ = [some (.ref d), some (.int n), some (.int at_), x3, x4] ∧ ∃ (u : Val) (seen : List Int), (nk at_, u) ∈ L ∧ u.1 % 2 = 1 ∧ seen.length = i ∧ seen.Nodup ∧ ∀ m ∈ seen, rk at_ < rk m ∧ ∃ v, (nk m, v) ∈ L) ∧ Keep [] H H') ?_ ?_ ?_
    · exact ⟨⟨n, _, _, rfl, u, [], hm, hf, rfl, List.nodup_nil, by simp⟩, Keep.refl _ _⟩
    · rintro i σ H1 hi ⟨⟨at_, x3, x4, rfl, u, seen, hu, hfu, hs1, hs2, hs3⟩, k1⟩
      have rep1 : Rep H1 d L := rep.keep (k1.tup (NoTup.nil _)) fun o e => k1.at e (by simp)
      walk_at "rd"
      by_cases h1 : at_ = 1
      · refine dT (congrArg V.int h1) ?_
        exact q _ k1
      · refine dF (fun z => h1 (V.int.inj z)) ?_
        have hisd := rep1.isD
        walk_at "rd"
        intro p hp
        have rep2 := rep1.new (o := .tup (tv (nk at_))) hp
        walk_at "rd"
        intro p2 hp2
        have rep3 := rep2.new (o := .tup [.int 0, .int 0]) hp2
        obtain ⟨a, g, t⟩ := rep3.get (b := p) (k := nk at_) ((T3.at (H := H1)).new hp2) (lk_of_mem sL hu)
        refine ⟨_, g, ?_⟩
        walk_at "rd"
        refine dF (fun z => by have := V.int.inj z; omega) ?_
        walk_at "rd"
        obtain ⟨u', hu', hfu', hlt⟩ := S.parent h1 hu hfu
        refine ⟨⟨u.2, _, _, rfl, u', seen ++ [at_], hu', hfu', by simp [hs1], ?_, fun m hm => ?_⟩, (k1.trans (Keep.new hp)).trans (Keep.new hp2)⟩
        · rw [List.nodup_append]
          refine ⟨hs2, by simp, fun a ha b hb => ?_⟩
          rw [List.mem_singleton.mp hb]
          rintro rfl
          have := (hs3 _ ha).1
          omega
        · rcases List.mem_append.mp hm with hm | hm
          · obtain ⟨a1, a2⟩ := hs3 m hm
            exact ⟨by omega, a2⟩
          · rw [List.mem_singleton.mp hm]
            exact ⟨hlt, u, hu⟩
    · rintro σ H1 ⟨⟨at_, x3, x4, rfl, u, seen, hu, hfu, hs1, hs2, hs3⟩, k1⟩
      exfalso
      rw [Int.toNat_natCast] at hs1
      have hnd : (at_ :: seen).Nodup := List.nodup_cons.mpr ⟨fun m => by
        have := (hs3 _ m).1
        omega, hs2⟩
      have hsub : ∀ x ∈ (at_ :: seen), x ∈ L.map (·.1.1) := fun x m => by
        rcases List.mem_cons.mp m with e | m
        · rw [e]; exact List.mem_map.mpr ⟨_, hu, rfl⟩
        · obtain ⟨_, v, hv⟩ := hs3 x m
          exact List.mem_map.mpr ⟨_, hv, rfl⟩
      have := nodup_len hnd hsub
      rw [List.length_map, List.length_cons] at this
      omega
end
end K41

/-! Linked. -/
namespace K41
open PySem PySem.Spec PyProof.Rows L2 TL
section
variable {P : Program} {w : World} {K : PySem.W.Frag} {mg : Str → Option Value} {base : Heap}
local macro_rules | `(tactic| walk_at "rd") => `(tactic| repeat (first | refine ⟨_, rfl, ?_⟩ | refine ⟨_, _, rfl, rfl, ?_⟩ | refine ⟨_, _, rfl, ?_⟩ | refine ⟨_, _, _, rfl, ?_⟩ | refine ⟨_, _, _, _, rfl, ?_⟩ | refine ⟨rfl, ?_⟩ | refine ⟨(by show (0 : Int) < _; decide), ?_⟩ | refine ⟨cdw (by decide) (by decide), ?_⟩ | refine ⟨Or.inl (by decide), ?_⟩ | refine ⟨Or.inr (by decide), ?_⟩ | refine And.intro len4v ?_ | refine And.intro len3v ?_ | refine And.intro len2v ?_ | refine And.intro len1v ?_ | refine And.intro len0v ?_ | refine And.intro (by assumption) ?_ | refine And.intro (SS.ty (by assumption)) ?_ | refine And.intro (tyL (by assumption)) ?_ | refine ⟨_, _, _, _, rfl, rfl, sqT_of (by assumption), (by rfl), ?_⟩ | refine ⟨_, _, _, rfl, rfl, (by assumption), (by assumption), ?_⟩ | refine ⟨_, _, rfl, (by assumption), ?_⟩ | refine ⟨_, _, _, _, _, rfl, (by assumption), rfl, (by assumption), (by assumption), ?_⟩ | refine And.intro (IntD.isD (by assumption)) ?_ | refine And.intro (Rep.isD (by assumption)) ?_ | refine ⟨_, _, rfl, sqT_of (by assumption), (by rfl), ?_⟩ | refine ⟨_, _, _, _, rfl, rfl, sqL_of (by assumption), (by rfl), ?_⟩ | refine ⟨_, _, _, _, rfl, rfl, sqL_of upd_same, (by rfl), ?_⟩ | refine ⟨_, _, rfl, Or.inl (sqL_of (by assumption)), ?_⟩ | refine ⟨_, _, _, _, rfl, rfl, upd_same, (by rfl), ?_⟩ | refine ⟨_, _, _, _, rfl, rfl, (by assumption), (by rfl), ?_⟩ | refine ⟨⟨by decide, by decide, by decide⟩, ?_⟩ | refine And.intro (lenNv (by simp only [List.length_cons, List.length_nil]; omega)) ?_))
def spLinked : Sp := fun vs H Q _ => ∃ (d : Addr) (L : List Itm) (rk : Int → Nat), vs = [.ref d] ∧ Rep H d L ∧ L.length < 90000 ∧ Snd0 rk L ∧ ∀ H', Keep [] H H' → Q (.bl true) H'
abbrev s__law_is_linked : Stmt := top 61
theorem sc__law_is_linked : FnScope ["held", "leads", "key", "child", "node", "root"] ["held"] (defScope s__law_is_linked) := ⟨rfl, rfl, rfl, by decide +kernel, rfl, by decide +kernel, by decide +kernel⟩
theorem ok__law_is_linked {f : Addr} {fd : FuncData} (F : Fun K "_law_is_linked" "_law_is_linked" s__law_is_linked f fd) (T : Txt mg) (C__law_is_rooted : Cl P w K mg base 1 "_law_is_rooted" ["held", "n"] spRooted) : FnOk P w K mg base CX0 2 f fd ["held"] spLinked := by
  refine F.ok sc__law_is_linked (fun vs H Q E h => ?_) (fun cdv A outer s H vs Q E hr h => ?_)
  · obtain ⟨_, _, _, rfl, _⟩ := h
    rfl
  · obtain ⟨d, L, rk, rfl, rep, hL, S, q⟩ := h
    refine ⟨_, (pss_cons (ps_set (i := 1) sc__law_is_linked.nd rfl (Or.inl rfl) pe_dnewK)
  (pss_cons (ps_for PassesOwn.never rfl (pi_list (pe_callB (cr_sortD rfl) (by rfl) T.b_sorted (by decide +kernel) (pa_cons (pv 0) pa_nil))) (pg_name (i := 2) sc__law_is_linked.nd rfl (Or.inl rfl))
  (pss_one (ps_if (pt_cmpR op_eq (pe_ix ix_tup (pv 2) pe_int (fun _ _ => rfl)) pe_int (nomark _))
  (pss_cons (ps_set (i := 3) sc__law_is_linked.nd rfl (Or.inl rfl) (pe_ix ix_tup (pe_dget (hu_of hr) (pv 0) (pv 2) (fun _ _ => rfl)) pe_int (fun _ _ => rfl)))
  (pss_cons (ps_dput (hu_of hr) (pv 1) (pv 3) (pe_op op_add (pe_dget2 (hu_of hr) (pv 1) (pv 3) pe_int ⟨rfl, rfl, rfl, rfl⟩) pe_int) rfl)
  (pss_cons (ps_set (i := 4) sc__law_is_linked.nd rfl (Or.inl rfl) (pe_dget (hu_of hr) (pv 0) (pe_tup (pa_cons (pv 3) (pa_cons pe_int (pa_cons pe_int pa_nil)))) (fun _ _ => rfl)))
  (pss_one (ps_if (PW.pt (pw_and (pt_cmpR op_eq (pe_op op_mod (pe_callTy cr_int (by rfl) T.b_int (by decide +kernel) (pa_cons (pe_ix ix_tup (pv 4) pe_int (fun _ _ => rfl)) pa_nil)) pe_int) pe_int (nomark _)) (pw_and1 (pt_cmpR op_ne (pe_ix ix_tup (pv 4) pe_int (fun _ _ => rfl)) (pe_ix ix_tup (pv 2) pe_int (fun _ _ => rfl)) (nomark _)))))
  (pss_one (ps_ret pe_bl))
  pss_nil)))))
  pss_nil)))
  (pss_cons (ps_for PassesOwn.never rfl (pi_list (pe_callB (cr_sortD rfl) (by rfl) T.b_sorted (by decide +kernel) (pa_cons (pv 0) pa_nil))) (pg_name (i := 2) sc__law_is_linked.nd rfl (Or.inl rfl))
  (pss_one (ps_if (PW.pt (pw_and (pt_cmpR op_eq (pe_ix ix_tup (pv 2) pe_int (fun _ _ => rfl)) pe_int (nomark _)) (pw_and1 (pt_cmpR op_gt (pe_ix ix_tup (pv 2) pe_int (fun _ _ => rfl)) pe_int (nomark _)))))
  (pss_cons (ps_if (pt_cmpR op_ne (pe_dget2 (hu_of hr) (pv 1) (pe_ix ix_tup (pv 2) pe_int (fun _ _ => rfl)) pe_int ⟨rfl, rfl, rfl, rfl⟩) (pe_op op_fdivW (pe_ix ix_tup (pe_dget (hu_of hr) (pv 0) (pv 2) (fun _ _ => rfl)) pe_int (fun _ _ => rfl)) pe_int) (nomark _))
  (pss_one (ps_ret pe_bl))
  pss_nil)
  (pss_one (ps_if (PW.pt (pw_and (pt_cmpR op_eq (pe_op op_mod (pe_callTy cr_int (by rfl) T.b_int (by decide +kernel) (pa_cons (pe_ix ix_tup (pe_dget (hu_of hr) (pv 0) (pv 2) (fun _ _ => rfl)) pe_int (fun _ _ => rfl)) pa_nil)) pe_int) pe_int (nomark _)) (pw_and1 (PW.pt (pw_or (pt_cmpR op_ne (pe_dget (hu_of hr) (pv 1) (pe_ix ix_tup (pv 2) pe_int (fun _ _ => rfl)) (fun _ _ => rfl)) pe_int (nomark _)) (pw_or1 (pt_not (pt_val (pe_own C__law_is_rooted hr (by decide) rfl (pa_cons (pv 0) (pa_cons (pe_ix ix_tup (pv 2) pe_int (fun _ _ => rfl)) pa_nil)))))))))))
  (pss_one (ps_ret pe_bl))
  pss_nil)))
  pss_nil)))
  (pss_cons (ps_set (i := 5) sc__law_is_linked.nd rfl (Or.inl rfl) (pe_dget2 (hu_of hr) (pv 0) (pe_tup (pa_cons pe_int (pa_cons pe_int (pa_cons pe_int pa_nil)))) (pe_tup (pa_cons pe_int (pa_cons pe_int pa_nil))) ⟨rfl, rfl, rfl, rfl⟩))
  (pss_one (ps_ret (pe_and (pe_cmpR op_eq (pe_op op_mod (pe_callTy cr_int (by rfl) T.b_int (by decide +kernel) (pa_cons (pe_ix ix_tup (pv 5) pe_int (fun _ _ => rfl)) pa_nil)) pe_int) pe_int (nomark _)) (pe_and (pe_cmpR op_eq (pe_op op_fdivW (pe_ix ix_tup (pv 5) pe_int (fun _ _ => rfl)) pe_int) pe_int (nomark _)) (pe_one (pe_cmpR op_eq (pe_ix ix_tup (pv 5) pe_int (fun _ _ => rfl)) pe_int (nomark _))))))))))), ?_⟩
    have sL := rep.srt
    intro c hc
    have cd : c ≠ d := fun e => by
      obtain ⟨_, e1, _⟩ := rep
      rw [e, e1] at hc
      cases hc
    have rep1 := rep.new (o := .dK []) hc
    dsimp only [gName, tSeq]
    refine for_sorted rep1.r (fun Q q => ⟨_, rfl, q⟩) (S := [c]) (fun a m => by rw [List.mem_singleton.mp m, upd_same]; simp) (.one upd_same fun _ z => nomatch z)
      (fun i σ H1 => (∃ x2 x3 x4 x5, σ = [some (.ref d), some (.ref c), x2, x3, x4, x5]) ∧ IntD H1 c (cntV (cnt (L.take i))) i ∧ Rep H1 d L) ?_ ?_ ?_
    · intro p o hp
      exact ⟨⟨_, _, _, _, rfl⟩, ((IntD.nil (H := H) (p := c) 0).mono (fun _ => rfl) (Nat.le_refl _)).new hp, rep1.new hp⟩
    · rintro G i q' b σ H1 hq ⟨⟨x2, x3, x4, x5, rfl⟩, ci, rp⟩ kG k1 hb
      have hi : i < L.length := (List.getElem?_eq_some_iff.mp hq).1
      have hqL : q' ∈ L := List.mem_of_getElem? hq
      have et := take_snoc hq
      walk_at "rd"
      refine bI ?_ ?_ <;> intro h4
      · have h4 : q'.1.2.1 = 1 := by simpa using h4
        obtain ⟨a, ga, ta⟩ := rp.get hb (lk_of_mem sL hqL)
        walk_at "rd"
        obtain ⟨o, ho, hoe⟩ := ci.getZ q'.2.1
        refine ⟨o, ho, ?_⟩
        rw [hoe]
        walk_at "rd"
        obtain ⟨u, p1, p2, p3⟩ := ci.put q'.2.1 (.int ((cnt (L.take i) q'.2.1 : Nat) + 1)) (by omega)
        walk_at "rd"
        have kc : Keep [c] H1 (upd H1 c u) := Keep.set (by simp)
        have rp2 : Rep (upd H1 c u) d L := rp.keep p3 fun o e => by rw [upd_ne cd.symm]; exact e
        have hb2 : T3 (upd H1 c u) b q'.1 := hb.keep p3
        have c2 : IntD (upd H1 c u) c (cntV (cnt (L.take (i + 1)))) (i + 1) := p2.mono (fun n => by
          unfold cntV
          rw [et, cnt_snoc]
          unfold isEnt
          by_cases e : n = q'.2.1
          · simp [e, h4]
          · have : ¬ q'.2.1 = n := fun z => e z.symm
            simp [e, this]) (Nat.le_refl _)
        obtain ⟨hc1, un, hun⟩ : 1 < q'.2.1 ∧ ∃ un, (nk q'.2.1, un) ∈ L := by
          rcases S.fit q'.1 q'.2 hqL with f | ⟨_, _, _, _, f⟩
          · have := f.2.1; omega
          · rcases f with f | ⟨_, _, f1, _, f2⟩ | f | f
            · have := f.1; omega
            · exact ⟨f1, f2⟩
            · have := f.1; omega
            · have := f.1; omega
        have hpar : un.1 % 2 = 1 → un.2 = q'.1.1 := fun hf => by
          have := (S.par q'.2.1 un (by omega) hun hf).2.2 q'.1.1 q'.1.2.2 q'.2.2 (by
            have e : q' = ((q'.1.1, 1, q'.1.2.2), (q'.2.1, q'.2.2)) := Prod.ext (Prod.ext rfl (Prod.ext h4 rfl)) rfl
            rw [← e]
            exact hqL)
          exact this.symm
        generalize upd H1 c u = H2 at *
        intro p hp
        have rp3 := rp2.new (o := .tup (tv (nk q'.2.1))) hp
        have hb3 := hb2.new (o := .tup (tv (nk q'.2.1))) hp
        have c3 := c2.new (o := .tup (tv (nk q'.2.1))) hp
        obtain ⟨a3, g3, t3⟩ := rp3.get (b := p) (k := nk q'.2.1) T3.at (lk_of_mem sL hun)
        walk_at "rd"
        have k3 := (k1.trans kc).trans (Keep.new (S := [c]) (o := .tup (tv (nk q'.2.1))) hp)
        by_cases hf : un.1 % 2 = 1
        · refine dT (congrArg V.int hf) ?_
          walk_at "rd"
          refine nF (congrArg V.int (hpar hf)) ?_
          exact ⟨k3, ⟨_, _, _, _, rfl⟩, c3, rp3⟩
        · refine dF (fun z => hf (V.int.inj z)) ?_
          exact ⟨k3, ⟨_, _, _, _, rfl⟩, c3, rp3⟩
      · have h4 : q'.1.2.1 ≠ 1 := by simpa using h4
        refine ⟨k1, ⟨_, _, _, _, rfl⟩, ci.mono (fun n => ?_) (by omega), rp⟩
        unfold cntV
        rw [et, cnt_snoc]
        unfold isEnt
        simp [h4]
    · rintro σ H1 k1 ⟨⟨x2, x3, x4, x5, rfl⟩, ci, rp⟩
      rw [List.take_length] at ci
      have k01 : Keep [] H H1 := ((Keep.new (S := [c]) (o := .dK []) hc).trans k1).drop hc
      dsimp only [gName, tSeq]
      refine for_sorted rp.r (fun Q q => ⟨_, rfl, q⟩) (S := []) (by simp) (NoTup.nil _) (fun i σ H2 => ∃ x2 x3 x4 x5, σ = [some (.ref d), some (.ref c), x2, x3, x4, x5]) ?_ ?_ ?_
      · intro p o hp
        exact ⟨_, _, _, _, rfl⟩
      · rintro G i q' b σ H2 hq ⟨x2, x3, x4, x5, rfl⟩ kG k2 hb
        have hqL : q' ∈ L := List.mem_of_getElem? hq
        have k12 : Keep [] H1 H2 := kG.trans k2
        have ci2 := ci.keep k12 (by simp)
        have rp2 : Rep H2 d L := rp.keep (k12.tup (NoTup.nil _)) fun o e => k12.at e (by simp)
        walk_at "rd"
        refine bI ?_ ?_ <;> intro h4
        · have h4 : q'.1.2.1 = 0 := by simpa using h4
          have hqk := nk_of (v := q'.2) (S.fit q'.1 q'.2 hqL) h4
          have hm : (nk q'.1.1, q'.2) ∈ L := by rw [← hqk]; exact hqL
          walk_at "rd"
          refine dI ?_ ?_ <;> intro h1
          · have hcn := S.cnt q'.1.1 q'.2 (by omega) hm
            obtain ⟨a, ga, ta⟩ := rp2.get hb (lk_of_mem sL hqL)
            obtain ⟨o, ho, hoe⟩ := ci2.getZ q'.1.1
            walk_at "rd"
            refine ⟨o, ho, ?_⟩
            rw [hoe]
            walk_at "rd"
            refine nF (congrArg V.int hcn) ?_
            walk_at "rd"
            by_cases hf : q'.2.1 % 2 = 1
            · refine dT (congrArg V.int hf) ?_
              obtain ⟨p1, p2, p3⟩ := S.par q'.1.1 q'.2 (by omega) hm hf
              have g1 := ci2.get q'.1.1
              have e1 : cntV (cnt L) q'.1.1 = some (.int 1) := by
                unfold cntV
                rw [if_neg (by omega)]
                congr 2
                omega
              rw [e1] at g1
              walk_at "rd"
              refine ⟨d, L, rk, q'.1.1, q'.2, rfl, rp2, hL, S, hm, hf, fun H3 k3 => ?_⟩
              walk_at "rd"
              exact ⟨k2.trans k3, ⟨_, _, _, _, rfl⟩⟩
            · refine dF (fun z => hf (V.int.inj z)) ?_
              exact ⟨k2, ⟨_, _, _, _, rfl⟩⟩
          · exact ⟨k2, ⟨_, _, _, _, rfl⟩⟩
        · exact ⟨k2, ⟨_, _, _, _, rfl⟩⟩
      · rintro σ H2 k2 ⟨x2, x3, x4, x5, rfl⟩
        have rp2 : Rep H2 d L := rp.keep (k2.tup (NoTup.nil _)) fun o e => k2.at e (by simp)
        obtain ⟨r, hr1, hr2, hr3, hr4⟩ := S.root
        have hisd := rp2.isD
        walk_at "rd"
        intro p hp
        have rp3 := rp2.new (o := .tup (tv (nk 1))) hp
        walk_at "rd"
        intro p2 hp2
        have rp4 := rp3.new (o := .tup [.int 0, .int 0]) hp2
        obtain ⟨a, g, t⟩ := rp4.get (b := p) (k := nk 1) ((T3.at (H := H2)).new hp2) (lk_of_mem sL hr1)
        refine ⟨_, g, ?_⟩
        walk_at "rd"
        refine dT (congrArg V.int hr2) ?_
        walk_at "rd"
        refine dT (congrArg V.int hr3) ?_
        walk_at "rd"
        have e : decide (V.int r.2 = V.int 1) = true := decide_eq_true (congrArg V.int hr4)
        show Q (.bl (decide (V.int r.2 = V.int 1))) _
        rw [e]
        exact q _ (((k01.trans k2).trans (Keep.new hp)).trans (Keep.new hp2))
end
end K41

/-! Sound. -/
namespace K41
open PySem PySem.Spec PyProof.Rows L2 TL
def KeyAt (H : Hp) (y : V) (q : Itm) : Prop := ∃ b, y = .ref b ∧ T3 H b q.1
theorem sortD_data {H : Hp} {d : Addr} {L : List Itm} (rep : RepR H d L) : ∃ kvs ks, Rd H d (.dT kvs) ∧ kvs.map (·.1) = ks.map tk ∧ ∀ bs : List (Addr × K3), (bs.map (·.2)).Perm ks → (bs.map (·.2)).Pairwise (fun a b => ¬ ltK b a) → (∀ x ∈ bs, H x.1 = some (.tup (tv x.2))) → Paired (KeyAt H) (bs.map fun x => V.ref x.1) L := by
  obtain ⟨kvs, h1, h2⟩ := rep
  obtain ⟨ks, e1, e2⟩ := h2.keys
  refine ⟨kvs, ks, h1, e1, fun bs pm pw hb => ?_⟩
  have hk : bs.map (·.2) = L.map (·.1) := keys_sorted h2.1 (pm.trans e2) pw
  have key : ∀ {bs : List (Addr × K3)} {L : List Itm}, bs.map (·.2) = L.map (·.1) → (∀ x ∈ bs, H x.1 = some (.tup (tv x.2))) → Paired (KeyAt H) (bs.map fun x => V.ref x.1) L := by
    intro bs
    induction bs with
    | nil =>
      intro L e _
      cases L with
      | nil => exact .nil
      | cons _ _ => cases e
    | cons x r ih =>
      intro L e hb
      cases L with
      | nil => cases e
      | cons p l =>
        rw [List.map_cons, List.map_cons] at e
        injection e with e1 e2
        refine .cons ⟨x.1, rfl, ?_⟩ (ih e2 fun y m => hb y (List.mem_cons_of_mem _ m))
        have := hb x List.mem_cons_self
        rw [e1] at this
        exact this
  exact key hk hb
theorem Sound.sumPre {L : List Itm} (h : Sound L) : SumPre L := by
  obtain ⟨rk, R, S, C⟩ := h
  refine ⟨fun p m e => nk_of (v := p.2) (S.fit p.1 p.2 m) e, fun p m e => ?_⟩
  rcases S.fit p.1 p.2 m with f | ⟨f1, _, w, f, _⟩
  · have := f.2.1; omega
  · exact ⟨f1, w, lk_of_mem S.srt f⟩
section
variable {P : Program} {w : World} {K : PySem.W.Frag} {mg : Str → Option Value} {base : Heap}
local macro_rules | `(tactic| walk_at "rd") => `(tactic| repeat (first | refine ⟨_, rfl, ?_⟩ | refine ⟨_, _, rfl, rfl, ?_⟩ | refine ⟨_, _, rfl, ?_⟩ | refine ⟨_, _, _, rfl, ?_⟩ | refine ⟨_, _, _, _, rfl, ?_⟩ | refine ⟨rfl, ?_⟩ | refine ⟨(by show (0 : Int) < _; decide), ?_⟩ | refine ⟨cdw (by decide) (by decide), ?_⟩ | refine ⟨Or.inl (by decide), ?_⟩ | refine ⟨Or.inr (by decide), ?_⟩ | refine And.intro len4v ?_ | refine And.intro len3v ?_ | refine And.intro len2v ?_ | refine And.intro len1v ?_ | refine And.intro len0v ?_ | refine And.intro (by assumption) ?_ | refine And.intro (SS.ty (by assumption)) ?_ | refine And.intro (tyL (by assumption)) ?_ | refine ⟨_, _, _, _, rfl, rfl, sqT_of (by assumption), (by rfl), ?_⟩ | refine ⟨_, _, _, rfl, rfl, (by assumption), (by assumption), ?_⟩ | refine ⟨_, _, rfl, (by assumption), ?_⟩ | refine ⟨_, _, _, _, _, rfl, (by assumption), rfl, (by assumption), (by assumption), ?_⟩ | refine And.intro (IntD.isD (by assumption)) ?_ | refine And.intro (Rep.isD (by assumption)) ?_ | refine ⟨_, _, rfl, sqT_of (by assumption), (by rfl), ?_⟩ | refine ⟨_, _, _, _, rfl, rfl, sqL_of (by assumption), (by rfl), ?_⟩ | refine ⟨_, _, _, _, rfl, rfl, sqL_of upd_same, (by rfl), ?_⟩ | refine ⟨_, _, rfl, Or.inl (sqL_of (by assumption)), ?_⟩ | refine ⟨_, _, _, _, rfl, rfl, upd_same, (by rfl), ?_⟩ | refine ⟨_, _, _, _, rfl, rfl, (by assumption), (by rfl), ?_⟩ | refine ⟨⟨by decide, by decide, by decide⟩, ?_⟩ | refine And.intro (lenNv (by simp only [List.length_cons, List.length_nil]; omega)) ?_))
def spSound : Sp := fun vs H Q _ => ∃ (a : Addr) (xs : List V) (L : List Itm), vs = [.ref a] ∧ H a = some (.lst xs) ∧ Items H xs L ∧ L.length < 80000 ∧ Sound L ∧ ∀ H', Keep [] H H' → Q (.bl true) H'
abbrev s__law_is_sound : Stmt := top 62
theorem sc__law_is_sound : FnScope ["items", "held", "key", "sums", "owner", "row"] ["items"] (defScope s__law_is_sound) := ⟨rfl, rfl, rfl, by decide +kernel, rfl, by decide +kernel, by decide +kernel⟩
theorem ok__law_is_sound {f : Addr} {fd : FuncData} (F : Fun K "_law_is_sound" "_law_is_sound" s__law_is_sound f fd) (T : Txt mg) (C__law_held : CHeld P w K mg base) (C__law_fits : Cl P w K mg base 1 "_law_fits" ["held", "key"] spFits) (C__law_sums : CSums P w K mg base)
    (C__law_is_linked : Cl P w K mg base 2 "_law_is_linked" ["held"] spLinked) : FnOk P w K mg base CX0 3 f fd ["items"] spSound := by
  refine F.ok sc__law_is_sound (fun vs H Q E h => ?_) (fun cdv A outer s H vs Q E hr h => ?_)
  · obtain ⟨_, _, _, rfl, _⟩ := h
    rfl
  · obtain ⟨a, xs, L, rfl, ha, it, hL, snd, q⟩ := h
    refine ⟨_, (pss_cons (ps_set (i := 1) sc__law_is_sound.nd rfl (Or.inl rfl) (pe_own C__law_held hr (by decide) rfl (pa_cons (pv 0) pa_nil)))
  (pss_cons (ps_if (pt_cmpR (op_neD hr.units) (pe_lc (own := [("row", 5)]) (g := gName 5) (tt := tYes) rfl sc__law_is_sound.nd (pi_list (pv 0)) (blkOk_by (N := ["items", "held", "key", "sums", "owner", "row"]) (sc := defScope s__law_is_sound) (by decide +kernel)) (fun _ _ _ _ _ => pg_name (i := 5) sc__law_is_sound.nd rfl (Or.inl rfl)) (fun _ _ _ _ _ => pts_nil) (fun _ _ _ _ _ => (pe_ix (ix_tupK (K := K) rfl) (pv 5) pe_int (fun _ _ => rfl)))) (pe_callB (cr_sortD rfl) (by rfl) T.b_sorted (by decide +kernel) (pa_cons (pv 1) pa_nil)) (nomark _))
  (pss_one (ps_ret pe_bl))
  pss_nil)
  (pss_cons (ps_for PassesOwn.never rfl (pi_list (pe_callB (cr_sortD rfl) (by rfl) T.b_sorted (by decide +kernel) (pa_cons (pv 1) pa_nil))) (pg_name (i := 2) sc__law_is_sound.nd rfl (Or.inl rfl))
  (pss_one (ps_if (pt_not (pt_val (pe_own C__law_fits hr (by decide) rfl (pa_cons (pv 1) (pa_cons (pv 2) pa_nil)))))
  (pss_one (ps_ret pe_bl))
  pss_nil)))
  (pss_cons (ps_set (i := 3) sc__law_is_sound.nd rfl (Or.inl rfl) (pe_own C__law_sums hr (by decide) rfl (pa_cons (pv 1) pa_nil)))
  (pss_cons (ps_lock (ps_for PassesOwn.never rfl (pi_keys (pv 3)) (pg_name (i := 4) sc__law_is_sound.nd rfl (Or.inl rfl))
  (pss_one (ps_if (pt_cmp (pc_dnotin (hu_of hr) (pe_tup (pa_cons pe_int (pa_cons pe_int (pa_cons (pv 4) pa_nil)))) (pv 1)))
  (pss_one (ps_ret pe_bl))
  pss_nil))))
  (pss_cons (ps_for PassesOwn.never rfl (pi_list (pe_callB (cr_sortD rfl) (by rfl) T.b_sorted (by decide +kernel) (pa_cons (pv 1) pa_nil))) (pg_name (i := 2) sc__law_is_sound.nd rfl (Or.inl rfl))
  (pss_one (ps_if (PW.pt (pw_and (pt_cmpR op_eq (pe_ix ix_tup (pv 2) pe_int (fun _ _ => rfl)) pe_int (nomark _)) (pw_and1 (pt_cmpR op_ne (pe_ix ix_tup (pe_dget (hu_of hr) (pv 1) (pv 2) (fun _ _ => rfl)) pe_int (fun _ _ => rfl)) (pe_dget2 (hu_of hr) (pv 3) (pe_ix ix_tup (pv 2) pe_int (fun _ _ => rfl)) pe_int ⟨rfl, rfl, rfl, rfl⟩) (nomark _)))))
  (pss_one (ps_ret pe_bl))
  pss_nil)))
  (pss_one (ps_ret (pe_own C__law_is_linked hr (by decide) rfl (pa_cons (pv 1) pa_nil)))))))))), ?_⟩
    have preS := snd.sumPre
    obtain ⟨rk, R, S, C⟩ := snd
    have sL := S.srt
    walk_at "rd"
    refine ⟨a, xs, L, rfl, ha, it, sL, by omega, fun H1 d k1 hd rep => ?_⟩
    have ha1 := k1.at ha (by simp)
    have it1 : Items H1 xs L := it.keep (k1.tup (NoTup.nil _))
    dsimp only [gName, tSeq, tIfS, tTest, tOp]
    refine lc_items KeyAt (fun _ => true) (sqL_of ha1) it1 (fun Q q => ⟨_, rfl, q⟩) (by omega) (fun H H' x q k ⟨b, e, t⟩ => ⟨b, e, t.keep k⟩) ?_ ?_
    · rintro x q' H5 N1 N2 hq k5 ⟨a', b', c', rfl, t1, t2, t3⟩ n1 n2
      walk_at "rd"
      exact n1 _ _ (Keep.refl _ _) ⟨b', rfl, t2⟩ rfl
    intro D H2 ys hD k2 e2 i2
    have ef : L.filter (fun _ => true) = L := List.filter_eq_self.mpr fun _ _ => rfl
    rw [ef] at i2
    have rep2 : Rep H2 d L := rep.keep (k2.tup (NoTup.nil _)) fun o e => k2.at e (by simp)
    walk_at "rd"
    obtain ⟨kvs, ks, r1, r2, r3⟩ := sortD_data rep2.r
    refine ⟨d, kvs, ks, rfl, r1, r2, fun p bs hp pm pw hb => ?_⟩
    have iz := r3 bs pm pw hb
    generalize (bs.map fun x => V.ref x.1) = zs at *
    have tkp : TupK H2 (upd H2 p (.lst zs)) := TupK.new hp
    have e2p : upd H2 p (.lst zs) D = some (.lst ys) := by rw [upd_ne (ne_of_none e2 hp)]; exact e2
    have sh : SeqAt.shaped (.list (L.map fun q => dT3 q.1)) = true := shL (fun q : Itm => dT3 q.1) 1 (by omega) (fun q => clT3 q.1) L
    refine ⟨_, _, .lst (sqL_of e2p) (dpAll (f := fun q : Itm => dT3 q.1) (R := KeyAt (upd H2 p (.lst zs))) (fun x q ⟨b, e, t⟩ => by rw [e]; exact dpT3 t) (Paired.mapP i2 fun x q ⟨b, e, t⟩ => ⟨b, e, t.keep tkp⟩)),
      .lst (sqL_of upd_same) (dpAll (f := fun q : Itm => dT3 q.1) (R := KeyAt (upd H2 p (.lst zs))) (fun x q ⟨b, e, t⟩ => by rw [e]; exact dpT3 t) (Paired.mapP iz fun x q ⟨b, e, t⟩ => ⟨b, e, t.keep tkp⟩)), sh, sh, ?_⟩
    rw [eqvSelf sh]
    have rep3 : Rep (upd H2 p (.lst zs)) d L := rep2.new hp
    have k13 : Keep [] H (upd H2 p (.lst zs)) := (k1.trans k2).trans (Keep.new hp)
    generalize upd H2 p (.lst zs) = H3 at *
    clear rep2 i2 e2 e2p iz r1 r2 r3 tkp hb hp
    refine ⟨_, rfl, ?_⟩
    refine bF rfl ?_
    dsimp only [tNext, tSeq]
    refine for_sorted rep3.r (fun Q q => ⟨_, rfl, q⟩) (S := []) (by simp) (NoTup.nil _) (fun i σ H' => ∃ x2 x3 x4 x5, σ = [some (.ref a), some (.ref d), x2, x3, x4, x5]) ?_ ?_ ?_
    · exact fun p o hp => ⟨_, _, _, _, rfl⟩
    · rintro G i q' b σ H4 hq ⟨x2, x3, x4, x5, rfl⟩ kG k4 hb
      have hqL : q' ∈ L := List.mem_of_getElem? hq
      have k34 : Keep [] H3 H4 := kG.trans k4
      have rep4 : Rep H4 d L := rep3.keep (k34.tup (NoTup.nil _)) fun o e => k34.at e (by simp)
      walk_at "rd"
      refine ⟨d, b, L, q'.1, q'.2, rfl, rep4, hb, hqL, S.fit _ _ hqL, fun H5 k5 => ?_⟩
      walk_at "rd"
      exact ⟨k4.trans k5, _, _, _, _, rfl⟩
    · rintro σ H4 k4 ⟨x2, x3, x4, x5, rfl⟩
      have rep4 : Rep H4 d L := rep3.keep (k4.tup (NoTup.nil _)) fun o e => k4.at e (by simp)
      walk_at "rd"
      refine ⟨by omega, preS, fun H5 cs hcs k5 cS => ?_⟩
      have rep5 : Rep H5 d L := rep4.keep (k5.tup (NoTup.nil _)) fun o e => k5.at e (by simp)
      have csd := cS.neT rep5
      dsimp only [gName, tSeq]
      refine for_keysK cS (fun H1 Q q => ⟨_, rfl, q⟩) (S := []) (by simp) (fun R σ H' => (∃ x2 x4 x5, σ = [some (.ref a), some (.ref d), x2, some (.ref cs), x4, x5]) ∧ Rep H' d L) ?_ ?_ ?_
      · intro HL hHL
        refine ⟨⟨_, _, _, rfl⟩, rep5.keep (fun b xs e => ?_) fun o e => by rw [hHL d csd.symm]; exact e⟩
        obtain ⟨_, e1, _⟩ := cS
        rw [hHL b fun z => by rw [z, e1] at e; cases e]
        exact e
      · rintro G R' n σ H6 rt bk hn ⟨⟨x2, x4, x5, rfl⟩, rep6⟩ k6 hlen
        have hpos : 0 < used L n := by
          unfold cntV at hn
          by_cases z : used L n = 0
          · simp [z] at hn
          · omega
        obtain ⟨v, hv⟩ := C.has n hpos
        walk_at "rd"
        intro p hp
        have rep7 := rep6.new (o := .tup (tv (ck n))) hp
        obtain ⟨a7, g7, t7⟩ := rep7.get (b := p) (k := ck n) T3.at (lk_of_mem sL hv)
        walk_at "rd"
        exact ⟨k6.trans (Keep.new hp), ⟨_, _, _, rfl⟩, rep7⟩
      rintro R' σ H6 H7 hR' ⟨⟨x2, x4, x5, rfl⟩, _⟩ e7 cS7 k7
      have rep7 : Rep H7 d L := rep5.keep (k7.tup (NoTup.nil _)) fun o e => k7.at e (by simp)
      dsimp only [tSeq]
      refine for_sorted rep7.r (fun Q q => ⟨_, rfl, q⟩) (S := []) (by simp) (NoTup.nil _) (fun i σ H' => ∃ x2 x4 x5, σ = [some (.ref a), some (.ref d), x2, some (.ref cs), x4, x5]) ?_ ?_ ?_
      · exact fun p o hp => ⟨_, _, _, rfl⟩
      · rintro G i q' b σ H8 hq ⟨x2, x4, x5, rfl⟩ kG k8 hb
        have hqL : q' ∈ L := List.mem_of_getElem? hq
        have k78 : Keep [] H7 H8 := kG.trans k8
        have rep8 : Rep H8 d L := rep7.keep (k78.tup (NoTup.nil _)) fun o e => k78.at e (by simp)
        have c8 := cS7.keep k78 (by simp)
        walk_at "rd"
        by_cases h0 : q'.1.1 = 0
        · refine dT (congrArg V.int h0) ?_
          obtain ⟨a8, g8, t8⟩ := rep8.get hb (lk_of_mem sL hqL)
          have hch : q'.1 = ck q'.1.2.2 := by
            rcases S.fit q'.1 q'.2 hqL with f | f
            · exact Prod.ext f.1 (Prod.ext f.2.1 rfl)
            · have := f.1; omega
          have hu := C.right q'.1.2.2 q'.2 (by rw [← hch]; exact hqL)
          obtain ⟨oz, z1, z2⟩ := c8.getZ q'.1.2.2
          walk_at "rd"
          refine ⟨oz, z1, ?_⟩
          rw [z2]
          walk_at "rd"
          refine nF (congrArg V.int hu) ?_
          exact ⟨k8, _, _, _, rfl⟩
        · refine dF (fun z => h0 (V.int.inj z)) ?_
          exact ⟨k8, _, _, _, rfl⟩
      · rintro σ H8 k8 ⟨x2, x4, x5, rfl⟩
        have rep8 : Rep H8 d L := rep7.keep (k8.tup (NoTup.nil _)) fun o e => k8.at e (by simp)
        walk_at "rd"
        refine ⟨d, L, rk, rfl, rep8, by omega, S, fun H9 k9 => ?_⟩
        exact q H9 ((((((k13.trans k4).trans k5).trans k7).trans k8)).trans k9)
end
end K41

/-! Named. -/
namespace K41
open PySem PySem.Spec PyProof.Rows L2 TL
/-- a dict whose keys are the triples of S -/
def NamD (H : Hp) (d : Addr) (S : K3 → Prop) (B : Nat) : Prop := ∃ kvs : List (List L2.Key × V), H d = some (.dT kvs) ∧ (∀ k, (valV kvs (tk k)).isSome = true ↔ S k) ∧ kvs.length ≤ B
theorem NamD.new {H : Hp} {d p : Addr} {S : K3 → Prop} {B : Nat} {o : HO} (h : NamD H d S B) (hp : H p = none) : NamD (upd H p o) d S B := by
  obtain ⟨kvs, h1, h2⟩ := h
  exact ⟨kvs, by rw [upd_ne (ne_of_none h1 hp)]; exact h1, h2⟩
theorem NamD.keep {H H' : Hp} {d : Addr} {S : K3 → Prop} {B : Nat} {Z : List Addr} (h : NamD H d S B) (k : Keep Z H H') (n : d ∉ Z) : NamD H' d S B := by
  obtain ⟨kvs, h1, h2⟩ := h
  exact ⟨kvs, k.at h1 n, h2⟩
theorem NamD.mono {H : Hp} {d : Addr} {S S' : K3 → Prop} {B B' : Nat} (h : NamD H d S B) (e : ∀ k, S k ↔ S' k) (l : B ≤ B') : NamD H d S' B' := by
  obtain ⟨kvs, h1, h2, h3⟩ := h
  exact ⟨kvs, h1, fun k => (h2 k).trans (e k), Nat.le_trans h3 l⟩
theorem putK_le {κ : Type} [DecidableEq κ] (kvs : List (κ × V)) (k : κ) (v : V) : (putK kvs k v).length ≤ kvs.length + 1 := by
  unfold putK
  split <;> simp
theorem NamD.put {H : Hp} {d b : Addr} {S : K3 → Prop} {B : Nat} {k : K3} {v : V} (h : NamD H d S B) (hb : T3 H b k) (hB : B < 1000000) : ∃ o, DPut H d (.ref b) v (upd H d o) ∧ NamD (upd H d o) d (fun j => j = k ∨ S j) (B + 1) ∧ TupK H (upd H d o) := by
  obtain ⟨kvs, h1, h2, h3⟩ := h
  refine ⟨_, DPut.t (k := tk k) h1 hb (by rw [sizeLine_eq]; omega), ⟨_, upd_same, fun j => ?_, ?_⟩, TupK.set h1 fun _ z => nomatch z⟩
  · rw [valV_put]
    by_cases e : j = k
    · subst e
      simp
    · rw [if_neg fun z => e (tk_inj z), h2]
      constructor
      · exact fun h => .inr h
      · exact fun h => h.resolve_left e
  · have := putK_le kvs (tk k) v
    omega
theorem NamD.has {H : Hp} {d b : Addr} {S : K3 → Prop} {B : Nat} {k : K3} (h : NamD H d S B) (hb : T3 H b k) : ∃ o, DGet H d (.ref b) o ∧ (o.isSome = true ↔ S k) := by
  obtain ⟨kvs, h1, h2, _⟩ := h
  exact ⟨_, DGet.t (k := tk k) h1 hb, h2 k⟩
theorem named_snoc (ls : List Loss) (m : Loss) (k : K3) : NamedIn (ls ++ [m]) k ↔ NamedIn ls k ∨ Named m k := by
  constructor
  · rintro ⟨x, hx, n⟩
    rcases List.mem_append.mp hx with hx | hx
    · exact .inl ⟨x, hx, n⟩
    · rw [List.mem_singleton.mp hx] at n
      exact .inr n
  · rintro (⟨x, hx, n⟩ | n)
    · exact ⟨x, List.mem_append_left _ hx, n⟩
    · exact ⟨m, by simp, n⟩
section
variable {P : Program} {w : World} {K : PySem.W.Frag} {mg : Str → Option Value} {base : Heap}
local macro_rules | `(tactic| walk_at "rd") => `(tactic| repeat (first | refine ⟨_, rfl, ?_⟩ | refine ⟨_, _, rfl, rfl, ?_⟩ | refine ⟨_, _, rfl, ?_⟩ | refine ⟨_, _, _, rfl, ?_⟩ | refine ⟨_, _, _, _, rfl, ?_⟩ | refine ⟨rfl, ?_⟩ | refine ⟨(by show (0 : Int) < _; decide), ?_⟩ | refine ⟨cdw (by decide) (by decide), ?_⟩ | refine ⟨Or.inl (by decide), ?_⟩ | refine ⟨Or.inr (by decide), ?_⟩ | refine And.intro len4v ?_ | refine And.intro len3v ?_ | refine And.intro len2v ?_ | refine And.intro len1v ?_ | refine And.intro len0v ?_ | refine And.intro (by assumption) ?_ | refine And.intro (SS.ty (by assumption)) ?_ | refine And.intro (tyL (by assumption)) ?_ | refine ⟨_, _, _, _, rfl, rfl, sqT_of (by assumption), (by rfl), ?_⟩ | refine ⟨_, _, _, rfl, rfl, (by assumption), (by assumption), ?_⟩ | refine ⟨_, _, rfl, (by assumption), ?_⟩ | refine ⟨_, _, _, _, _, rfl, (by assumption), rfl, (by assumption), (by assumption), ?_⟩ | refine And.intro (IntD.isD (by assumption)) ?_ | refine And.intro (Rep.isD (by assumption)) ?_ | refine ⟨_, _, rfl, sqT_of (by assumption), (by rfl), ?_⟩ | refine ⟨_, _, _, _, rfl, rfl, sqL_of (by assumption), (by rfl), ?_⟩ | refine ⟨_, _, _, _, rfl, rfl, sqL_of upd_same, (by rfl), ?_⟩ | refine ⟨_, _, rfl, Or.inl (sqL_of (by assumption)), ?_⟩ | refine ⟨_, _, _, _, rfl, rfl, upd_same, (by rfl), ?_⟩ | refine ⟨_, _, _, _, rfl, rfl, (by assumption), (by rfl), ?_⟩ | refine ⟨⟨by decide, by decide, by decide⟩, ?_⟩ | refine And.intro (lenNv (by simp only [List.length_cons, List.length_nil]; omega)) ?_))
def spNamed : Sp := fun vs H Q _ => ∃ (l : Addr) (xs : List V) (ls : List Loss), vs = [.ref l] ∧ H l = some (.lst xs) ∧ LossesAt H xs ls ∧ ls.length < 90000 ∧ (∀ n j, Loss.moved n j ∈ ls → (nmL cN n.toNat j).length ≤ 11) ∧
  ∀ H' d, Keep [] H H' → H d = none → NamD H' d (NamedIn ls) (2 * ls.length) → Q (.ref d) H'
abbrev s__law_named : Stmt := top 63
theorem sc__law_named : FnScope ["losses", "named", "loss"] ["losses"] (defScope s__law_named) := ⟨rfl, rfl, rfl, by decide +kernel, rfl, by decide +kernel, by decide +kernel⟩
theorem ok__law_named {f : Addr} {fd : FuncData} (F : Fun K "_law_named" "_law_named" s__law_named f fd) (T : Txt mg) (C__law_word : CWord P w K mg base) : FnOk P w K mg base CX0 2 f fd ["losses"] spNamed := by
  refine F.ok sc__law_named (fun vs H Q E h => ?_) (fun cdv A outer s H vs Q E hr h => ?_)
  · obtain ⟨_, _, _, rfl, _⟩ := h
    rfl
  · obtain ⟨l, xs, ls, rfl, hl, los, hL, hmv, q⟩ := h
    refine ⟨_, (pss_cons (ps_set (i := 1) sc__law_named.nd rfl (Or.inl rfl) pe_dnewT)
  (pss_cons (ps_for PassesOwn.never rfl (pi_list (pv 0)) (pg_name (i := 2) sc__law_named.nd rfl (Or.inl rfl))
  (pss_cons (ps_if (pt_cmpR op_eq (pe_ix ix_tup (pv 2) pe_int (fun _ _ => rfl)) pe_str (nomark _))
  (pss_one (ps_dput (hu_of hr) (pv 1) (pe_tup (pa_cons pe_int (pa_cons pe_int (pa_cons pe_int pa_nil)))) pe_bl rfl))
  pss_nil)
  (pss_cons (ps_if (PW.pt (pw_or (pt_cmpR op_eq (pe_ix ix_tup (pv 2) pe_int (fun _ _ => rfl)) pe_str (nomark _)) (pw_or1 (pt_cmpR op_eq (pe_ix ix_tup (pv 2) pe_int (fun _ _ => rfl)) pe_str (nomark _)))))
  (pss_one (ps_dput (hu_of hr) (pv 1) (pe_ix ix_tup (pv 2) pe_int (fun _ _ => rfl)) pe_bl rfl))
  pss_nil)
  (pss_cons (ps_if (PW.pt (pw_or (pt_cmpR op_eq (pe_ix ix_tup (pv 2) pe_int (fun _ _ => rfl)) pe_str (nomark _)) (pw_or1 (pt_cmpR op_eq (pe_ix ix_tup (pv 2) pe_int (fun _ _ => rfl)) pe_str (nomark _)))))
  (pss_one (ps_dput (hu_of hr) (pv 1) (pe_tup (pa_cons (pe_ix ix_tup (pv 2) pe_int (fun _ _ => rfl)) (pa_cons pe_int (pa_cons pe_int pa_nil)))) pe_bl rfl))
  pss_nil)
  (pss_cons (ps_if (pt_cmpR op_eq (pe_ix ix_tup (pv 2) pe_int (fun _ _ => rfl)) pe_str (nomark _))
  (pss_one (ps_dput (hu_of hr) (pv 1) (pe_tup (pa_cons pe_int (pa_cons pe_int (pa_cons (pe_own C__law_word hr (by decide) rfl (pa_cons (pe_ix ix_tup (pv 2) pe_int (fun _ _ => rfl)) pa_nil)) pa_nil)))) pe_bl rfl))
  pss_nil)
  (pss_one (ps_if (pt_cmpR op_eq (pe_ix ix_tup (pv 2) pe_int (fun _ _ => rfl)) pe_str (nomark _))
  (pss_one (ps_dput (hu_of hr) (pv 1) (pe_tup (pa_cons pe_int (pa_cons pe_int (pa_cons (pe_ix ix_tup (pv 2) pe_int (fun _ _ => rfl)) pa_nil)))) pe_bl rfl))
  pss_nil)))))))
  (pss_one (ps_ret (pv 1))))), ?_⟩
    intro d hd
    have ld : l ≠ d := ne_of_none hl hd
    have hl1 : upd H d (.dT []) l = some (.lst xs) := by rw [upd_ne ld]; exact hl
    have lxs : xs.length = ls.length := Paired.length los
    dsimp only [gName, tSeq]
    refine for_seq (a := l) (xs := xs) (S := [d]) (.inl (.inl hl1)) (fun Q q => ⟨_, rfl, q⟩) (by simpa using ld) (fun i σ H1 => (∃ x2, σ = [some (.ref l), some (.ref d), x2]) ∧ NamD H1 d (NamedIn (ls.take i)) (2 * i)) ⟨⟨_, rfl⟩, [], upd_same, fun k => by constructor; (intro h; cases h); (rintro ⟨x, hx, _⟩; cases hx), Nat.zero_le _⟩ ?_ ?_
    · rintro i x σ H1 hx ⟨⟨x2, rfl⟩, nd⟩ k1
      obtain ⟨m, hm, lat⟩ := Paired.get los hx
      have hi : i < ls.length := (List.getElem?_eq_some_iff.mp hm).1
      have et : ls.take (i + 1) = ls.take i ++ [m] := by rw [List.take_add_one, hm]; rfl
      have tk : TupK H H1 := (TupK.new (o := .dT []) hd).trans (k1.tup (.one upd_same fun _ z => nomatch z))
      have lat1 := lat.keep tk
      have fin : ∀ H2 B', Keep [d] H1 H2 → NamD H2 d (fun k => Named m k ∨ NamedIn (ls.take i) k) B' → B' ≤ 2 * (i + 1) → Keep [d] (upd H d (.dT [])) H2 ∧ (∃ y, [some (V.ref l), some (V.ref d), some x] = [some (V.ref l), some (.ref d), y]) ∧ NamD H2 d (NamedIn (ls.take (i + 1))) (2 * (i + 1)) := fun H2 B' k2 n2 hB => by
        refine ⟨k1.trans k2, ⟨_, rfl⟩, n2.mono (fun k => ?_) hB⟩
        rw [et, named_snoc]
        exact or_comm
      cases m with
      | root =>
        obtain ⟨a, rfl, e1⟩ := lat1
        walk_at "rd"
        intro p hp
        have n1 := nd.new (o := .tup (tv (nk 1))) hp
        obtain ⟨o, p1, p2, p3⟩ := n1.put (b := p) (k := (nk 1)) (v := .bl true) T3.at (by omega)
        have e2 := ((TupK.new (o := .tup (tv (nk 1))) hp).trans p3) _ _ e1
        walk_at "rd"
        exact fin _ _ ((Keep.new hp).trans (Keep.set (by simp))) p2 (by omega)
      | item k =>
        obtain ⟨a, bb, rfl, e1, tb⟩ := lat1
        obtain ⟨o, p1, p2, p3⟩ := nd.put (b := bb) (k := k) (v := .bl true) tb (by omega)
        have e2 := p3 _ _ e1
        walk_at "rd"
        exact fin _ _ (Keep.set (by simp)) p2 (by omega)
      | entry k c =>
        obtain ⟨a, bb, rfl, e1, tb⟩ := lat1
        obtain ⟨o, p1, p2, p3⟩ := nd.put (b := bb) (k := k) (v := .bl true) tb (by omega)
        have e2 := p3 _ _ e1
        walk_at "rd"
        exact fin _ _ (Keep.set (by simp)) p2 (by omega)
      | moved n j =>
        obtain ⟨a, z, rfl, e1, hz⟩ := lat1
        have hok : OkName (tl z) := by rw [hz]; exact nmL_ok code_cN (hmv n j (List.mem_of_getElem? hm))
        have hwd : wordOf (tl z) = nw cN n.toNat j := by rw [hz]; rfl
        walk_at "rd"
        intro p hp
        have n1 := nd.new (o := .tup (tv (nk n))) hp
        obtain ⟨o, p1, p2, p3⟩ := n1.put (b := p) (k := nk n) (v := .bl true) T3.at (by omega)
        have e2 := ((TupK.new (o := .tup (tv (nk n))) hp).trans p3) _ _ e1
        have kq : Keep [d] H1 (upd (upd H1 p (.tup (tv (nk n)))) d o) := (Keep.new hp).trans (Keep.set (by simp))
        walk_at "rd"
        intro p5 hp5
        have n5 := p2.new (o := .tup (tv (1, 1, wordOf (tl z)))) hp5
        obtain ⟨o6, q1, q2, q3⟩ := n5.put (b := p5) (k := (1, 1, wordOf (tl z))) (v := .bl true) T3.at (by omega)
        have e6 := ((TupK.new (o := .tup (tv (1, 1, wordOf (tl z)))) hp5).trans q3) _ _ e2
        walk_at "rd"
        refine fin _ _ ((kq.trans (Keep.new hp5)).trans (Keep.set (by simp))) (q2.mono (fun k => ?_) (Nat.le_refl _)) (by omega)
        rw [hwd]
        show (k = _ ∨ k = nk n ∨ _) ↔ ((k = nk n ∨ k = _) ∨ _)
        constructor
        · rintro (h | h | h)
          · exact .inl (.inr h)
          · exact .inl (.inl h)
          · exact .inr h
        · rintro ((h | h) | h)
          · exact .inr (.inl h)
          · exact .inl h
          · exact .inr (.inr h)
      | links n o u =>
        obtain ⟨a, rfl, e1⟩ := lat1
        walk_at "rd"
        intro p hp
        have n1 := nd.new (o := .tup (tv (nk n))) hp
        obtain ⟨oo, p1, p2, p3⟩ := n1.put (b := p) (k := (nk n)) (v := .bl true) T3.at (by omega)
        have e2 := ((TupK.new (o := .tup (tv (nk n))) hp).trans p3) _ _ e1
        walk_at "rd"
        exact fin _ _ ((Keep.new hp).trans (Keep.set (by simp))) p2 (by omega)
      | charge o u v =>
        obtain ⟨a, rfl, e1⟩ := lat1
        walk_at "rd"
        intro p hp
        have n1 := nd.new (o := .tup (tv (ck o))) hp
        obtain ⟨oo, p1, p2, p3⟩ := n1.put (b := p) (k := (ck o)) (v := .bl true) T3.at (by omega)
        have e2 := ((TupK.new (o := .tup (tv (ck o))) hp).trans p3) _ _ e1
        walk_at "rd"
        exact fin _ _ ((Keep.new hp).trans (Keep.set (by simp))) p2 (by omega)
    · rintro σ H1 k1 ⟨⟨x2, rfl⟩, nd⟩
      rw [lxs, List.take_length] at nd
      exact ⟨_, rfl, q H1 d (((Keep.new (S := [d]) (o := .dT []) hd).trans k1).drop hd) hd nd⟩
abbrev CNamed (P : Program) (w : World) (K : PySem.W.Frag) (mg : Str → Option Value) (base : Heap) : Prop := Cl P w K mg base 2 "_law_named" ["losses"] spNamed
def spKept : Sp := fun vs H Q _ => ∃ (a1 a2 l : Addr) (xs ys zs : List V) (L M : List Itm) (ls : List Loss), vs = [.ref a1, .ref a2, .ref l] ∧ H a1 = some (.lst xs) ∧ Items H xs L ∧ Srt L ∧ H a2 = some (.lst ys) ∧ Items H ys M ∧ Srt M ∧ H l = some (.lst zs) ∧ LossesAt H zs ls ∧
  L.length < 90000 ∧ M.length < 90000 ∧ ls.length < 90000 ∧ (∀ n j, Loss.moved n j ∈ ls → (nmL cN n.toNat j).length ≤ 11) ∧ Kept L M ls ∧ ∀ H', Keep [] H H' → Q (.bl true) H'
abbrev s__law_is_kept : Stmt := top 64
theorem sc__law_is_kept : FnScope ["items", "mended", "losses", "before", "behind", "named", "key"] ["items", "mended", "losses"] (defScope s__law_is_kept) := ⟨rfl, rfl, rfl, by decide +kernel, rfl, by decide +kernel, by decide +kernel⟩
theorem ok__law_is_kept {f : Addr} {fd : FuncData} (F : Fun K "_law_is_kept" "_law_is_kept" s__law_is_kept f fd) (T : Txt mg) (C__law_held : CHeld P w K mg base) (C__law_named : CNamed P w K mg base) : FnOk P w K mg base CX0 3 f fd ["items", "mended", "losses"] spKept := by
  refine F.ok sc__law_is_kept (fun vs H Q E h => ?_) (fun cdv A outer s H vs Q E hr h => ?_)
  · obtain ⟨_, _, _, _, _, _, _, _, _, rfl, _⟩ := h
    rfl
  · obtain ⟨a1, a2, l, xs, ys, zs, L, M, ls, rfl, h1, i1, sL, h2, i2, sM, h3, los, hL, hM, hls, hmv, ⟨kp1, kp2⟩, q⟩ := h
    refine ⟨_, (pss_cons (ps_set (i := 3) sc__law_is_kept.nd rfl (Or.inl rfl) (pe_own C__law_held hr (by decide) rfl (pa_cons (pv 0) pa_nil)))
  (pss_cons (ps_set (i := 4) sc__law_is_kept.nd rfl (Or.inl rfl) (pe_own C__law_held hr (by decide) rfl (pa_cons (pv 1) pa_nil)))
  (pss_cons (ps_set (i := 5) sc__law_is_kept.nd rfl (Or.inl rfl) (pe_own C__law_named hr (by decide) rfl (pa_cons (pv 2) pa_nil)))
  (pss_cons (ps_for PassesOwn.never rfl (pi_list (pe_callB (cr_sortD rfl) (by rfl) T.b_sorted (by decide +kernel) (pa_cons (pv 3) pa_nil))) (pg_name (i := 6) sc__law_is_kept.nd rfl (Or.inl rfl))
  (pss_one (ps_if (PW.pt (pw_and (pt_cmp (pc_dnotin (hu_of hr) (pv 6) (pv 5))) (pw_and1 (pt_cmpR (op_neD hr.units) (pe_dget2 (hu_of hr) (pv 4) (pv 6) pe_non ⟨rfl, rfl, rfl, rfl⟩) (pe_dget (hu_of hr) (pv 3) (pv 6) (fun _ _ => rfl)) (nomark _)))))
  (pss_one (ps_ret pe_bl))
  pss_nil)))
  (pss_cons (ps_for PassesOwn.never rfl (pi_list (pe_callB (cr_sortD rfl) (by rfl) T.b_sorted (by decide +kernel) (pa_cons (pv 4) pa_nil))) (pg_name (i := 6) sc__law_is_kept.nd rfl (Or.inl rfl))
  (pss_one (ps_if (PW.pt (pw_and (pt_cmp (pc_dnotin (hu_of hr) (pv 6) (pv 5))) (pw_and1 (pt_cmp (pc_dnotin (hu_of hr) (pv 6) (pv 3))))))
  (pss_one (ps_ret pe_bl))
  pss_nil)))
  (pss_one (ps_ret pe_bl))))))), ?_⟩
    walk_at "rd"
    refine ⟨a1, xs, L, rfl, h1, i1, sL, hL, fun H1 d1 k1 hd1 r1 => ?_⟩
    have h21 := k1.at h2 (by simp)
    have i21 : Items H1 ys M := i2.keep (k1.tup (NoTup.nil _))
    walk_at "rd"
    refine ⟨a2, ys, M, rfl, h21, i21, sM, hM, fun H2 d2 k2 hd2 r2 => ?_⟩
    have k12 := k1.trans k2
    have h32 := k12.at h3 (by simp)
    have los2 : LossesAt H2 zs ls := Paired.mapP los fun _ _ r => r.keep (k12.tup (NoTup.nil _))
    walk_at "rd"
    refine ⟨l, zs, ls, rfl, h32, los2, hls, hmv, fun H3 d3 k3 hd3 n3 => ?_⟩
    have r1' : Rep H3 d1 L := r1.keep ((k2.trans k3).tup (NoTup.nil _)) fun o e => (k2.trans k3).at e (by simp)
    have r2' : Rep H3 d2 M := r2.keep (k3.tup (NoTup.nil _)) fun o e => k3.at e (by simp)
    have k13 := k12.trans k3
    dsimp only [gName, tSeq]
    refine for_sorted r1'.r (fun Q q => ⟨_, rfl, q⟩) (S := []) (by simp) (NoTup.nil _) (fun i σ H' => ∃ x6, σ = [some (.ref a1), some (.ref a2), some (.ref l), some (.ref d1), some (.ref d2), some (.ref d3), x6]) ?_ ?_ ?_
    · exact fun p o hp => ⟨_, rfl⟩
    · rintro G i q' b σ H4 hq ⟨x6, rfl⟩ kG k4 hb
      have hqL : q' ∈ L := List.mem_of_getElem? hq
      have k34 := kG.trans k4
      have r14 : Rep H4 d1 L := r1'.keep (k34.tup (NoTup.nil _)) fun o e => k34.at e (by simp)
      have r24 : Rep H4 d2 M := r2'.keep (k34.tup (NoTup.nil _)) fun o e => k34.at e (by simp)
      have n4 := n3.keep k34 (by simp)
      obtain ⟨o, g1, g2⟩ := n4.has hb
      walk_at "rd"
      refine bI ?_ ?_ <;> intro hn
      · have hm : (q'.1, q'.2) ∈ M := by
          rcases kp1 q'.1 q'.2 hqL with h | h
          · have := g2.mpr h
            rw [this] at hn
            cases hn
          · exact h
        obtain ⟨a5, g5, t5⟩ := r24.get hb (lk_of_mem sM hm)
        obtain ⟨a6, g6, t6⟩ := r14.get hb (lk_of_mem sL hqL)
        have hisd := r24.isD
        walk_at "rd"
        refine ⟨_, g5, ?_⟩
        walk_at "rd"
        refine ⟨dT2 q'.2, dT2 q'.2, dpT2 t5, dpT2 t6, shT2 _, shT2 _, ?_⟩
        rw [eqvSelf (shT2 _)]
        refine ⟨_, rfl, ?_⟩
        refine bF rfl ?_
        exact ⟨k4, _, rfl⟩
      · exact ⟨k4, _, rfl⟩
    · rintro σ H4 k4 ⟨x6, rfl⟩
      have r24 : Rep H4 d2 M := r2'.keep (k4.tup (NoTup.nil _)) fun o e => k4.at e (by simp)
      have r14 : Rep H4 d1 L := r1'.keep (k4.tup (NoTup.nil _)) fun o e => k4.at e (by simp)
      have n4 := n3.keep k4 (by simp)
      dsimp only [tSeq]
      refine for_sorted r24.r (fun Q q => ⟨_, rfl, q⟩) (S := []) (by simp) (NoTup.nil _) (fun i σ H' => ∃ x6, σ = [some (.ref a1), some (.ref a2), some (.ref l), some (.ref d1), some (.ref d2), some (.ref d3), x6]) ?_ ?_ ?_
      · exact fun p o hp => ⟨_, rfl⟩
      · rintro G i q' b σ H5 hq ⟨x6, rfl⟩ kG k5 hb
        have hqM : q' ∈ M := List.mem_of_getElem? hq
        have k45 := kG.trans k5
        have r15 : Rep H5 d1 L := r14.keep (k45.tup (NoTup.nil _)) fun o e => k45.at e (by simp)
        have n5 := n4.keep k45 (by simp)
        obtain ⟨o, g1, g2⟩ := n5.has hb
        obtain ⟨o2, g3, g4⟩ := r15.has hb
        walk_at "rd"
        refine bI ?_ ?_ <;> intro hn
        · have hm : ∃ u, (q'.1, u) ∈ L := by
            rcases kp2 q'.1 q'.2 hqM with h | h
            · have := g2.mpr h
              rw [this] at hn
              cases hn
            · exact h
          obtain ⟨u, hu⟩ := hm
          have hs : o2.isSome = true := by rw [g4, lk_of_mem sL hu]; rfl
          walk_at "rd"
          refine bF (by rw [hs]; rfl) ?_
          exact ⟨k5, _, rfl⟩
        · exact ⟨k5, _, rfl⟩
      · rintro σ H5 k5 ⟨x6, rfl⟩
        exact q H5 ((k13.trans k4).trans k5)
end
end K41

/-! mend_items, once more, with all that it asks; a sound list asks nothing. -/
namespace K41
open PySem PySem.Spec PyProof.Rows L2 TL
/-- what mend_items asks of a list -/
structure MPre (L : List Itm) : Prop where
  srt : Srt L
  mov : MovPre (m3 L)
  b0 : L.length < 30000
  b1 : (m1 L).length < 30000
  b2 : (m2 L).length < 30000
  b3 : (m3 L).length < 30000
  b4 : (m4 L).length < 30000
  b5 : (m5 L).length < 30000
  b6 : (m6 L).length < 90000
  ls : (rootLs L ++ itemLs (m1 L) ++ entLs (m2 L) ++ mvLs (orphans (m3 L)) (m3 L) ++ linkLs (m4 L)).length < 30000
theorem MPre.chg {L : List Itm} (h : MPre L) : ChgPre (m5 L) := by
  obtain ⟨rk, R, M⟩ := h.mov
  have S := (M.all R).snd R
  intro p m e
  rcases S.fit _ _ m with f | ⟨_, _, w, f, _⟩
  · have := f.2.1
    omega
  · exact ⟨w, lk_of_mem S.srt f⟩
theorem Left.mpre {L : List Itm} (h : Left L) (hL : L.length < 4000) : MPre L := by
  have h1 := len_m1 L
  have h2 := len_m2 L
  have h3 := len_m3 L
  have h4 := len_m4 L
  have h5 := len_m5 L
  have h6 := len_m6 L
  have g1 := len_rootLs L
  have g2 := len_itemLs (m1 L)
  have g3 := len_entLs (m2 L)
  have g4 := mvLs_len (orphans (m3 L)) (m3 L)
  have g4' := len_orph (m3 L)
  have g5 := len_linkLs (m4 L)
  refine ⟨let ⟨_, _, _, s, _⟩ := h; s, h.movPre, by omega, by omega, by omega, by omega, by omega, by omega, by omega, ?_⟩
  simp only [List.length_append]
  omega
theorem Sound.steps {L : List Itm} (h : Sound L) : m1 L = L ∧ m2 L = L ∧ m3 L = L ∧ m4 L = L ∧ m5 L = L ∧ m6 L = L := by
  have e1 := (same_m1 h).1
  have e2 : m2 L = L := by unfold m2; rw [e1]; exact (same_m2 h).1
  have e3 : m3 L = L := by unfold m3; rw [e2]; exact (same_m3 h).1
  have e4 : m4 L = L := by unfold m4; rw [e3, same_orphans h]; rfl
  have e5 : m5 L = L := by unfold m5; rw [e4]; exact (same_links h).1
  exact ⟨e1, e2, e3, e4, e5, (same_all h).1⟩
theorem Sound.mpre {L : List Itm} (h : Sound L) (hL : L.length < 30000) : MPre L := by
  obtain ⟨e1, e2, e3, e4, e5, e6⟩ := h.steps
  have hs := h
  obtain ⟨rk, R, S, C⟩ := hs
  refine ⟨S.srt, ?_, hL, by rw [e1]; exact hL, by rw [e2]; exact hL, by rw [e3]; exact hL, by rw [e4]; exact hL, by rw [e5]; exact hL, by rw [e6]; omega, ?_⟩
  · rw [e3]
    refine ⟨rk, R, ?_⟩
    rw [same_orphans h]
    refine ⟨S.srt, S.fit, S.root, List.nodup_nil, fun n m => absurd m (by simp), fun n w h1 hm _ => ?_, fun n m => absurd m (by simp)⟩
    have hc := S.cnt n w h1 hm
    have hf : 128000 ≤ w.1 := by
      rcases S.fit _ _ hm with f | ⟨_, _, _, _, f⟩
      · have this : (0 : Int) = 4 := f.2.1
        omega
      · rcases f with f | f | f | f
        · exact f.2.2.1
        · have this : (0 : Int) = 1 := f.1
          omega
        · have this : (0 : Int) = 2 := f.1
          omega
        · have this : (0 : Int) = 3 := f.1
          omega
    refine ⟨by omega, fun hk => ?_⟩
    obtain ⟨p1, p2, p3⟩ := S.par n w h1 hm hk
    exact ⟨p1, by omega, p2, p3⟩
  · rw [e1, e2, e3, e4, (same_m1 h).2, (same_m2 h).2, (same_m3 h).2, same_orphans h, (same_links h).2]
    simp [mvLs]
theorem mv_short {rk : Int → Nat} (R : Rk rk) : ∀ (r : List Int) (L : List Itm), Mov rk L r → ∀ n j, Loss.moved n j ∈ mvLs r L → (nmL cN n.toNat j).length ≤ 11
  | [], _, _, n, j, h => by cases h
  | m :: r, L, M, n, j, h => by
    rcases List.mem_cons.mp h with e | h
    · injection e with e1 e2
      rw [e1, e2]
      exact M.name.2.2 _ (Nat.le_refl _)
    · exact mv_short R r _ (M.step R) n j h
theorem Left.short {L : List Itm} (h : Left L) : ∀ n j, Loss.moved n j ∈ losses L → (nmL cN n.toNat j).length ≤ 11 := by
  obtain ⟨rk, R, M⟩ := h.movPre
  intro n j m
  unfold losses at m
  simp only [List.mem_append] at m
  rcases m with ((((m | m) | m) | m) | m) | m
  · unfold rootLs at m
    split at m
    · cases m
    · cases List.mem_singleton.mp m
  · unfold itemLs at m
    obtain ⟨_, _, e⟩ := List.mem_map.mp m
    cases e
  · unfold entLs at m
    obtain ⟨_, _, e⟩ := List.mem_map.mp m
    cases e
  · exact mv_short R _ _ M n j m
  · unfold linkLs at m
    obtain ⟨_, _, e⟩ := List.mem_map.mp m
    cases e
  · exfalso
    have : ∀ (u : Int → Int) (os : List Int) (M : List Itm), Loss.moved n j ∉ chgLs u os M := by
      intro u os
      induction os with
      | nil => intro M h; cases h
      | cons o r ih =>
        intro M h
        have h : Loss.moved n j ∈ (if (oldC M o).1 = u o then [] else [.charge o (oldC M o).1 (u o)]) ++ chgLs u r (chgS u M o) := h
        rcases List.mem_append.mp h with h | h
        · split at h
          · cases h
          · cases List.mem_singleton.mp h
        · exact ih _ h
    exact this _ _ _ m
section
variable {P : Program} {w : World} {K : PySem.W.Frag} {mg : Str → Option Value} {base : Heap}
local macro_rules | `(tactic| walk_at "rd") => `(tactic| repeat (first | refine ⟨_, rfl, ?_⟩ | refine ⟨_, _, rfl, rfl, ?_⟩ | refine ⟨_, _, rfl, ?_⟩ | refine ⟨_, _, _, rfl, ?_⟩ | refine ⟨_, _, _, _, rfl, ?_⟩ | refine ⟨rfl, ?_⟩ | refine ⟨(by show (0 : Int) < _; decide), ?_⟩ | refine ⟨cdw (by decide) (by decide), ?_⟩ | refine ⟨Or.inl (by decide), ?_⟩ | refine ⟨Or.inr (by decide), ?_⟩ | refine And.intro len4v ?_ | refine And.intro len3v ?_ | refine And.intro len2v ?_ | refine And.intro len1v ?_ | refine And.intro len0v ?_ | refine And.intro (by assumption) ?_ | refine And.intro (SS.ty (by assumption)) ?_ | refine And.intro (tyL (by assumption)) ?_ | refine ⟨_, _, _, _, rfl, rfl, sqT_of (by assumption), (by rfl), ?_⟩ | refine ⟨_, _, _, rfl, rfl, (by assumption), (by assumption), ?_⟩ | refine ⟨_, _, rfl, (by assumption), ?_⟩ | refine ⟨_, _, _, _, _, rfl, (by assumption), rfl, (by assumption), (by assumption), ?_⟩ | refine And.intro (IntD.isD (by assumption)) ?_ | refine And.intro (Rep.isD (by assumption)) ?_ | refine ⟨_, _, rfl, sqT_of (by assumption), (by rfl), ?_⟩ | refine ⟨_, _, _, _, rfl, rfl, sqL_of (by assumption), (by rfl), ?_⟩ | refine ⟨_, _, _, _, rfl, rfl, sqL_of upd_same, (by rfl), ?_⟩ | refine ⟨_, _, rfl, Or.inl (sqL_of (by assumption)), ?_⟩ | refine ⟨_, _, _, _, rfl, rfl, upd_same, (by rfl), ?_⟩ | refine ⟨_, _, _, _, rfl, rfl, (by assumption), (by rfl), ?_⟩ | refine ⟨⟨by decide, by decide, by decide⟩, ?_⟩ | refine And.intro (lenNv (by simp only [List.length_cons, List.length_nil]; omega)) ?_))
def spMend2 : Sp := fun vs H Q _ => ∃ a xs L, vs = [.ref a] ∧ H a = some (.lst xs) ∧ Items H xs L ∧ MPre L ∧
  ∀ H' p b c xs' ys, Keep [] H H' → H b = none → H' p = some (.tup [.ref b, .ref c]) → H' b = some (.lst xs') → Items H' xs' (m6 L) → H' c = some (.lst ys) → LossesAt H' ys (losses L) → Q (.ref p) H'
theorem ok_mend_items2 {f : Addr} {fd : FuncData} (F : Fun K "mend_items" "mend_items" s_mend_items f fd) (T : Txt mg) (C__mend_root : CSt P w K mg base 2 "_mend_root" rootS rootLs fun _ => True) (C__remove_items : CSt P w K mg base 2 "_remove_items" itemS itemLs fun _ => True) (C__remove_entries : CSt P w K mg base 2 "_remove_entries" entS entLs fun _ => True)
    (C__move_nodes : CSt P w K mg base 5 "_move_nodes" (fun L => mv (orphans L) L) (fun L => mvLs (orphans L) L) MovPre) (C__mend_links : CSt P w K mg base 2 "_mend_links" linkS linkLs fun _ => True)
    (C__mend_charges : CSt P w K mg base 3 "_mend_charges" (fun L => chg (usedI L) (owners L) L) (fun L => chgLs (usedI L) (owners L) L) ChgPre) : FnOk P w K mg base CX0 6 f fd ["items"] spMend2 := by
  refine F.ok sc_mend_items (fun vs H Q E h => ?_) (fun cdv A outer s H vs Q E hr h => ?_)
  · obtain ⟨_, _, _, rfl, _⟩ := h
    rfl
  · obtain ⟨a, xs, L, rfl, ha, it, lf, q⟩ := h
    refine ⟨_, (pss_cons (ps_set (i := 1) sc_mend_items.nd rfl (Or.inr rfl) pe_dnewT)
  (pss_cons (ps_for PassesOwn.never rfl (pi_list (pv 0)) (pg_tup (by rfl) (pgs_cons (pg_name (i := 2) sc_mend_items.nd rfl (Or.inl rfl)) (pgs_cons (pg_name (i := 3) sc_mend_items.nd rfl (Or.inl rfl)) pgs_nil)))
  (pss_one (ps_dput (hu_of hr) (pv 1) (pv 2) (pv 3) rfl)))
  (pss_cons (ps_set (i := 4) sc_mend_items.nd rfl (Or.inl rfl) (pe_lst pa_nil))
  (pss_cons (ps_expr (pe_own C__mend_root hr (by decide) rfl (pa_cons (pv 1) (pa_cons (pv 4) pa_nil))))
  (pss_cons (ps_expr (pe_own C__remove_items hr (by decide) rfl (pa_cons (pv 1) (pa_cons (pv 4) pa_nil))))
  (pss_cons (ps_expr (pe_own C__remove_entries hr (by decide) rfl (pa_cons (pv 1) (pa_cons (pv 4) pa_nil))))
  (pss_cons (ps_expr (pe_own C__move_nodes hr (by decide) rfl (pa_cons (pv 1) (pa_cons (pv 4) pa_nil))))
  (pss_cons (ps_expr (pe_own C__mend_links hr (by decide) rfl (pa_cons (pv 1) (pa_cons (pv 4) pa_nil))))
  (pss_cons (ps_expr (pe_own C__mend_charges hr (by decide) rfl (pa_cons (pv 1) (pa_cons (pv 4) pa_nil))))
  (pss_one (ps_ret (pe_tup (pa_cons (pe_lc (own := [("key", 2)]) (g := gName 2) (tt := tYes) rfl sc_mend_items.nd (pi_list (pe_callB (cr_sortD rfl) (by rfl) T.b_sorted (by decide +kernel) (pa_cons (pv 1) pa_nil))) (blkOk_by (N := ["items", "found", "key", "value", "losses"]) (sc := defScope s_mend_items) (by decide +kernel)) (fun _ _ _ _ _ => pg_name (i := 2) sc_mend_items.nd rfl (Or.inl rfl)) (fun _ _ _ _ _ => pts_nil) (fun _ _ _ _ _ => (pe_tup (pa_cons (pv 2) (pa_cons (pe_dget (hu_of hr) (pv 1) (pv 2) (fun _ _ => rfl)) pa_nil))))) (pa_cons (pv 4) pa_nil)))))))))))))), ?_⟩
    intro d hd
    have sL : Srt L := lf.srt
    have hL := lf.b0
    have had : a ≠ d := ne_of_none ha hd
    dsimp only [gName]
    have ha1 : upd H d (.dT []) a = some (.lst xs) := by rw [upd_ne had]; exact ha
    have lxs : xs.length = L.length := Paired.length it
    refine for_seq (a := a) (xs := xs) (S := [d]) (.inl (.inl ha1)) (fun Q q => ⟨_, rfl, q⟩) (by simpa using had) (fun i σ H1 => (∃ x2 x3 x4, σ = [some (.ref a), some (.ref d), x2, x3, x4]) ∧ Rep H1 d (L.take i)) ⟨⟨_, _, _, rfl⟩, [], upd_same, Ents.nil _⟩ ?_ ?_
    · rintro i x σ H1 hx ⟨⟨x2, x3, x4, rfl⟩, rep⟩ k1
      obtain ⟨p, hp, e, b, c, rfl, t1, t2, t3⟩ := Paired.get it hx
      have tk : TupK H H1 := (TupK.new (o := .dT []) hd).trans (k1.tup (.one upd_same fun _ z => nomatch z))
      have t1 := tk _ _ t1
      have t2 := T3.keep tk t2
      have t3 := T2.keep tk t3
      have hi : i < L.length := (List.getElem?_eq_some_iff.mp hp).1
      obtain ⟨o, g1, g2, _, _, g3⟩ := rep.put t2 t3 (by rw [List.length_take]; omega)
      walk_at "rd"
      refine ⟨k1.trans (Keep.set (by simp)), ⟨_, _, _, rfl⟩, ?_⟩
      rw [take_snoc hp, ← put_last (srt_before sL hp)]
      exact g2
    · rintro σ H1 k1 ⟨⟨x2, x3, x4, rfl⟩, rep⟩
      rw [lxs, List.take_length] at rep
      walk_at "rd"
      intro l hl
      have k1d : Keep [] H H1 := by
        have := (Keep.new (S := [d]) (o := .dT []) hd).trans k1
        exact this.drop hd
      have ss : SS (upd H1 l (.lst [])) d l L [] := ⟨rep.new hl, [], upd_same, .nil⟩
      have hl1 : H l = none := k1d.free hl (by simp)
      have h1 := lf.b1
      have h2 := lf.b2
      have h3 := lf.b3
      have h4 := lf.b4
      have h5 := lf.b5
      have h6 := lf.b6
      have hs := lf.ls
      simp only [List.length_append] at hs
      walk_at "rd"
      refine ⟨d, l, L, [], rfl, ss, by omega, by simp, trivial, fun H2 k2 s2 => ?_⟩
      walk_at "rd"
      refine ⟨d, l, m1 L, _, rfl, s2, by omega, by simp; omega, trivial, fun H3 k3 s3 => ?_⟩
      walk_at "rd"
      refine ⟨d, l, m2 L, _, rfl, s3, by omega, by simp; omega, trivial, fun H4 k4 s4 => ?_⟩
      walk_at "rd"
      refine ⟨d, l, m3 L, _, rfl, s4, by omega, by simp; omega, lf.mov, fun H5 k5 s5 => ?_⟩
      walk_at "rd"
      refine ⟨d, l, m4 L, _, rfl, s5, by omega, by simp; omega, trivial, fun H6 k6 s6 => ?_⟩
      walk_at "rd"
      refine ⟨d, l, m5 L, _, rfl, s6, by omega, by simp; omega, lf.chg, fun H7 k7 s7 => ?_⟩
      dsimp only [tRet, tTup, tCons]
      have kall : Keep [] H H7 := by
        have kk : Keep [d, l] H H7 := (((((((k1d.mono (by simp)).trans (Keep.new hl)).trans k2).trans k3).trans k4).trans k5).trans k6).trans k7
        intro z u e _
        exact kk z u e (by simp only [List.mem_cons, List.not_mem_nil, or_false]; rintro (rfl | rfl) <;> simp_all)
      have s7' : SS H7 d l (m6 L) (losses L) := s7
      refine lc_sorted ItemAt (fun _ => true) s7'.rep.r (fun Q q => ⟨_, rfl, q⟩) (by omega) (fun H H' x q k r => r.keep k) ?_ ?_
      · intro b q H8 N1 N2 hq k8 hb n1 n2
        have s8 := s7'.keep0 k8
        obtain ⟨a9, g9, t9⟩ := s8.rep.get hb (lk_of_mem s8.rep.srt hq)
        walk_at "rd"
        intro p hp
        exact n1 _ _ (Keep.new hp) ⟨p, b, a9, rfl, upd_same, hb.new hp, t9.new hp⟩ rfl
      · intro D H8 ys hD k8 e8 i8
        obtain ⟨zs, z1, z2⟩ := s7'.los
        walk_at "rd"
        intro p hp
        have tk9 : TupK H8 (upd H8 p (.tup [.ref D, .ref l])) := TupK.new hp
        have z1' := k8.at z1 (by simp)
        refine q _ p D l ys zs ((kall.trans k8).trans (Keep.new hp)) (kall.free hD (by simp)) upd_same ?_ ?_ ?_ ?_
        · rw [upd_ne (ne_of_none e8 hp)]
          exact e8
        · have e : (m6 L).filter (fun _ => true) = m6 L := List.filter_eq_self.mpr fun _ _ => rfl
          rw [e] at i8
          exact Items.keep tk9 i8
        · rw [upd_ne (ne_of_none z1' hp)]
          exact z1'
        · exact Paired.mapP z2 fun _ _ r => (r.keep (k8.tup (NoTup.nil _))).keep tk9
end
end K41

/-! The law. -/
namespace K41
open PySem PySem.Spec PyProof.Rows L2 TL
def Z0 : Hp → V → V → Prop := fun _ _ _ => False
def Z1 : Hp → V → V → Prop := Aln Z0
def Z2 : Hp → V → V → Prop := Aln Z1
def Z3 : Hp → V → V → Prop := Aln Z2
def Z4 : Hp → V → V → Prop := Aln Z3
def Z5 : Hp → V → V → Prop := Aln Z4
section
variable {H : Hp}
theorem lf1 (i : Int) : Z1 H (.int i) (.int i) := .inl ⟨i, rfl, rfl⟩
theorem lf2 (i : Int) : Z2 H (.int i) (.int i) := .inl ⟨i, rfl, rfl⟩
theorem ls2 (z : Str) : Z2 H (.str z) (.str z) := .inr (.inl ⟨z, rfl, rfl⟩)
theorem al3 {b c : Addr} {k : K3} (h : T3 H b k) (h' : T3 H c k) : Z2 H (.ref b) (.ref c) := .inr (.inr (.inl ⟨b, c, _, _, rfl, rfl, h, h', by show 3 < 100000; omega, .cons (lf1 _) (.cons (lf1 _) (.cons (lf1 _) .nil))⟩))
theorem al2 {b c : Addr} {k : Val} (h : T2 H b k) (h' : T2 H c k) : Z2 H (.ref b) (.ref c) := .inr (.inr (.inl ⟨b, c, _, _, rfl, rfl, h, h', by show 2 < 100000; omega, .cons (lf1 _) (.cons (lf1 _) .nil)⟩))
theorem alI {x y : V} {p : Itm} (h : ItemAt H x p) (h' : ItemAt H y p) : Z3 H x y := by
  obtain ⟨a, b, c, rfl, h1, h2, h3⟩ := h
  obtain ⟨a', b', c', rfl, g1, g2, g3⟩ := h'
  exact .inr (.inr (.inl ⟨a, a', _, _, rfl, rfl, h1, g1, by show 2 < 100000; omega, .cons (al3 h2 g2) (.cons (al2 h3 g3) .nil)⟩))
theorem alL {x y : V} {m : Loss} (h : LossAt H x m) (h' : LossAt H y m) : Z3 H x y := by
  cases m with
  | root =>
    obtain ⟨a, rfl, e⟩ := h
    obtain ⟨b, rfl, g⟩ := h'
    exact .inr (.inr (.inl ⟨a, b, _, _, rfl, rfl, e, g, by show 1 < 100000; omega, .cons (ls2 _) .nil⟩))
  | item k =>
    obtain ⟨a, c, rfl, e, t⟩ := h
    obtain ⟨b, d, rfl, g, u⟩ := h'
    exact .inr (.inr (.inl ⟨a, b, _, _, rfl, rfl, e, g, by show 2 < 100000; omega, .cons (ls2 _) (.cons (al3 t u) .nil)⟩))
  | entry k o =>
    obtain ⟨a, c, rfl, e, t⟩ := h
    obtain ⟨b, d, rfl, g, u⟩ := h'
    exact .inr (.inr (.inl ⟨a, b, _, _, rfl, rfl, e, g, by show 3 < 100000; omega, .cons (ls2 _) (.cons (al3 t u) (.cons (lf2 _) .nil))⟩))
  | moved n j =>
    obtain ⟨a, z, rfl, e, t⟩ := h
    obtain ⟨b, z', rfl, g, u⟩ := h'
    have : z = z' := TL.ext_tl (t.trans u.symm)
    subst this
    exact .inr (.inr (.inl ⟨a, b, _, _, rfl, rfl, e, g, by show 3 < 100000; omega, .cons (ls2 _) (.cons (lf2 _) (.cons (ls2 _) .nil))⟩))
  | links n o u =>
    obtain ⟨a, rfl, e⟩ := h
    obtain ⟨b, rfl, g⟩ := h'
    exact .inr (.inr (.inl ⟨a, b, _, _, rfl, rfl, e, g, by show 4 < 100000; omega, .cons (ls2 _) (.cons (lf2 _) (.cons (lf2 _) (.cons (lf2 _) .nil)))⟩))
  | charge o u v =>
    obtain ⟨a, rfl, e⟩ := h
    obtain ⟨b, rfl, g⟩ := h'
    exact .inr (.inr (.inl ⟨a, b, _, _, rfl, rfl, e, g, by show 4 < 100000; omega, .cons (ls2 _) (.cons (lf2 _) (.cons (lf2 _) (.cons (lf2 _) .nil)))⟩))
theorem paired2 {α : Type} {F : V → α → Prop} {G : V → V → Prop} (h : ∀ x y q, F x q → F y q → G x y) : ∀ {xs ys : List V} {l : List α}, Paired F xs l → Paired F ys l → Paired G xs ys
  | _, _, _, .nil, .nil => .nil
  | _, _, _, .cons r t, .cons r' t' => .cons (h _ _ _ r r') (paired2 h t t')
/-- two told answers with the same items and losses -/
theorem al5 {p p' b b' c c' : Addr} {xs xs' ys ys' : List V} {L : List Itm} {ls : List Loss} (hp : H p = some (.tup [.ref b, .ref c])) (hp' : H p' = some (.tup [.ref b', .ref c'])) (hb : H b = some (.lst xs)) (hb' : H b' = some (.lst xs')) (i : Items H xs L) (i' : Items H xs' L)
    (hc : H c = some (.lst ys)) (hc' : H c' = some (.lst ys')) (j : LossesAt H ys ls) (j' : LossesAt H ys' ls) (hL : L.length < 100000) (hl : ls.length < 100000) : Z5 H (.ref p) (.ref p') :=
  .inr (.inr (.inl ⟨p, p', _, _, rfl, rfl, hp, hp', by show 2 < 100000; omega,
    .cons (.inr (.inr (.inr ⟨b, b', _, _, rfl, rfl, hb, hb', by rw [Paired.length i]; exact hL, paired2 (F := ItemAt H) (G := Z3 H) (fun _ _ p r r' => alI (p := p) r r') i i'⟩)))
      (.cons (.inr (.inr (.inr ⟨c, c', _, _, rfl, rfl, hc, hc', by rw [Paired.length j]; exact hl, paired2 (F := LossAt H) (G := Z3 H) (fun _ _ m r r' => alL (m := m) r r') j j'⟩))) .nil)⟩))
end
theorem at_new {H : Hp} {x y : Addr} {u o : HO} (e : H y = some u) (h : H x = none) : upd H x o y = some u := by rw [upd_ne (ne_of_none e h)]; exact e
theorem los_keep {H H' : Hp} {ys : List V} {ls : List Loss} (k : TupK H H') (j : LossesAt H ys ls) : LossesAt H' ys ls := Paired.mapP j fun _ _ r => r.keep k
theorem len_losses (L : List Itm) (h : L.length < 4000) : (losses L).length < 100000 := by
  have h1 := len_m1 L
  have h2 := len_m2 L
  have h3 := len_m3 L
  have h4 := len_m4 L
  have h5 := len_m5 L
  have g1 := len_rootLs L
  have g2 := len_itemLs (m1 L)
  have g3 := len_entLs (m2 L)
  have g4 := mvLs_len (orphans (m3 L)) (m3 L)
  have g4' := len_orph (m3 L)
  have g5 := len_linkLs (m4 L)
  have g6 := len_chgLs (usedI (m5 L)) (owners (m5 L)) (m5 L)
  have g7 := len_owners (m5 L)
  unfold losses
  simp only [List.length_append]
  omega
section
variable {P : Program} {w : World} {K : PySem.W.Frag} {mg : Str → Option Value} {base : Heap}
local macro_rules | `(tactic| walk_at "rd") => `(tactic| repeat (first | refine ⟨_, rfl, ?_⟩ | refine ⟨_, _, rfl, rfl, ?_⟩ | refine ⟨_, _, rfl, ?_⟩ | refine ⟨_, _, _, rfl, ?_⟩ | refine ⟨_, _, _, _, rfl, ?_⟩ | refine ⟨rfl, ?_⟩ | refine ⟨(by show (0 : Int) < _; decide), ?_⟩ | refine ⟨cdw (by decide) (by decide), ?_⟩ | refine ⟨Or.inl (by decide), ?_⟩ | refine ⟨Or.inr (by decide), ?_⟩ | refine And.intro len4v ?_ | refine And.intro len3v ?_ | refine And.intro len2v ?_ | refine And.intro len1v ?_ | refine And.intro len0v ?_ | refine And.intro (by assumption) ?_ | refine And.intro (SS.ty (by assumption)) ?_ | refine And.intro (tyL (by assumption)) ?_ | refine ⟨_, _, _, _, rfl, rfl, sqT_of (by assumption), (by rfl), ?_⟩ | refine ⟨_, _, _, rfl, rfl, (by assumption), (by assumption), ?_⟩ | refine ⟨_, _, rfl, (by assumption), ?_⟩ | refine ⟨_, _, _, _, _, rfl, (by assumption), rfl, (by assumption), (by assumption), ?_⟩ | refine And.intro (IntD.isD (by assumption)) ?_ | refine And.intro (Rep.isD (by assumption)) ?_ | refine ⟨_, _, rfl, sqT_of (by assumption), (by rfl), ?_⟩ | refine ⟨_, _, _, _, rfl, rfl, sqL_of (by assumption), (by rfl), ?_⟩ | refine ⟨_, _, _, _, rfl, rfl, sqL_of upd_same, (by rfl), ?_⟩ | refine ⟨_, _, rfl, Or.inl (sqL_of (by assumption)), ?_⟩ | refine ⟨_, _, _, _, rfl, rfl, upd_same, (by rfl), ?_⟩ | refine ⟨_, _, _, _, rfl, rfl, (by assumption), (by rfl), ?_⟩ | refine ⟨⟨by decide, by decide, by decide⟩, ?_⟩ | refine And.intro (lenNv (by simp only [List.length_cons, List.length_nil]; omega)) ?_))
def spLaw (K : PySem.W.Frag) : Sp := fun vs H Q _ => ∃ (a : Addr) (ns : List Int), vs = [.ref a] ∧ SqL K H a (ns.map V.int) ∧ ns.length ≤ 63 ∧ ∀ H', Q (.bl true) H'
abbrev s_law : Stmt := top 65
theorem sc_law : FnScope ["script", "box", "whole", "left", "handed", "told", "first", "due", "given", "mended", "again"] ["script"] (defScope s_law) := ⟨rfl, rfl, rfl, by decide +kernel, rfl, by decide +kernel, by decide +kernel⟩
theorem ok_law {f : Addr} {fd : FuncData} (F : Fun K "law" "law" s_law f fd) (T : Txt mg) (C__law_box : Cl P w K mg base 1 "_law_box" ["script"] (spBox K)) (C__law_whole : Cl P w K mg base 6 "_law_whole" ["box"] spWhole) (C__law_left : Cl P w K mg base 2 "_law_left" ["box", "whole"] spLeft)
    (C_mend_items : Cl P w K mg base 6 "mend_items" ["items"] spMend2) (C__law_alike : Cl P w K mg base 5 "_law_alike" ["told", "due"] (spAl Z5)) (C__law_due : Cl P w K mg base 3 "_law_due" ["items"] spMend) (C__law_is_sound : Cl P w K mg base 3 "_law_is_sound" ["items"] spSound)
    (C__law_is_kept : Cl P w K mg base 3 "_law_is_kept" ["items", "mended", "losses"] spKept) : FnOk P w K mg base CX0 7 f fd ["script"] (spLaw K) := by
  refine F.ok sc_law (fun vs H Q E h => ?_) (fun cdv A outer s H vs Q E hr h => ?_)
  · obtain ⟨_, _, rfl, _⟩ := h
    rfl
  · obtain ⟨a, ns, rfl, sq, hn, q⟩ := h
    refine ⟨_, (pss_cons (ps_set (i := 1) sc_law.nd rfl (Or.inl rfl) (pe_own C__law_box hr (by decide) rfl (pa_cons (pv 0) pa_nil)))
  (pss_cons (ps_set (i := 2) sc_law.nd rfl (Or.inl rfl) (pe_own C__law_whole hr (by decide) rfl (pa_cons (pv 1) pa_nil)))
  (pss_cons (ps_set (i := 3) sc_law.nd rfl (Or.inl rfl) (pe_own C__law_left hr (by decide) rfl (pa_cons (pv 1) (pa_cons (pv 2) pa_nil))))
  (pss_cons (ps_set (i := 4) sc_law.nd rfl (Or.inl rfl) (pe_callTy call_list_of (by rfl) T.b_list (by decide +kernel) (pa_cons (pv 2) pa_nil)))
  (pss_cons (ps_set (i := 5) sc_law.nd rfl (Or.inl rfl) (pe_own C_mend_items hr (by decide) rfl (pa_cons (pv 4) pa_nil)))
  (pss_cons (ps_if (pt_not (pt_val (pe_own C__law_alike hr (by decide) rfl (pa_cons (pv 5) (pa_cons (pe_tup (pa_cons (pv 2) (pa_cons (pe_lst pa_nil) pa_nil))) pa_nil)))))
  (pss_one (ps_ret pe_bl))
  pss_nil)
  (pss_cons (ps_set (i := 6) sc_law.nd rfl (Or.inl rfl) (pe_ix ix_tup (pv 5) pe_int (fun _ _ => rfl)))
  (pss_cons (ps_expr (pe_bm PySem.F.plainAttrs_list PySem.F.slot_list_append PySem.F.type_list_append mt_append (pv 6) (pa_cons (pe_tup (pa_cons (pe_tup (pa_cons (pe_op op_pow pe_int pe_int) (pa_cons pe_int (pa_cons pe_int pa_nil)))) (pa_cons (pe_tup (pa_cons pe_int (pa_cons pe_int pa_nil))) pa_nil))) pa_nil)))
  (pss_cons (ps_if (pt_cmpR (op_neD hr.units) (pv 4) (pv 2) (nomark _))
  (pss_one (ps_ret pe_bl))
  pss_nil)
  (pss_cons (ps_set (i := 7) sc_law.nd rfl (Or.inl rfl) (pe_own C__law_due hr (by decide) rfl (pa_cons (pv 3) pa_nil)))
  (pss_cons (ps_set (i := 8) sc_law.nd rfl (Or.inl rfl) (pe_callTy call_list_of (by rfl) T.b_list (by decide +kernel) (pa_cons (pv 3) pa_nil)))
  (pss_cons (ps_set (i := 9) sc_law.nd rfl (Or.inl rfl) (pe_own C_mend_items hr (by decide) rfl (pa_cons (pv 8) pa_nil)))
  (pss_cons (ps_if (PW.pt (pw_or (pt_cmpR (op_neD hr.units) (pv 8) (pv 3) (nomark _)) (pw_or1 (pt_not (pt_val (pe_own C__law_alike hr (by decide) rfl (pa_cons (pv 9) (pa_cons (pv 7) pa_nil))))))))
  (pss_one (ps_ret pe_bl))
  pss_nil)
  (pss_cons (ps_if (PW.pt (pw_or (pt_not (pt_val (pe_own C__law_is_sound hr (by decide) rfl (pa_cons (pe_ix ix_tup (pv 9) pe_int (fun _ _ => rfl)) pa_nil)))) (pw_or1 (pt_not (pt_val (pe_own C__law_is_kept hr (by decide) rfl (pa_cons (pv 3) (pa_cons (pe_ix ix_tup (pv 9) pe_int (fun _ _ => rfl)) (pa_cons (pe_ix ix_tup (pv 9) pe_int (fun _ _ => rfl)) pa_nil)))))))))
  (pss_one (ps_ret pe_bl))
  pss_nil)
  (pss_cons (ps_set (i := 8) sc_law.nd rfl (Or.inl rfl) (pe_callTy call_list_of (by rfl) T.b_list (by decide +kernel) (pa_cons (pe_ix ix_tup (pv 9) pe_int (fun _ _ => rfl)) pa_nil)))
  (pss_cons (ps_set (i := 10) sc_law.nd rfl (Or.inl rfl) (pe_own C_mend_items hr (by decide) rfl (pa_cons (pv 8) pa_nil)))
  (pss_one (ps_ret (pe_and (pe_cmpR (op_eqD hr.units) (pv 8) (pe_ix ix_tup (pv 9) pe_int (fun _ _ => rfl)) (nomark _)) (pe_one (pe_own C__law_alike hr (by decide) rfl (pa_cons (pv 10) (pa_cons (pe_tup (pa_cons (pe_ix ix_tup (pv 7) pe_int (fun _ _ => rfl)) (pa_cons (pe_lst pa_nil) pa_nil))) pa_nil))))))))))))))))))))))), ?_⟩
    walk_at "rd"
    refine fun H1 b cs k1 hb hcs bx1 => ?_
    walk_at "rd"
    refine fun H2 wl xs W k2 bx2 hw ew iw SW NW lW => ?_
    have wlb : wl ≠ b := fun e => by
      obtain ⟨_, e1⟩ := bx1.b
      rw [e, e1] at hw
      cases hw
    have hroot : ∃ p ∈ W, p.1.2.1 = 0 := by
      obtain ⟨rk, R, S, C⟩ := SW
      obtain ⟨w, hw, _⟩ := S.root
      exact ⟨_, hw, rfl⟩
    walk_at "rd"
    refine ⟨b, cs, wl, xs, W, rfl, bx2, ew, wlb, iw, hroot, lW, fun H3 lf ys M k3 bx3 hlf el il sub => ?_⟩
    have sW : Srt W := let ⟨_, _, S, _⟩ := SW; S.srt
    have sM : Srt M := srt_sub sW sub
    have LM : Left M := ⟨W, SW, NW, sM, fun p m => sub.subset m⟩
    have lM : M.length < 2000 := Nat.lt_of_le_of_lt sub.length_le lW
    have ew3 := k3.at ew (by simpa using wlb)
    have iw3 : Items H3 xs W := iw.keep (k3.tup bx2.nt)
    have nwl : wl ≠ lf := fun e => by
      rw [← e, ew] at hlf
      cases hlf
    walk_at "rd"
    intro hd hhd
    have ew4 : upd H3 hd (.lst xs) wl = some (.lst xs) := by rw [upd_ne (ne_of_none ew3 hhd)]; exact ew3
    have el4 : upd H3 hd (.lst xs) lf = some (.lst ys) := by rw [upd_ne (ne_of_none el hhd)]; exact el
    have ehd : upd H3 hd (.lst xs) hd = some (.lst xs) := upd_same
    have iw4 : Items (upd H3 hd (.lst xs)) xs W := Items.keep (TupK.new hhd) iw3
    have il4 : Items (upd H3 hd (.lst xs)) ys M := Items.keep (TupK.new hhd) il
    generalize upd H3 hd (.lst xs) = H4 at *
    walk_at "rd"
    refine ⟨hd, xs, W, rfl, ehd, iw4, SW.mpre (by omega), fun H5 p b1 c1 xs' ys' k5 hb1 ep eb ib ec lc => ?_⟩
    rw [(same_all SW).1] at ib
    rw [(same_all SW).2] at lc
    have ew5 := k5.at ew4 (by simp)
    have el5 := k5.at el4 (by simp)
    have ehd5 := k5.at ehd (by simp)
    have iw5 : Items H5 xs W := Items.keep (k5.tup (NoTup.nil _)) iw4
    have il5 : Items H5 ys M := Items.keep (k5.tup (NoTup.nil _)) il4
    have nbw : b1 ≠ wl := (ne_of_none ew4 hb1).symm
    have nbl : b1 ≠ lf := (ne_of_none el4 hb1).symm
    have nbh : b1 ≠ hd := (ne_of_none ehd hb1).symm
    walk_at "rd"
    intro le hle
    walk_at "rd"
    intro tp htp
    have kt7 := (TupK.new (o := .lst []) hle).trans (TupK.new (o := .tup [.ref wl, .ref le]) htp)
    have ep7 := kt7 _ _ ep
    have eb7 := at_new (o := .tup [.ref wl, .ref le]) (at_new (o := .lst []) eb hle) htp
    have ec7 := at_new (o := .tup [.ref wl, .ref le]) (at_new (o := .lst []) ec hle) htp
    have ew7 := at_new (o := .tup [.ref wl, .ref le]) (at_new (o := .lst []) ew5 hle) htp
    have el7 := at_new (o := .tup [.ref wl, .ref le]) (at_new (o := .lst []) el5 hle) htp
    have eh7 := at_new (o := .tup [.ref wl, .ref le]) (at_new (o := .lst []) ehd5 hle) htp
    have ele7 : upd (upd H5 le (.lst [])) tp (.tup [.ref wl, .ref le]) le = some (.lst []) := at_new upd_same htp
    have etp7 : upd (upd H5 le (.lst [])) tp (.tup [.ref wl, .ref le]) tp = some (.tup [.ref wl, .ref le]) := upd_same
    have iw7 := Items.keep kt7 iw5
    have il7 := Items.keep kt7 il5
    have ib7 := Items.keep kt7 ib
    have lc7 := los_keep kt7 lc
    generalize upd (upd H5 le (.lst [])) tp (.tup [.ref wl, .ref le]) = H7 at *
    refine ⟨.ref p, .ref tp, rfl, al5 ep7 etp7 eb7 ew7 ib7 iw7 ec7 ele7 lc7 .nil (by omega) (by simp), ?_⟩
    walk_at "rd"
    intro q1 hq1
    have x1 := at_new (o := .tup (tv (2 ^ Int.toNat 60, 0, 0))) eb7 hq1
    have x2 := at_new (o := .tup (tv (2 ^ Int.toNat 60, 0, 0))) ew7 hq1
    have x3 := at_new (o := .tup (tv (2 ^ Int.toNat 60, 0, 0))) el7 hq1
    have x4 := at_new (o := .tup (tv (2 ^ Int.toNat 60, 0, 0))) eh7 hq1
    have t1 := TupK.new (o := .tup (tv (2 ^ Int.toNat 60, 0, 0))) hq1
    walk_at "rd"
    intro q2 hq2
    have y1 := at_new (o := .tup [.int 0, .int 0]) x1 hq2
    have y2 := at_new (o := .tup [.int 0, .int 0]) x2 hq2
    have y3 := at_new (o := .tup [.int 0, .int 0]) x3 hq2
    have y4 := at_new (o := .tup [.int 0, .int 0]) x4 hq2
    have t2 := t1.trans (TupK.new (o := .tup [.int 0, .int 0]) hq2)
    walk_at "rd"
    intro q3 hq3
    have z1 := at_new (o := .tup [.ref q1, .ref q2]) y1 hq3
    have z2 := at_new (o := .tup [.ref q1, .ref q2]) y2 hq3
    have z3 := at_new (o := .tup [.ref q1, .ref q2]) y3 hq3
    have z4 := at_new (o := .tup [.ref q1, .ref q2]) y4 hq3
    have t3 := t2.trans (TupK.new (o := .tup [.ref q1, .ref q2]) hq3)
    have hsz : xs'.length < sizeLine := by rw [Paired.length ib, sizeLine_eq]; omega
    walk_at "rd"
    have t9 := t3.trans (TupK.set (o := .lst (xs' ++ [.ref q3])) z1 fun _ z => nomatch z)
    have w1 : upd (upd (upd (upd H7 q1 (.tup (tv (2 ^ Int.toNat 60, 0, 0)))) q2 (.tup [.int 0, .int 0])) q3 (.tup [.ref q1, .ref q2])) b1 (.lst (xs' ++ [.ref q3])) wl = some (.lst xs) := by rw [upd_ne nbw.symm]; exact z2
    have w2 : upd (upd (upd (upd H7 q1 (.tup (tv (2 ^ Int.toNat 60, 0, 0)))) q2 (.tup [.int 0, .int 0])) q3 (.tup [.ref q1, .ref q2])) b1 (.lst (xs' ++ [.ref q3])) lf = some (.lst ys) := by rw [upd_ne nbl.symm]; exact z3
    have w3 : upd (upd (upd (upd H7 q1 (.tup (tv (2 ^ Int.toNat 60, 0, 0)))) q2 (.tup [.int 0, .int 0])) q3 (.tup [.ref q1, .ref q2])) b1 (.lst (xs' ++ [.ref q3])) hd = some (.lst xs) := by rw [upd_ne nbh.symm]; exact z4
    have iw9 := Items.keep t9 iw7
    have il9 := Items.keep t9 il7
    have shW : SeqAt.shaped (.list (W.map dItm)) = true := shL dItm 2 (by omega) clItm W
    have shM : SeqAt.shaped (.list (M.map dItm)) = true := shL dItm 2 (by omega) clItm M
    have sh6 : SeqAt.shaped (.list ((m6 M).map dItm)) = true := shL dItm 2 (by omega) clItm (m6 M)
    have S6 : Sound (m6 M) := sound_mended SW NW sM fun p m => sub.subset m
    have K6 : Kept M (m6 M) (losses M) := kept_mended SW NW sM fun p m => sub.subset m
    have s6 : Srt (m6 M) := let ⟨_, _, S, _⟩ := S6; S.srt
    have l6 := len_m6 M
    have ll := len_losses M (by omega)
    have l9 : (losses M).length < 90000 := by
      have h1 := len_m1 M
      have h2 := len_m2 M
      have h3 := len_m3 M
      have h4 := len_m4 M
      have h5 := len_m5 M
      have g1 := len_rootLs M
      have g2 := len_itemLs (m1 M)
      have g3 := len_entLs (m2 M)
      have g4 := mvLs_len (orphans (m3 M)) (m3 M)
      have g4' := len_orph (m3 M)
      have g5 := len_linkLs (m4 M)
      have g6 := len_chgLs (usedI (m5 M)) (owners (m5 M)) (m5 M)
      have g7 := len_owners (m5 M)
      unfold losses
      simp only [List.length_append]
      omega
    walk_at "rd"
    refine ⟨_, _, dpItems w3 iw9, dpItems w1 iw9, shW, shW, ?_⟩
    rw [eqvSelf shW]
    refine ⟨_, rfl, ?_⟩
    refine bF rfl ?_
    clear z1 z2 z3 z4 y1 y2 y3 y4 x1 x2 x3 x4 t1 t2 t3 t9
    walk_at "rd"
    refine ⟨lf, ys, M, rfl, w2, il9, by omega, LM, fun H10 p2 b2 c2 xs2 ys2 k10 hb2 ep2 eb2 ib2 ec2 lc2 => ?_⟩
    have el10 := k10.at w2 (by simp)
    have il10 := Items.keep (k10.tup (NoTup.nil _)) il9
    clear w1 w2 w3 iw9 il9
    walk_at "rd"
    intro g hg
    have el11 := at_new (o := .lst ys) el10 hg
    have eg11 : upd H10 g (.lst ys) g = some (.lst ys) := upd_same
    have ep11 := at_new (o := .lst ys) ep2 hg
    have eb11 := at_new (o := .lst ys) eb2 hg
    have ec11 := at_new (o := .lst ys) ec2 hg
    have t11 := TupK.new (o := .lst ys) hg
    have il11 := Items.keep t11 il10
    have ib11 := Items.keep t11 ib2
    have lc11 := los_keep t11 lc2
    generalize upd H10 g (.lst ys) = H11 at *
    walk_at "rd"
    refine ⟨g, ys, M, rfl, eg11, il11, LM.mpre (by omega), fun H12 p3 b3 c3 xs3 ys3 k12 hb3 ep3 eb3 ib3 ec3 lc3 => ?_⟩
    have t12 := k12.tup (NoTup.nil _)
    have el12 := k12.at el11 (by simp)
    have eg12 := k12.at eg11 (by simp)
    have ep12 := k12.at ep11 (by simp)
    have eb12 := k12.at eb11 (by simp)
    have ec12 := k12.at ec11 (by simp)
    have il12 := Items.keep t12 il11
    have ib12 := Items.keep t12 ib11
    have lc12 := los_keep t12 lc11
    walk_at "rd"
    refine ⟨_, _, dpItems eg12 il12, dpItems el12 il12, shM, shM, ?_⟩
    rw [eqvSelf shM]
    refine ⟨_, rfl, ?_⟩
    refine bF rfl ?_
    walk_at "rd"
    refine ⟨al5 ep3 ep12 eb3 eb12 ib3 ib12 ec3 ec12 lc3 lc12 (by omega) ll, ?_⟩
    walk_at "rd"
    refine ⟨b3, xs3, m6 M, rfl, eb3, ib3, by omega, S6, fun H13 k13 => ?_⟩
    have t13 := k13.tup (NoTup.nil _)
    have el13 := k13.at el12 (by simp)
    have ep13 := k13.at ep12 (by simp)
    have eb13 := k13.at eb12 (by simp)
    have ec13 := k13.at ec12 (by simp)
    have fp13 := k13.at ep3 (by simp)
    have fb13 := k13.at eb3 (by simp)
    have fc13 := k13.at ec3 (by simp)
    have il13 := Items.keep t13 il12
    have ib13 := Items.keep t13 ib12
    have jb13 := Items.keep t13 ib3
    have jc13 := los_keep t13 lc3
    walk_at "rd"
    refine ⟨lf, b3, c3, ys, xs3, ys3, M, m6 M, losses M, rfl, el13, il13, sM, fb13, jb13, s6, fc13, jc13, by omega, by omega, l9, LM.short, K6, fun H14 k14 => ?_⟩
    have t14 := k14.tup (NoTup.nil _)
    have ep14 := k14.at ep13 (by simp)
    have eb14 := k14.at eb13 (by simp)
    have fp14 := k14.at fp13 (by simp)
    have fb14 := k14.at fb13 (by simp)
    have ib14 := Items.keep t14 ib13
    have jb14 := Items.keep t14 jb13
    walk_at "rd"
    intro g2 hg2
    have ep15 := at_new (o := .lst xs3) ep14 hg2
    have eb15 := at_new (o := .lst xs3) eb14 hg2
    have fp15 := at_new (o := .lst xs3) fp14 hg2
    have fb15 := at_new (o := .lst xs3) fb14 hg2
    have eg15 : upd H14 g2 (.lst xs3) g2 = some (.lst xs3) := upd_same
    have t15 := TupK.new (o := .lst xs3) hg2
    have ib15 := Items.keep t15 ib14
    have jb15 := Items.keep t15 jb14
    generalize upd H14 g2 (.lst xs3) = H15 at *
    walk_at "rd"
    refine ⟨g2, xs3, m6 M, rfl, eg15, jb15, S6.mpre (by omega), fun H16 p4 b4 c4 xs4 ys4 k16 hb4 ep4 eb4 ib4 ec4 lc4 => ?_⟩
    rw [(same_all S6).1] at ib4
    rw [(same_all S6).2] at lc4
    have t16 := k16.tup (NoTup.nil _)
    have ep16 := k16.at ep15 (by simp)
    have eb16 := k16.at eb15 (by simp)
    have fp16 := k16.at fp15 (by simp)
    have fb16 := k16.at fb15 (by simp)
    have eg16 := k16.at eg15 (by simp)
    have ib16 := Items.keep t16 ib15
    have jb16 := Items.keep t16 jb15
    walk_at "rd"
    refine ⟨_, _, dpItems eg16 jb16, dpItems fb16 jb16, sh6, sh6, ?_⟩
    rw [eqvSelf sh6]
    refine ⟨_, rfl, ?_⟩
    refine bT rfl ?_
    walk_at "rd"
    intro le2 hle2
    have ep17 := at_new (o := .lst []) ep4 hle2
    have eb17 := at_new (o := .lst []) eb4 hle2
    have ec17 := at_new (o := .lst []) ec4 hle2
    have gb17 := at_new (o := .lst []) eb16 hle2
    have hl17 : upd H16 le2 (.lst []) le2 = some (.lst []) := upd_same
    have t17 := TupK.new (o := .lst []) hle2
    have ib17 := Items.keep t17 ib4
    have kb17 := Items.keep t17 ib16
    have lc17 := los_keep t17 lc4
    generalize upd H16 le2 (.lst []) = H17 at *
    walk_at "rd"
    intro tp2 htp2
    have t18 := TupK.new (o := .tup [.ref b2, .ref le2]) htp2
    walk_at "rd"
    refine ⟨al5 (at_new ep17 htp2) upd_same (at_new eb17 htp2) (at_new gb17 htp2) (Items.keep t18 ib17) (Items.keep t18 kb17) (at_new ec17 htp2) (at_new hl17 htp2) (los_keep t18 lc17) .nil (by omega) (by simp), ?_⟩
    exact q _
end
end K41

/-! What the top leaves; the law holds. -/
namespace K41
open PySem PySem.Spec PyProof.Rows L2 TL
theorem fn_false {P : Program} {w : World} {K : PySem.W.Frag} {mg : Str → Option Value} {base : Heap} {f : Addr} {fd : FuncData} {ps : List Str} : FnOk P w K mg base CX0 0 f fd ps (fun _ _ _ _ => False) :=
  ⟨fun _ _ _ _ h => h.elim, fun _ _ _ _ _ _ _ _ _ _ _ _ _ h => h.elim⟩
theorem all_mk {l : PySem.W.OpenLaw} {w : World} {K : PySem.W.Frag} {h : Heap} {mg : Str → Option Value} {fa : Addr} (X : K.In h) (G : h.Ns mainGlobals mg) (hfa : mg "law" = some (.ref fa)) {f1 f2 f3 f4 f5 f6 f7 f8 f9 f10 f11 f12 f13 f14 f15 f16 f17 f18 f19 f20 f21 f22 f23 f24 f25 f26 f27 f28 f29 f30 f31 f32 f33 f34 f35 f36 f37 f38 f39 f40 f41 f42 f43 : Addr} {od1 an1 od2 an2 od3 an3 od4 an4 od5 an5 od6 an6 od7 an7 od8 an8 od9 an9 od10 an10 od11 an11 od12 an12 od13 an13 od14 an14 od15 an15 od16 an16 od17 an17 od18 an18 od19 an19 od20 an20 od21 an21 od22 an22 od23 an23 od24 an24 od25 an25 od26 an26 od27 an27 od28 an28 od29 an29 od30 an30 od31 an31 od32 an32 od33 an33 od34 an34 od35 an35 od36 an36 od37 an37 od38 an38 od39 an39 od40 an40 od41 an41 od42 an42 od43 an43 : Option Addr} {sl1 sl2 sl3 sl4 sl5 sl6 sl7 sl8 sl9 sl10 sl11 sl12 sl13 sl14 sl15 sl16 sl17 sl18 sl19 sl20 sl21 sl22 sl23 sl24 sl25 sl26 sl27 sl28 sl29 sl30 sl31 sl32 sl33 sl34 sl35 sl36 sl37 sl38 sl39 sl40 sl41 sl42 sl43 : Array (Option Value)} {oc1 kV1 dc1 pm1 cd1 ct1 oc2 kV2 dc2 pm2 cd2 ct2 oc3 kV3 dc3 pm3 cd3 ct3 oc4 kV4 dc4 pm4 cd4 ct4 oc5 kV5 dc5 pm5 cd5 ct5 oc6 kV6 dc6 pm6 cd6 ct6 oc7 kV7 dc7 pm7 cd7 ct7 oc8 kV8 dc8 pm8 cd8 ct8 oc9 kV9 dc9 pm9 cd9 ct9 oc10 kV10 dc10 pm10 cd10 ct10 oc11 kV11 dc11 pm11 cd11 ct11 oc12 kV12 dc12 pm12 cd12 ct12 oc13 kV13 dc13 pm13 cd13 ct13 oc14 kV14 dc14 pm14 cd14 ct14 oc15 kV15 dc15 pm15 cd15 ct15 oc16 kV16 dc16 pm16 cd16 ct16 oc17 kV17 dc17 pm17 cd17 ct17 oc18 kV18 dc18 pm18 cd18 ct18 oc19 kV19 dc19 pm19 cd19 ct19 oc20 kV20 dc20 pm20 cd20 ct20 oc21 kV21 dc21 pm21 cd21 ct21 oc22 kV22 dc22 pm22 cd22 ct22 oc23 kV23 dc23 pm23 cd23 ct23 oc24 kV24 dc24 pm24 cd24 ct24 oc25 kV25 dc25 pm25 cd25 ct25 oc26 kV26 dc26 pm26 cd26 ct26 oc27 kV27 dc27 pm27 cd27 ct27 oc28 kV28 dc28 pm28 cd28 ct28 oc29 kV29 dc29 pm29 cd29 ct29 oc30 kV30 dc30 pm30 cd30 ct30 oc31 kV31 dc31 pm31 cd31 ct31 oc32 kV32 dc32 pm32 cd32 ct32 oc33 kV33 dc33 pm33 cd33 ct33 oc34 kV34 dc34 pm34 cd34 ct34 oc35 kV35 dc35 pm35 cd35 ct35 oc36 kV36 dc36 pm36 cd36 ct36 oc37 kV37 dc37 pm37 cd37 ct37 oc38 kV38 dc38 pm38 cd38 ct38 oc39 kV39 dc39 pm39 cd39 ct39 oc40 kV40 dc40 pm40 cd40 ct40 oc41 kV41 dc41 pm41 cd41 ct41 oc42 kV42 dc42 pm42 cd42 ct42 oc43 kV43 dc43 pm43 cd43 ct43 : Value} {t_SIGNS t_BASE t_NAME_LENGTH t_NODE_nodes t_ENTRY_nodes t_CHARGE_nodes t_KINDS t_MODES t_OWNERS t_NODE_mending t_ENTRY_mending t_CHUNK t_CHARGE_mending t_FOLDER t_ROOT t_ROOT_MODE : Tok}
    (a1 : PySem.W.nsIn K mainGlobals "is_name" = some (some (.ref f1))) (l1 : K.lookup f1 = some ⟨oc1, od1, .func (PySem.W.fnOf "is_name" "is_name" (defArgs s_is_name) (defBody s_is_name) (defScope s_is_name) .none kV1 dc1 pm1 an1 cd1 ct1), sl1⟩) (c1 : PySem.W.codeIn K cd1 "is_name" = true) (k1 : PySem.W.keepIn K (.ref f1) = true)
    (a2 : PySem.W.nsIn K mainGlobals "name_word" = some (some (.ref f2))) (l2 : K.lookup f2 = some ⟨oc2, od2, .func (PySem.W.fnOf "name_word" "name_word" (defArgs s_name_word) (defBody s_name_word) (defScope s_name_word) .none kV2 dc2 pm2 an2 cd2 ct2), sl2⟩) (c2 : PySem.W.codeIn K cd2 "name_word" = true) (k2 : PySem.W.keepIn K (.ref f2) = true)
    (a3 : PySem.W.nsIn K mainGlobals "node_key" = some (some (.ref f3))) (l3 : K.lookup f3 = some ⟨oc3, od3, .func (PySem.W.fnOf "node_key" "node_key" (defArgs s_node_key) (defBody s_node_key) (defScope s_node_key) .none kV3 dc3 pm3 an3 cd3 ct3), sl3⟩) (c3 : PySem.W.codeIn K cd3 "node_key" = true) (k3 : PySem.W.keepIn K (.ref f3) = true)
    (a4 : PySem.W.nsIn K mainGlobals "entry_key" = some (some (.ref f4))) (l4 : K.lookup f4 = some ⟨oc4, od4, .func (PySem.W.fnOf "entry_key" "entry_key" (defArgs s_entry_key) (defBody s_entry_key) (defScope s_entry_key) .none kV4 dc4 pm4 an4 cd4 ct4), sl4⟩) (c4 : PySem.W.codeIn K cd4 "entry_key" = true) (k4 : PySem.W.keepIn K (.ref f4) = true)
    (a5 : PySem.W.nsIn K mainGlobals "charge_key" = some (some (.ref f5))) (l5 : K.lookup f5 = some ⟨oc5, od5, .func (PySem.W.fnOf "charge_key" "charge_key" (defArgs s_charge_key) (defBody s_charge_key) (defScope s_charge_key) .none kV5 dc5 pm5 an5 cd5 ct5), sl5⟩) (c5 : PySem.W.codeIn K cd5 "charge_key" = true) (k5 : PySem.W.keepIn K (.ref f5) = true)
    (a6 : PySem.W.nsIn K mainGlobals "pack_node" = some (some (.ref f6))) (l6 : K.lookup f6 = some ⟨oc6, od6, .func (PySem.W.fnOf "pack_node" "pack_node" (defArgs s_pack_node) (defBody s_pack_node) (defScope s_pack_node) .none kV6 dc6 pm6 an6 cd6 ct6), sl6⟩) (c6 : PySem.W.codeIn K cd6 "pack_node" = true) (k6 : PySem.W.keepIn K (.ref f6) = true)
    (a7 : PySem.W.nsIn K mainGlobals "unpack_node" = some (some (.ref f7))) (l7 : K.lookup f7 = some ⟨oc7, od7, .func (PySem.W.fnOf "unpack_node" "unpack_node" (defArgs s_unpack_node) (defBody s_unpack_node) (defScope s_unpack_node) .none kV7 dc7 pm7 an7 cd7 ct7), sl7⟩) (c7 : PySem.W.codeIn K cd7 "unpack_node" = true) (k7 : PySem.W.keepIn K (.ref f7) = true)
    (a8 : PySem.W.nsIn K mainGlobals "_mend_root" = some (some (.ref f8))) (l8 : K.lookup f8 = some ⟨oc8, od8, .func (PySem.W.fnOf "_mend_root" "_mend_root" (defArgs s__mend_root) (defBody s__mend_root) (defScope s__mend_root) .none kV8 dc8 pm8 an8 cd8 ct8), sl8⟩) (c8 : PySem.W.codeIn K cd8 "_mend_root" = true) (k8 : PySem.W.keepIn K (.ref f8) = true)
    (a9 : PySem.W.nsIn K mainGlobals "_remove_items" = some (some (.ref f9))) (l9 : K.lookup f9 = some ⟨oc9, od9, .func (PySem.W.fnOf "_remove_items" "_remove_items" (defArgs s__remove_items) (defBody s__remove_items) (defScope s__remove_items) .none kV9 dc9 pm9 an9 cd9 ct9), sl9⟩) (c9 : PySem.W.codeIn K cd9 "_remove_items" = true) (k9 : PySem.W.keepIn K (.ref f9) = true)
    (a10 : PySem.W.nsIn K mainGlobals "_remove_entries" = some (some (.ref f10))) (l10 : K.lookup f10 = some ⟨oc10, od10, .func (PySem.W.fnOf "_remove_entries" "_remove_entries" (defArgs s__remove_entries) (defBody s__remove_entries) (defScope s__remove_entries) .none kV10 dc10 pm10 an10 cd10 ct10), sl10⟩) (c10 : PySem.W.codeIn K cd10 "_remove_entries" = true) (k10 : PySem.W.keepIn K (.ref f10) = true)
    (a11 : PySem.W.nsIn K mainGlobals "_entry_counts" = some (some (.ref f11))) (l11 : K.lookup f11 = some ⟨oc11, od11, .func (PySem.W.fnOf "_entry_counts" "_entry_counts" (defArgs s__entry_counts) (defBody s__entry_counts) (defScope s__entry_counts) .none kV11 dc11 pm11 an11 cd11 ct11), sl11⟩) (c11 : PySem.W.codeIn K cd11 "_entry_counts" = true) (k11 : PySem.W.keepIn K (.ref f11) = true)
    (a12 : PySem.W.nsIn K mainGlobals "_new_entry" = some (some (.ref f12))) (l12 : K.lookup f12 = some ⟨oc12, od12, .func (PySem.W.fnOf "_new_entry" "_new_entry" (defArgs s__new_entry) (defBody s__new_entry) (defScope s__new_entry) .none kV12 dc12 pm12 an12 cd12 ct12), sl12⟩) (c12 : PySem.W.codeIn K cd12 "_new_entry" = true) (k12 : PySem.W.keepIn K (.ref f12) = true)
    (a13 : PySem.W.nsIn K mainGlobals "_move_nodes" = some (some (.ref f13))) (l13 : K.lookup f13 = some ⟨oc13, od13, .func (PySem.W.fnOf "_move_nodes" "_move_nodes" (defArgs s__move_nodes) (defBody s__move_nodes) (defScope s__move_nodes) .none kV13 dc13 pm13 an13 cd13 ct13), sl13⟩) (c13 : PySem.W.codeIn K cd13 "_move_nodes" = true) (k13 : PySem.W.keepIn K (.ref f13) = true)
    (a14 : PySem.W.nsIn K mainGlobals "_mend_links" = some (some (.ref f14))) (l14 : K.lookup f14 = some ⟨oc14, od14, .func (PySem.W.fnOf "_mend_links" "_mend_links" (defArgs s__mend_links) (defBody s__mend_links) (defScope s__mend_links) .none kV14 dc14 pm14 an14 cd14 ct14), sl14⟩) (c14 : PySem.W.codeIn K cd14 "_mend_links" = true) (k14 : PySem.W.keepIn K (.ref f14) = true)
    (a15 : PySem.W.nsIn K mainGlobals "_due_charges" = some (some (.ref f15))) (l15 : K.lookup f15 = some ⟨oc15, od15, .func (PySem.W.fnOf "_due_charges" "_due_charges" (defArgs s__due_charges) (defBody s__due_charges) (defScope s__due_charges) .none kV15 dc15 pm15 an15 cd15 ct15), sl15⟩) (c15 : PySem.W.codeIn K cd15 "_due_charges" = true) (k15 : PySem.W.keepIn K (.ref f15) = true)
    (a16 : PySem.W.nsIn K mainGlobals "_mend_charges" = some (some (.ref f16))) (l16 : K.lookup f16 = some ⟨oc16, od16, .func (PySem.W.fnOf "_mend_charges" "_mend_charges" (defArgs s__mend_charges) (defBody s__mend_charges) (defScope s__mend_charges) .none kV16 dc16 pm16 an16 cd16 ct16), sl16⟩) (c16 : PySem.W.codeIn K cd16 "_mend_charges" = true) (k16 : PySem.W.keepIn K (.ref f16) = true)
    (a17 : PySem.W.nsIn K mainGlobals "mend_items" = some (some (.ref f17))) (l17 : K.lookup f17 = some ⟨oc17, od17, .func (PySem.W.fnOf "mend_items" "mend_items" (defArgs s_mend_items) (defBody s_mend_items) (defScope s_mend_items) .none kV17 dc17 pm17 an17 cd17 ct17), sl17⟩) (c17 : PySem.W.codeIn K cd17 "mend_items" = true) (k17 : PySem.W.keepIn K (.ref f17) = true)
    (a18 : PySem.W.nsIn K mainGlobals "_law_box" = some (some (.ref f18))) (l18 : K.lookup f18 = some ⟨oc18, od18, .func (PySem.W.fnOf "_law_box" "_law_box" (defArgs s__law_box) (defBody s__law_box) (defScope s__law_box) .none kV18 dc18 pm18 an18 cd18 ct18), sl18⟩) (c18 : PySem.W.codeIn K cd18 "_law_box" = true) (k18 : PySem.W.keepIn K (.ref f18) = true)
    (a19 : PySem.W.nsIn K mainGlobals "_law_take" = some (some (.ref f19))) (l19 : K.lookup f19 = some ⟨oc19, od19, .func (PySem.W.fnOf "_law_take" "_law_take" (defArgs s__law_take) (defBody s__law_take) (defScope s__law_take) .none kV19 dc19 pm19 an19 cd19 ct19), sl19⟩) (c19 : PySem.W.codeIn K cd19 "_law_take" = true) (k19 : PySem.W.keepIn K (.ref f19) = true)
    (a20 : PySem.W.nsIn K mainGlobals "_law_word" = some (some (.ref f20))) (l20 : K.lookup f20 = some ⟨oc20, od20, .func (PySem.W.fnOf "_law_word" "_law_word" (defArgs s__law_word) (defBody s__law_word) (defScope s__law_word) .none kV20 dc20 pm20 an20 cd20 ct20), sl20⟩) (c20 : PySem.W.codeIn K cd20 "_law_word" = true) (k20 : PySem.W.keepIn K (.ref f20) = true)
    (a21 : PySem.W.nsIn K mainGlobals "_law_name" = some (some (.ref f21))) (l21 : K.lookup f21 = some ⟨oc21, od21, .func (PySem.W.fnOf "_law_name" "_law_name" (defArgs s__law_name) (defBody s__law_name) (defScope s__law_name) .none kV21 dc21 pm21 an21 cd21 ct21), sl21⟩) (c21 : PySem.W.codeIn K cd21 "_law_name" = true) (k21 : PySem.W.keepIn K (.ref f21) = true)
    (a22 : PySem.W.nsIn K mainGlobals "_law_numbers" = some (some (.ref f22))) (l22 : K.lookup f22 = some ⟨oc22, od22, .func (PySem.W.fnOf "_law_numbers" "_law_numbers" (defArgs s__law_numbers) (defBody s__law_numbers) (defScope s__law_numbers) .none kV22 dc22 pm22 an22 cd22 ct22), sl22⟩) (c22 : PySem.W.codeIn K cd22 "_law_numbers" = true) (k22 : PySem.W.keepIn K (.ref f22) = true)
    (a23 : PySem.W.nsIn K mainGlobals "_law_enter" = some (some (.ref f23))) (l23 : K.lookup f23 = some ⟨oc23, od23, .func (PySem.W.fnOf "_law_enter" "_law_enter" (defArgs s__law_enter) (defBody s__law_enter) (defScope s__law_enter) .none kV23 dc23 pm23 an23 cd23 ct23), sl23⟩) (c23 : PySem.W.codeIn K cd23 "_law_enter" = true) (k23 : PySem.W.keepIn K (.ref f23) = true)
    (a24 : PySem.W.nsIn K mainGlobals "_law_owner" = some (some (.ref f24))) (l24 : K.lookup f24 = some ⟨oc24, od24, .func (PySem.W.fnOf "_law_owner" "_law_owner" (defArgs s__law_owner) (defBody s__law_owner) (defScope s__law_owner) .none kV24 dc24 pm24 an24 cd24 ct24), sl24⟩) (c24 : PySem.W.codeIn K cd24 "_law_owner" = true) (k24 : PySem.W.keepIn K (.ref f24) = true)
    (a25 : PySem.W.nsIn K mainGlobals "_law_packed" = some (some (.ref f25))) (l25 : K.lookup f25 = some ⟨oc25, od25, .func (PySem.W.fnOf "_law_packed" "_law_packed" (defArgs s__law_packed) (defBody s__law_packed) (defScope s__law_packed) .none kV25 dc25 pm25 an25 cd25 ct25), sl25⟩) (c25 : PySem.W.codeIn K cd25 "_law_packed" = true) (k25 : PySem.W.keepIn K (.ref f25) = true)
    (a26 : PySem.W.nsIn K mainGlobals "_law_fill" = some (some (.ref f26))) (l26 : K.lookup f26 = some ⟨oc26, od26, .func (PySem.W.fnOf "_law_fill" "_law_fill" (defArgs s__law_fill) (defBody s__law_fill) (defScope s__law_fill) .none kV26 dc26 pm26 an26 cd26 ct26), sl26⟩) (c26 : PySem.W.codeIn K cd26 "_law_fill" = true) (k26 : PySem.W.keepIn K (.ref f26) = true)
    (a27 : PySem.W.nsIn K mainGlobals "_law_nodes" = some (some (.ref f27))) (l27 : K.lookup f27 = some ⟨oc27, od27, .func (PySem.W.fnOf "_law_nodes" "_law_nodes" (defArgs s__law_nodes) (defBody s__law_nodes) (defScope s__law_nodes) .none kV27 dc27 pm27 an27 cd27 ct27), sl27⟩) (c27 : PySem.W.codeIn K cd27 "_law_nodes" = true) (k27 : PySem.W.keepIn K (.ref f27) = true)
    (a28 : PySem.W.nsIn K mainGlobals "_law_sums" = some (some (.ref f28))) (l28 : K.lookup f28 = some ⟨oc28, od28, .func (PySem.W.fnOf "_law_sums" "_law_sums" (defArgs s__law_sums) (defBody s__law_sums) (defScope s__law_sums) .none kV28 dc28 pm28 an28 cd28 ct28), sl28⟩) (c28 : PySem.W.codeIn K cd28 "_law_sums" = true) (k28 : PySem.W.keepIn K (.ref f28) = true)
    (a29 : PySem.W.nsIn K mainGlobals "_law_whole" = some (some (.ref f29))) (l29 : K.lookup f29 = some ⟨oc29, od29, .func (PySem.W.fnOf "_law_whole" "_law_whole" (defArgs s__law_whole) (defBody s__law_whole) (defScope s__law_whole) .none kV29 dc29 pm29 an29 cd29 ct29), sl29⟩) (c29 : PySem.W.codeIn K cd29 "_law_whole" = true) (k29 : PySem.W.keepIn K (.ref f29) = true)
    (a30 : PySem.W.nsIn K mainGlobals "_law_left" = some (some (.ref f30))) (l30 : K.lookup f30 = some ⟨oc30, od30, .func (PySem.W.fnOf "_law_left" "_law_left" (defArgs s__law_left) (defBody s__law_left) (defScope s__law_left) .none kV30 dc30 pm30 an30 cd30 ct30), sl30⟩) (c30 : PySem.W.codeIn K cd30 "_law_left" = true) (k30 : PySem.W.keepIn K (.ref f30) = true)
    (a31 : PySem.W.nsIn K mainGlobals "_law_held" = some (some (.ref f31))) (l31 : K.lookup f31 = some ⟨oc31, od31, .func (PySem.W.fnOf "_law_held" "_law_held" (defArgs s__law_held) (defBody s__law_held) (defScope s__law_held) .none kV31 dc31 pm31 an31 cd31 ct31), sl31⟩) (c31 : PySem.W.codeIn K cd31 "_law_held" = true) (k31 : PySem.W.keepIn K (.ref f31) = true)
    (a32 : PySem.W.nsIn K mainGlobals "_law_cleared" = some (some (.ref f32))) (l32 : K.lookup f32 = some ⟨oc32, od32, .func (PySem.W.fnOf "_law_cleared" "_law_cleared" (defArgs s__law_cleared) (defBody s__law_cleared) (defScope s__law_cleared) .none kV32 dc32 pm32 an32 cd32 ct32), sl32⟩) (c32 : PySem.W.codeIn K cd32 "_law_cleared" = true) (k32 : PySem.W.keepIn K (.ref f32) = true)
    (a33 : PySem.W.nsIn K mainGlobals "_law_moved" = some (some (.ref f33))) (l33 : K.lookup f33 = some ⟨oc33, od33, .func (PySem.W.fnOf "_law_moved" "_law_moved" (defArgs s__law_moved) (defBody s__law_moved) (defScope s__law_moved) .none kV33 dc33 pm33 an33 cd33 ct33), sl33⟩) (c33 : PySem.W.codeIn K cd33 "_law_moved" = true) (k33 : PySem.W.keepIn K (.ref f33) = true)
    (a34 : PySem.W.nsIn K mainGlobals "_law_counted" = some (some (.ref f34))) (l34 : K.lookup f34 = some ⟨oc34, od34, .func (PySem.W.fnOf "_law_counted" "_law_counted" (defArgs s__law_counted) (defBody s__law_counted) (defScope s__law_counted) .none kV34 dc34 pm34 an34 cd34 ct34), sl34⟩) (c34 : PySem.W.codeIn K cd34 "_law_counted" = true) (k34 : PySem.W.keepIn K (.ref f34) = true)
    (a35 : PySem.W.nsIn K mainGlobals "_law_due" = some (some (.ref f35))) (l35 : K.lookup f35 = some ⟨oc35, od35, .func (PySem.W.fnOf "_law_due" "_law_due" (defArgs s__law_due) (defBody s__law_due) (defScope s__law_due) .none kV35 dc35 pm35 an35 cd35 ct35), sl35⟩) (c35 : PySem.W.codeIn K cd35 "_law_due" = true) (k35 : PySem.W.keepIn K (.ref f35) = true)
    (a36 : PySem.W.nsIn K mainGlobals "_law_alike" = some (some (.ref f36))) (l36 : K.lookup f36 = some ⟨oc36, od36, .func (PySem.W.fnOf "_law_alike" "_law_alike" (defArgs s__law_alike) (defBody s__law_alike) (defScope s__law_alike) .none kV36 dc36 pm36 an36 cd36 ct36), sl36⟩) (c36 : PySem.W.codeIn K cd36 "_law_alike" = true) (k36 : PySem.W.keepIn K (.ref f36) = true)
    (a37 : PySem.W.nsIn K mainGlobals "_law_fits" = some (some (.ref f37))) (l37 : K.lookup f37 = some ⟨oc37, od37, .func (PySem.W.fnOf "_law_fits" "_law_fits" (defArgs s__law_fits) (defBody s__law_fits) (defScope s__law_fits) .none kV37 dc37 pm37 an37 cd37 ct37), sl37⟩) (c37 : PySem.W.codeIn K cd37 "_law_fits" = true) (k37 : PySem.W.keepIn K (.ref f37) = true)
    (a38 : PySem.W.nsIn K mainGlobals "_law_is_rooted" = some (some (.ref f38))) (l38 : K.lookup f38 = some ⟨oc38, od38, .func (PySem.W.fnOf "_law_is_rooted" "_law_is_rooted" (defArgs s__law_is_rooted) (defBody s__law_is_rooted) (defScope s__law_is_rooted) .none kV38 dc38 pm38 an38 cd38 ct38), sl38⟩) (c38 : PySem.W.codeIn K cd38 "_law_is_rooted" = true) (k38 : PySem.W.keepIn K (.ref f38) = true)
    (a39 : PySem.W.nsIn K mainGlobals "_law_is_linked" = some (some (.ref f39))) (l39 : K.lookup f39 = some ⟨oc39, od39, .func (PySem.W.fnOf "_law_is_linked" "_law_is_linked" (defArgs s__law_is_linked) (defBody s__law_is_linked) (defScope s__law_is_linked) .none kV39 dc39 pm39 an39 cd39 ct39), sl39⟩) (c39 : PySem.W.codeIn K cd39 "_law_is_linked" = true) (k39 : PySem.W.keepIn K (.ref f39) = true)
    (a40 : PySem.W.nsIn K mainGlobals "_law_is_sound" = some (some (.ref f40))) (l40 : K.lookup f40 = some ⟨oc40, od40, .func (PySem.W.fnOf "_law_is_sound" "_law_is_sound" (defArgs s__law_is_sound) (defBody s__law_is_sound) (defScope s__law_is_sound) .none kV40 dc40 pm40 an40 cd40 ct40), sl40⟩) (c40 : PySem.W.codeIn K cd40 "_law_is_sound" = true) (k40 : PySem.W.keepIn K (.ref f40) = true)
    (a41 : PySem.W.nsIn K mainGlobals "_law_named" = some (some (.ref f41))) (l41 : K.lookup f41 = some ⟨oc41, od41, .func (PySem.W.fnOf "_law_named" "_law_named" (defArgs s__law_named) (defBody s__law_named) (defScope s__law_named) .none kV41 dc41 pm41 an41 cd41 ct41), sl41⟩) (c41 : PySem.W.codeIn K cd41 "_law_named" = true) (k41 : PySem.W.keepIn K (.ref f41) = true)
    (a42 : PySem.W.nsIn K mainGlobals "_law_is_kept" = some (some (.ref f42))) (l42 : K.lookup f42 = some ⟨oc42, od42, .func (PySem.W.fnOf "_law_is_kept" "_law_is_kept" (defArgs s__law_is_kept) (defBody s__law_is_kept) (defScope s__law_is_kept) .none kV42 dc42 pm42 an42 cd42 ct42), sl42⟩) (c42 : PySem.W.codeIn K cd42 "_law_is_kept" = true) (k42 : PySem.W.keepIn K (.ref f42) = true)
    (a43 : PySem.W.nsIn K mainGlobals "law" = some (some (.ref f43))) (l43 : K.lookup f43 = some ⟨oc43, od43, .func (PySem.W.fnOf "law" "law" (defArgs s_law) (defBody s_law) (defScope s_law) .none kV43 dc43 pm43 an43 cd43 ct43), sl43⟩) (c43 : PySem.W.codeIn K cd43 "law" = true) (k43 : PySem.W.keepIn K (.ref f43) = true)
    (z_len : PySem.W.nsIn K mainGlobals "len" = some none)
    (z_range : PySem.W.nsIn K mainGlobals "range" = some none)
    (z_sorted : PySem.W.nsIn K mainGlobals "sorted" = some none)
    (z_int : PySem.W.nsIn K mainGlobals "int" = some none)
    (z_abs : PySem.W.nsIn K mainGlobals "abs" = some none)
    (z_str : PySem.W.nsIn K mainGlobals "str" = some none)
    (z_min : PySem.W.nsIn K mainGlobals "min" = some none)
    (z_max : PySem.W.nsIn K mainGlobals "max" = some none)
    (z_list : PySem.W.nsIn K mainGlobals "list" = some none)
    (z_tuple : PySem.W.nsIn K mainGlobals "tuple" = some none)
    (z_bool : PySem.W.nsIn K mainGlobals "bool" = some none)
    (z_isinstance : PySem.W.nsIn K mainGlobals "isinstance" = some none)
    (g_SIGNS : PySem.W.nsIn K mainGlobals "_SIGNS" = some (some (.str "0123456789_abcdefghijklmnopqrstuvwxyz" t_SIGNS)))
    (g_BASE : PySem.W.nsIn K mainGlobals "_BASE" = some (some (.int 38 t_BASE)))
    (g_NAME_LENGTH : PySem.W.nsIn K mainGlobals "_NAME_LENGTH" = some (some (.int 11 t_NAME_LENGTH)))
    (g_NODE_nodes : PySem.W.nsIn K mainGlobals "NODE_nodes" = some (some (.int 0 t_NODE_nodes)))
    (g_ENTRY_nodes : PySem.W.nsIn K mainGlobals "ENTRY_nodes" = some (some (.int 1 t_ENTRY_nodes)))
    (g_CHARGE_nodes : PySem.W.nsIn K mainGlobals "CHARGE_nodes" = some (some (.int 4 t_CHARGE_nodes)))
    (g_KINDS : PySem.W.nsIn K mainGlobals "_KINDS" = some (some (.int 2 t_KINDS)))
    (g_MODES : PySem.W.nsIn K mainGlobals "_MODES" = some (some (.int 64 t_MODES)))
    (g_OWNERS : PySem.W.nsIn K mainGlobals "_OWNERS" = some (some (.int 1000 t_OWNERS)))
    (g_NODE_mending : PySem.W.nsIn K mainGlobals "NODE_mending" = some (some (.int 0 t_NODE_mending)))
    (g_ENTRY_mending : PySem.W.nsIn K mainGlobals "ENTRY_mending" = some (some (.int 1 t_ENTRY_mending)))
    (g_CHUNK : PySem.W.nsIn K mainGlobals "_CHUNK" = some (some (.int 3 t_CHUNK)))
    (g_CHARGE_mending : PySem.W.nsIn K mainGlobals "CHARGE_mending" = some (some (.int 4 t_CHARGE_mending)))
    (g_FOLDER : PySem.W.nsIn K mainGlobals "_FOLDER" = some (some (.int 1 t_FOLDER)))
    (g_ROOT : PySem.W.nsIn K mainGlobals "_ROOT" = some (some (.int 1 t_ROOT)))
    (g_ROOT_MODE : PySem.W.nsIn K mainGlobals "_ROOT_MODE" = some (some (.int 61 t_ROOT_MODE))) :
    ∃ fd : FuncData, (∀ (s : Shared) (v : Value), BindsTo s fd ⟨[v], []⟩ [("script", v)]) ∧ ∀ base : Heap, K.In base → base.Ns mainGlobals mg → FnOk l.prog w K mg base CX0 7 fa fd ["script"] (spLaw K) := by
  have e := hfa.symm.trans (PySem.W.mg_of X G a43)
  cases e
  have T : Txt mg := ⟨PySem.W.mg_none_of X G z_len, PySem.W.mg_none_of X G z_range, PySem.W.mg_none_of X G z_sorted, PySem.W.mg_none_of X G z_int, PySem.W.mg_none_of X G z_abs, PySem.W.mg_none_of X G z_str, PySem.W.mg_none_of X G z_min, PySem.W.mg_none_of X G z_max, PySem.W.mg_none_of X G z_list, PySem.W.mg_none_of X G z_tuple, PySem.W.mg_none_of X G z_bool, PySem.W.mg_none_of X G z_isinstance, ⟨_, PySem.W.mg_of X G g_SIGNS⟩, ⟨_, PySem.W.mg_of X G g_BASE⟩, ⟨_, PySem.W.mg_of X G g_NAME_LENGTH⟩, ⟨_, PySem.W.mg_of X G g_NODE_nodes⟩, ⟨_, PySem.W.mg_of X G g_ENTRY_nodes⟩, ⟨_, PySem.W.mg_of X G g_CHARGE_nodes⟩, ⟨_, PySem.W.mg_of X G g_KINDS⟩, ⟨_, PySem.W.mg_of X G g_MODES⟩, ⟨_, PySem.W.mg_of X G g_OWNERS⟩, ⟨_, PySem.W.mg_of X G g_NODE_mending⟩, ⟨_, PySem.W.mg_of X G g_ENTRY_mending⟩, ⟨_, PySem.W.mg_of X G g_CHUNK⟩, ⟨_, PySem.W.mg_of X G g_CHARGE_mending⟩, ⟨_, PySem.W.mg_of X G g_FOLDER⟩, ⟨_, PySem.W.mg_of X G g_ROOT⟩, ⟨_, PySem.W.mg_of X G g_ROOT_MODE⟩⟩
  have F1 := fun_mk (st := s_is_name) l1 c1 k1
  have b1 := F1.binds (ps := ["text"]) fun _ _ _ _ _ _ us hl => match us, hl with | [_], _ => rfl
  have F2 := fun_mk (st := s_name_word) l2 c2 k2
  have b2 := F2.binds (ps := ["name"]) fun _ _ _ _ _ _ us hl => match us, hl with | [_], _ => rfl
  have F3 := fun_mk (st := s_node_key) l3 c3 k3
  have b3 := F3.binds (ps := ["n"]) fun _ _ _ _ _ _ us hl => match us, hl with | [_], _ => rfl
  have F4 := fun_mk (st := s_entry_key) l4 c4 k4
  have b4 := F4.binds (ps := ["n", "name"]) fun _ _ _ _ _ _ us hl => match us, hl with | [_, _], _ => rfl
  have F5 := fun_mk (st := s_charge_key) l5 c5 k5
  have b5 := F5.binds (ps := ["owner"]) fun _ _ _ _ _ _ us hl => match us, hl with | [_], _ => rfl
  have F6 := fun_mk (st := s_pack_node) l6 c6 k6
  have b6 := F6.binds (ps := ["kind", "owner", "mode", "links"]) fun _ _ _ _ _ _ us hl => match us, hl with | [_, _, _, _], _ => rfl
  have F7 := fun_mk (st := s_unpack_node) l7 c7 k7
  have b7 := F7.binds (ps := ["packed"]) fun _ _ _ _ _ _ us hl => match us, hl with | [_], _ => rfl
  have F8 := fun_mk (st := s__mend_root) l8 c8 k8
  have b8 := F8.binds (ps := ["found", "losses"]) fun _ _ _ _ _ _ us hl => match us, hl with | [_, _], _ => rfl
  have F9 := fun_mk (st := s__remove_items) l9 c9 k9
  have b9 := F9.binds (ps := ["found", "losses"]) fun _ _ _ _ _ _ us hl => match us, hl with | [_, _], _ => rfl
  have F10 := fun_mk (st := s__remove_entries) l10 c10 k10
  have b10 := F10.binds (ps := ["found", "losses"]) fun _ _ _ _ _ _ us hl => match us, hl with | [_, _], _ => rfl
  have F11 := fun_mk (st := s__entry_counts) l11 c11 k11
  have b11 := F11.binds (ps := ["found"]) fun _ _ _ _ _ _ us hl => match us, hl with | [_], _ => rfl
  have F12 := fun_mk (st := s__new_entry) l12 c12 k12
  have b12 := F12.binds (ps := ["found", "n"]) fun _ _ _ _ _ _ us hl => match us, hl with | [_, _], _ => rfl
  have F13 := fun_mk (st := s__move_nodes) l13 c13 k13
  have b13 := F13.binds (ps := ["found", "losses"]) fun _ _ _ _ _ _ us hl => match us, hl with | [_, _], _ => rfl
  have F14 := fun_mk (st := s__mend_links) l14 c14 k14
  have b14 := F14.binds (ps := ["found", "losses"]) fun _ _ _ _ _ _ us hl => match us, hl with | [_, _], _ => rfl
  have F15 := fun_mk (st := s__due_charges) l15 c15 k15
  have b15 := F15.binds (ps := ["found"]) fun _ _ _ _ _ _ us hl => match us, hl with | [_], _ => rfl
  have F16 := fun_mk (st := s__mend_charges) l16 c16 k16
  have b16 := F16.binds (ps := ["found", "losses"]) fun _ _ _ _ _ _ us hl => match us, hl with | [_, _], _ => rfl
  have F17 := fun_mk (st := s_mend_items) l17 c17 k17
  have b17 := F17.binds (ps := ["items"]) fun _ _ _ _ _ _ us hl => match us, hl with | [_], _ => rfl
  have F18 := fun_mk (st := s__law_box) l18 c18 k18
  have b18 := F18.binds (ps := ["script"]) fun _ _ _ _ _ _ us hl => match us, hl with | [_], _ => rfl
  have F19 := fun_mk (st := s__law_take) l19 c19 k19
  have b19 := F19.binds (ps := ["box", "size"]) fun _ _ _ _ _ _ us hl => match us, hl with | [_, _], _ => rfl
  have F20 := fun_mk (st := s__law_word) l20 c20 k20
  have b20 := F20.binds (ps := ["name"]) fun _ _ _ _ _ _ us hl => match us, hl with | [_], _ => rfl
  have F21 := fun_mk (st := s__law_name) l21 c21 k21
  have b21 := F21.binds (ps := ["box", "numbers"]) fun _ _ _ _ _ _ us hl => match us, hl with | [_, _], _ => rfl
  have F22 := fun_mk (st := s__law_numbers) l22 c22 k22
  have b22 := F22.binds (ps := ["box"]) fun _ _ _ _ _ _ us hl => match us, hl with | [_], _ => rfl
  have F23 := fun_mk (st := s__law_enter) l23 c23 k23
  have b23 := F23.binds (ps := ["box", "found", "numbers", "folder", "child"]) fun _ _ _ _ _ _ us hl => match us, hl with | [_, _, _, _, _], _ => rfl
  have F24 := fun_mk (st := s__law_owner) l24 c24 k24
  have b24 := F24.binds (ps := ["box"]) fun _ _ _ _ _ _ us hl => match us, hl with | [_], _ => rfl
  have F25 := fun_mk (st := s__law_packed) l25 c25 k25
  have b25 := F25.binds (ps := ["kind", "owner", "mode", "links"]) fun _ _ _ _ _ _ us hl => match us, hl with | [_, _, _, _], _ => rfl
  have F26 := fun_mk (st := s__law_fill) l26 c26 k26
  have b26 := F26.binds (ps := ["box", "found", "numbers", "folders", "n"]) fun _ _ _ _ _ _ us hl => match us, hl with | [_, _, _, _, _], _ => rfl
  have F27 := fun_mk (st := s__law_nodes) l27 c27 k27
  have b27 := F27.binds (ps := ["box"]) fun _ _ _ _ _ _ us hl => match us, hl with | [_], _ => rfl
  have F28 := fun_mk (st := s__law_sums) l28 c28 k28
  have b28 := F28.binds (ps := ["found"]) fun _ _ _ _ _ _ us hl => match us, hl with | [_], _ => rfl
  have F29 := fun_mk (st := s__law_whole) l29 c29 k29
  have b29 := F29.binds (ps := ["box"]) fun _ _ _ _ _ _ us hl => match us, hl with | [_], _ => rfl
  have F30 := fun_mk (st := s__law_left) l30 c30 k30
  have b30 := F30.binds (ps := ["box", "whole"]) fun _ _ _ _ _ _ us hl => match us, hl with | [_, _], _ => rfl
  have F31 := fun_mk (st := s__law_held) l31 c31 k31
  have b31 := F31.binds (ps := ["items"]) fun _ _ _ _ _ _ us hl => match us, hl with | [_], _ => rfl
  have F32 := fun_mk (st := s__law_cleared) l32 c32 k32
  have b32 := F32.binds (ps := ["items", "losses"]) fun _ _ _ _ _ _ us hl => match us, hl with | [_, _], _ => rfl
  have F33 := fun_mk (st := s__law_moved) l33 c33 k33
  have b33 := F33.binds (ps := ["left", "losses"]) fun _ _ _ _ _ _ us hl => match us, hl with | [_, _], _ => rfl
  have F34 := fun_mk (st := s__law_counted) l34 c34 k34
  have b34 := F34.binds (ps := ["left", "leads", "losses"]) fun _ _ _ _ _ _ us hl => match us, hl with | [_, _, _], _ => rfl
  have F35 := fun_mk (st := s__law_due) l35 c35 k35
  have b35 := F35.binds (ps := ["items"]) fun _ _ _ _ _ _ us hl => match us, hl with | [_], _ => rfl
  have F36 := fun_mk (st := s__law_alike) l36 c36 k36
  have b36 := F36.binds (ps := ["told", "due"]) fun _ _ _ _ _ _ us hl => match us, hl with | [_, _], _ => rfl
  have F37 := fun_mk (st := s__law_fits) l37 c37 k37
  have b37 := F37.binds (ps := ["held", "key"]) fun _ _ _ _ _ _ us hl => match us, hl with | [_, _], _ => rfl
  have F38 := fun_mk (st := s__law_is_rooted) l38 c38 k38
  have b38 := F38.binds (ps := ["held", "n"]) fun _ _ _ _ _ _ us hl => match us, hl with | [_, _], _ => rfl
  have F39 := fun_mk (st := s__law_is_linked) l39 c39 k39
  have b39 := F39.binds (ps := ["held"]) fun _ _ _ _ _ _ us hl => match us, hl with | [_], _ => rfl
  have F40 := fun_mk (st := s__law_is_sound) l40 c40 k40
  have b40 := F40.binds (ps := ["items"]) fun _ _ _ _ _ _ us hl => match us, hl with | [_], _ => rfl
  have F41 := fun_mk (st := s__law_named) l41 c41 k41
  have b41 := F41.binds (ps := ["losses"]) fun _ _ _ _ _ _ us hl => match us, hl with | [_], _ => rfl
  have F42 := fun_mk (st := s__law_is_kept) l42 c42 k42
  have b42 := F42.binds (ps := ["items", "mended", "losses"]) fun _ _ _ _ _ _ us hl => match us, hl with | [_, _, _], _ => rfl
  have F43 := fun_mk (st := s_law) l43 c43 k43
  have b43 := F43.binds (ps := ["script"]) fun _ _ _ _ _ _ us hl => match us, hl with | [_], _ => rfl
  refine ⟨PySem.W.fnOf "law" "law" (defArgs s_law) (defBody s_law) (defScope s_law) .none kV43 dc43 pm43 an43 cd43 ct43, fun s v => .of_eq rfl, fun base _ _ => ?_⟩
  have C_is_name : Cl l.prog w K mg base 1 "is_name" ["text"] spIsName := ⟨⟨f1, _, ok_is_name F1 T , PySem.W.mg_of X G a1, k1, b1⟩⟩
  have C_name_word : Cl l.prog w K mg base 2 "name_word" ["name"] spNameWord := ⟨⟨f2, _, ok_name_word F2 T (C_is_name := C_is_name), PySem.W.mg_of X G a2, k2, b2⟩⟩
  have C_node_key : Cl l.prog w K mg base 1 "node_key" ["n"] spNodeKey := ⟨⟨f3, _, ok_node_key F3 T , PySem.W.mg_of X G a3, k3, b3⟩⟩
  have C_entry_key : Cl l.prog w K mg base 3 "entry_key" ["n", "name"] spEntryKey := ⟨⟨f4, _, ok_entry_key F4 T (C_name_word := C_name_word), PySem.W.mg_of X G a4, k4, b4⟩⟩
  have C_charge_key : Cl l.prog w K mg base 1 "charge_key" ["owner"] spChargeKey := ⟨⟨f5, _, ok_charge_key F5 T , PySem.W.mg_of X G a5, k5, b5⟩⟩
  have C_pack_node : Cl l.prog w K mg base 1 "pack_node" ["kind", "owner", "mode", "links"] spPack := ⟨⟨f6, _, ok_pack_node F6 T , PySem.W.mg_of X G a6, k6, b6⟩⟩
  have C_unpack_node : Cl l.prog w K mg base 1 "unpack_node" ["packed"] spUnpack := ⟨⟨f7, _, ok_unpack_node F7 T , PySem.W.mg_of X G a7, k7, b7⟩⟩
  have C__mend_root : Cl l.prog w K mg base 2 "_mend_root" ["found", "losses"] (spSt rootS rootLs fun _ => True) := ⟨⟨f8, _, ok__mend_root F8 T (C_node_key := C_node_key) (C_pack_node := C_pack_node), PySem.W.mg_of X G a8, k8, b8⟩⟩
  have C__remove_items : Cl l.prog w K mg base 2 "_remove_items" ["found", "losses"] (spSt itemS itemLs fun _ => True) := ⟨⟨f9, _, ok__remove_items F9 T (C_node_key := C_node_key), PySem.W.mg_of X G a9, k9, b9⟩⟩
  have C__remove_entries : Cl l.prog w K mg base 2 "_remove_entries" ["found", "losses"] (spSt entS entLs fun _ => True) := ⟨⟨f10, _, ok__remove_entries F10 T (C_node_key := C_node_key), PySem.W.mg_of X G a10, k10, b10⟩⟩
  have C__entry_counts : Cl l.prog w K mg base 1 "_entry_counts" ["found"] spCounts := ⟨⟨f11, _, ok__entry_counts F11 T , PySem.W.mg_of X G a11, k11, b11⟩⟩
  have C__new_entry : Cl l.prog w K mg base 4 "_new_entry" ["found", "n"] spNewEntry := ⟨⟨f12, _, ok__new_entry F12 T (C_entry_key := C_entry_key), PySem.W.mg_of X G a12, k12, b12⟩⟩
  have C__move_nodes : Cl l.prog w K mg base 5 "_move_nodes" ["found", "losses"] (spSt (fun L => mv (orphans L) L) (fun L => mvLs (orphans L) L) MovPre) := ⟨⟨f13, _, ok__move_nodes F13 T (C__entry_counts := C__entry_counts) (C__new_entry := C__new_entry) (C_unpack_node := C_unpack_node), PySem.W.mg_of X G a13, k13, b13⟩⟩
  have C__mend_links : Cl l.prog w K mg base 2 "_mend_links" ["found", "losses"] (spSt linkS linkLs fun _ => True) := ⟨⟨f14, _, ok__mend_links F14 T (C__entry_counts := C__entry_counts) (C_pack_node := C_pack_node) (C_unpack_node := C_unpack_node), PySem.W.mg_of X G a14, k14, b14⟩⟩
  have C__due_charges : Cl l.prog w K mg base 2 "_due_charges" ["found"] spDue := ⟨⟨f15, _, ok__due_charges F15 T (C_node_key := C_node_key) (C_unpack_node := C_unpack_node), PySem.W.mg_of X G a15, k15, b15⟩⟩
  have C__mend_charges : Cl l.prog w K mg base 3 "_mend_charges" ["found", "losses"] (spSt (fun L => chg (usedI L) (owners L) L) (fun L => chgLs (usedI L) (owners L) L) ChgPre) := ⟨⟨f16, _, ok__mend_charges F16 T (C__due_charges := C__due_charges) (C_charge_key := C_charge_key), PySem.W.mg_of X G a16, k16, b16⟩⟩
  have C_mend_items : Cl l.prog w K mg base 6 "mend_items" ["items"] spMend2 := ⟨⟨f17, _, ok_mend_items2 F17 T (C__mend_root := C__mend_root) (C__remove_items := C__remove_items) (C__remove_entries := C__remove_entries) (C__move_nodes := C__move_nodes) (C__mend_links := C__mend_links) (C__mend_charges := C__mend_charges), PySem.W.mg_of X G a17, k17, b17⟩⟩
  have C__law_box : Cl l.prog w K mg base 1 "_law_box" ["script"] (spBox K) := ⟨⟨f18, _, ok__law_box F18 T , PySem.W.mg_of X G a18, k18, b18⟩⟩
  have C__law_take : Cl l.prog w K mg base 1 "_law_take" ["box", "size"] spTake := ⟨⟨f19, _, ok__law_take F19 T , PySem.W.mg_of X G a19, k19, b19⟩⟩
  have C__law_word : Cl l.prog w K mg base 1 "_law_word" ["name"] spNameWord := ⟨⟨f20, _, ok__law_word F20 T , PySem.W.mg_of X G a20, k20, b20⟩⟩
  have C__law_name : Cl l.prog w K mg base 2 "_law_name" ["box", "numbers"] spName := ⟨⟨f21, _, ok__law_name F21 T (C__law_take := C__law_take), PySem.W.mg_of X G a21, k21, b21⟩⟩
  have C__law_numbers : Cl l.prog w K mg base 2 "_law_numbers" ["box"] spNumbers := ⟨⟨f22, _, ok__law_numbers F22 T (C__law_take := C__law_take), PySem.W.mg_of X G a22, k22, b22⟩⟩
  have C__law_enter : Cl l.prog w K mg base 3 "_law_enter" ["box", "found", "numbers", "folder", "child"] spEnter := ⟨⟨f23, _, ok__law_enter F23 T (C__law_name := C__law_name) (C__law_word := C__law_word), PySem.W.mg_of X G a23, k23, b23⟩⟩
  have C__law_owner : Cl l.prog w K mg base 2 "_law_owner" ["box"] spOwner := ⟨⟨f24, _, ok__law_owner F24 T (C__law_take := C__law_take), PySem.W.mg_of X G a24, k24, b24⟩⟩
  have C__law_packed : Cl l.prog w K mg base 1 "_law_packed" ["kind", "owner", "mode", "links"] spPack := ⟨⟨f25, _, ok__law_packed F25 T , PySem.W.mg_of X G a25, k25, b25⟩⟩
  have C__law_fill : Cl l.prog w K mg base 4 "_law_fill" ["box", "found", "numbers", "folders", "n"] spFill := ⟨⟨f26, _, ok__law_fill F26 T (C__law_take := C__law_take) (C__law_owner := C__law_owner) (C__law_packed := C__law_packed) (C__law_enter := C__law_enter), PySem.W.mg_of X G a26, k26, b26⟩⟩
  have C__law_nodes : Cl l.prog w K mg base 5 "_law_nodes" ["box"] spNodes := ⟨⟨f27, _, ok__law_nodes F27 T (C__law_take := C__law_take) (C__law_owner := C__law_owner) (C__law_packed := C__law_packed) (C__law_enter := C__law_enter) (C__law_numbers := C__law_numbers) (C__law_fill := C__law_fill) (C__law_word := C__law_word) (C__law_name := C__law_name), PySem.W.mg_of X G a27, k27, b27⟩⟩
  have C__law_sums : Cl l.prog w K mg base 1 "_law_sums" ["found"] spSums := ⟨⟨f28, _, ok__law_sums F28 T , PySem.W.mg_of X G a28, k28, b28⟩⟩
  have C__law_whole : Cl l.prog w K mg base 6 "_law_whole" ["box"] spWhole := ⟨⟨f29, _, ok__law_whole F29 T (C__law_take := C__law_take) (C__law_nodes := C__law_nodes) (C__law_sums := C__law_sums), PySem.W.mg_of X G a29, k29, b29⟩⟩
  have C__law_left : Cl l.prog w K mg base 2 "_law_left" ["box", "whole"] spLeft := ⟨⟨f30, _, ok__law_left F30 T (C__law_take := C__law_take), PySem.W.mg_of X G a30, k30, b30⟩⟩
  have C__law_held : Cl l.prog w K mg base 1 "_law_held" ["items"] spHeld := ⟨⟨f31, _, ok__law_held F31 T , PySem.W.mg_of X G a31, k31, b31⟩⟩
  have C__law_held_I : Cl l.prog w K mg base 1 "_law_held" ["items"] spHeldI := ⟨⟨f31, _, ok__law_held_I F31 T , PySem.W.mg_of X G a31, k31, b31⟩⟩
  have C__law_cleared : Cl l.prog w K mg base 2 "_law_cleared" ["items", "losses"] spCleared := ⟨⟨f32, _, ok__law_cleared F32 T (C__law_held := C__law_held) (C__law_packed := C__law_packed), PySem.W.mg_of X G a32, k32, b32⟩⟩
  have C__law_moved : Cl l.prog w K mg base 2 "_law_moved" ["left", "losses"] spMoved := ⟨⟨f33, _, ok__law_moved F33 T (C__law_word := C__law_word), PySem.W.mg_of X G a33, k33, b33⟩⟩
  have C__law_counted : Cl l.prog w K mg base 2 "_law_counted" ["left", "leads", "losses"] spCounted := ⟨⟨f34, _, ok__law_counted F34 T (C__law_sums := C__law_sums) (C__law_held_I := C__law_held_I), PySem.W.mg_of X G a34, k34, b34⟩⟩
  have C__law_due : Cl l.prog w K mg base 3 "_law_due" ["items"] spMend := ⟨⟨f35, _, ok__law_due F35 T (C__law_cleared := C__law_cleared) (C__law_moved := C__law_moved) (C__law_counted := C__law_counted), PySem.W.mg_of X G a35, k35, b35⟩⟩
  have A0 : Cl l.prog w K mg base 0 "_law_alike" ["told", "due"] (fun _ _ _ _ => False) := ⟨⟨f36, _, fn_false, PySem.W.mg_of X G a36, k36, b36⟩⟩
  have A1 : Cl l.prog w K mg base 1 "_law_alike" ["told", "due"] (spAl Z1) := ⟨⟨f36, _, ok__law_alike F36 T 0 Z0 _ A0 (fun _ _ _ _ _ a _ => a), PySem.W.mg_of X G a36, k36, b36⟩⟩
  have A2 : Cl l.prog w K mg base 2 "_law_alike" ["told", "due"] (spAl Z2) := ⟨⟨f36, _, ok__law_alike F36 T 1 Z1 (spAl Z1) A1 (fun x y _ _ _ a q => ⟨x, y, rfl, a, q⟩), PySem.W.mg_of X G a36, k36, b36⟩⟩
  have A3 : Cl l.prog w K mg base 3 "_law_alike" ["told", "due"] (spAl Z3) := ⟨⟨f36, _, ok__law_alike F36 T 2 Z2 (spAl Z2) A2 (fun x y _ _ _ a q => ⟨x, y, rfl, a, q⟩), PySem.W.mg_of X G a36, k36, b36⟩⟩
  have A4 : Cl l.prog w K mg base 4 "_law_alike" ["told", "due"] (spAl Z4) := ⟨⟨f36, _, ok__law_alike F36 T 3 Z3 (spAl Z3) A3 (fun x y _ _ _ a q => ⟨x, y, rfl, a, q⟩), PySem.W.mg_of X G a36, k36, b36⟩⟩
  have C__law_alike : Cl l.prog w K mg base 5 "_law_alike" ["told", "due"] (spAl Z5) := ⟨⟨f36, _, ok__law_alike F36 T 4 Z4 (spAl Z4) A4 (fun x y _ _ _ a q => ⟨x, y, rfl, a, q⟩), PySem.W.mg_of X G a36, k36, b36⟩⟩
  have C__law_fits : Cl l.prog w K mg base 1 "_law_fits" ["held", "key"] spFits := ⟨⟨f37, _, ok__law_fits F37 T , PySem.W.mg_of X G a37, k37, b37⟩⟩
  have C__law_is_rooted : Cl l.prog w K mg base 1 "_law_is_rooted" ["held", "n"] spRooted := ⟨⟨f38, _, ok__law_is_rooted F38 T , PySem.W.mg_of X G a38, k38, b38⟩⟩
  have C__law_is_linked : Cl l.prog w K mg base 2 "_law_is_linked" ["held"] spLinked := ⟨⟨f39, _, ok__law_is_linked F39 T (C__law_is_rooted := C__law_is_rooted), PySem.W.mg_of X G a39, k39, b39⟩⟩
  have C__law_is_sound : Cl l.prog w K mg base 3 "_law_is_sound" ["items"] spSound := ⟨⟨f40, _, ok__law_is_sound F40 T (C__law_held := C__law_held) (C__law_fits := C__law_fits) (C__law_sums := C__law_sums) (C__law_is_linked := C__law_is_linked), PySem.W.mg_of X G a40, k40, b40⟩⟩
  have C__law_named : Cl l.prog w K mg base 2 "_law_named" ["losses"] spNamed := ⟨⟨f41, _, ok__law_named F41 T (C__law_word := C__law_word), PySem.W.mg_of X G a41, k41, b41⟩⟩
  have C__law_is_kept : Cl l.prog w K mg base 3 "_law_is_kept" ["items", "mended", "losses"] spKept := ⟨⟨f42, _, ok__law_is_kept F42 T (C__law_held := C__law_held) (C__law_named := C__law_named), PySem.W.mg_of X G a42, k42, b42⟩⟩
  exact ok_law F43 T (C__law_box := C__law_box) (C__law_whole := C__law_whole) (C__law_left := C__law_left) (C_mend_items := C_mend_items) (C__law_alike := C__law_alike) (C__law_due := C__law_due) (C__law_is_sound := C__law_is_sound) (C__law_is_kept := C__law_is_kept)
theorem walk {l : PySem.W.OpenLaw} {q : Program} {loose : List Str} {XP : (Str → Option Value) → Heap → Prop} {YP : World → Heap → Prop} {d : DefRec} {K : Params → PySem.W.Frag} (hn : l.most = some 63) (hdf : d.params.defaults = [])
    (hY : ∀ (w : World) (h : Heap), YP w h → (K w.params).In h)
    (F : ∀ (w : World) (mg : Str → Option Value) (fa : Addr) (h : Heap), (K w.params).In h → h.Ns mainGlobals mg → mg d.name = some (.ref fa) →
      ∃ fd : FuncData, (∀ (s : Shared) (u : Value), BindsTo s fd ⟨[u], []⟩ [("script", u)]) ∧ ∀ base : Heap, (K w.params).In base → base.Ns mainGlobals mg → FnOk l.prog w (K w.params) mg base CX0 7 fa fd ["script"] (spLaw (K w.params))) :
    PySem.W.WalkO q loose XP YP l.row.toRowW d [] (fun f vs => PySem.call f vs) :=
  L2.walk_of (n := 63) (k := 7) (x := "script") (CX := fun _ => CX0) (sp := fun w => spLaw (K w.params)) hn (by decide) hdf ⟨rfl, by decide, by decide⟩ hY F (fun _ _ a ns hl _ hS => ⟨a, ns, rfl, hS, hl, fun _ => rfl⟩) fun _ _ _ _ _ z => z
end K41

open PySem PySem.W PyProof.Rows in
set_option maxRecDepth 100000 in
set_option maxHeartbeats 0 in
theorem PySem.Challenge.cw_landfall_k41_mended_items_are_sound_holds : PySem.Challenge.rw_landfall_k41_mended_items_are_sound.Holds := by
  w_on; o_law; k_head; (case hw => w_witness2)
  k_fill
  refine K41.walk (l := PySem.Challenge.rw_landfall_k41_mended_items_are_sound) rfl rfl (fun w h Y => PySem.W.kIn_of Y) ?F
  case F =>
    intro w mg fa h KX G hmg
    refine' K41.all_mk KX G hmg ?a1 ?l1 ?c1 ?k1 ?a2 ?l2 ?c2 ?k2 ?a3 ?l3 ?c3 ?k3 ?a4 ?l4 ?c4 ?k4 ?a5 ?l5 ?c5 ?k5 ?a6 ?l6 ?c6 ?k6 ?a7 ?l7 ?c7 ?k7 ?a8 ?l8 ?c8 ?k8 ?a9 ?l9 ?c9 ?k9 ?a10 ?l10 ?c10 ?k10 ?a11 ?l11 ?c11 ?k11 ?a12 ?l12 ?c12 ?k12 ?a13 ?l13 ?c13 ?k13 ?a14 ?l14 ?c14 ?k14 ?a15 ?l15 ?c15 ?k15 ?a16 ?l16 ?c16 ?k16 ?a17 ?l17 ?c17 ?k17 ?a18 ?l18 ?c18 ?k18 ?a19 ?l19 ?c19 ?k19 ?a20 ?l20 ?c20 ?k20 ?a21 ?l21 ?c21 ?k21 ?a22 ?l22 ?c22 ?k22 ?a23 ?l23 ?c23 ?k23 ?a24 ?l24 ?c24 ?k24 ?a25 ?l25 ?c25 ?k25 ?a26 ?l26 ?c26 ?k26 ?a27 ?l27 ?c27 ?k27 ?a28 ?l28 ?c28 ?k28 ?a29 ?l29 ?c29 ?k29 ?a30 ?l30 ?c30 ?k30 ?a31 ?l31 ?c31 ?k31 ?a32 ?l32 ?c32 ?k32 ?a33 ?l33 ?c33 ?k33 ?a34 ?l34 ?c34 ?k34 ?a35 ?l35 ?c35 ?k35 ?a36 ?l36 ?c36 ?k36 ?a37 ?l37 ?c37 ?k37 ?a38 ?l38 ?c38 ?k38 ?a39 ?l39 ?c39 ?k39 ?a40 ?l40 ?c40 ?k40 ?a41 ?l41 ?c41 ?k41 ?a42 ?l42 ?c42 ?k42 ?a43 ?l43 ?c43 ?k43 ?z_len ?z_range ?z_sorted ?z_int ?z_abs ?z_str ?z_min ?z_max ?z_list ?z_tuple ?z_bool ?z_isinstance ?g_SIGNS ?g_BASE ?g_NAME_LENGTH ?g_NODE_nodes ?g_ENTRY_nodes ?g_CHARGE_nodes ?g_KINDS ?g_MODES ?g_OWNERS ?g_NODE_mending ?g_ENTRY_mending ?g_CHUNK ?g_CHARGE_mending ?g_FOLDER ?g_ROOT ?g_ROOT_MODE
    (case a1 => k_is)
    (case l1 => k_is)
    (case c1 => k_is)
    (case k1 => k_is)
    (case a2 => k_is)
    (case l2 => k_is)
    (case c2 => k_is)
    (case k2 => k_is)
    (case a3 => k_is)
    (case l3 => k_is)
    (case c3 => k_is)
    (case k3 => k_is)
    (case a4 => k_is)
    (case l4 => k_is)
    (case c4 => k_is)
    (case k4 => k_is)
    (case a5 => k_is)
    (case l5 => k_is)
    (case c5 => k_is)
    (case k5 => k_is)
    (case a6 => k_is)
    (case l6 => k_is)
    (case c6 => k_is)
    (case k6 => k_is)
    (case a7 => k_is)
    (case l7 => k_is)
    (case c7 => k_is)
    (case k7 => k_is)
    (case a8 => k_is)
    (case l8 => k_is)
    (case c8 => k_is)
    (case k8 => k_is)
    (case a9 => k_is)
    (case l9 => k_is)
    (case c9 => k_is)
    (case k9 => k_is)
    (case a10 => k_is)
    (case l10 => k_is)
    (case c10 => k_is)
    (case k10 => k_is)
    (case a11 => k_is)
    (case l11 => k_is)
    (case c11 => k_is)
    (case k11 => k_is)
    (case a12 => k_is)
    (case l12 => k_is)
    (case c12 => k_is)
    (case k12 => k_is)
    (case a13 => k_is)
    (case l13 => k_is)
    (case c13 => k_is)
    (case k13 => k_is)
    (case a14 => k_is)
    (case l14 => k_is)
    (case c14 => k_is)
    (case k14 => k_is)
    (case a15 => k_is)
    (case l15 => k_is)
    (case c15 => k_is)
    (case k15 => k_is)
    (case a16 => k_is)
    (case l16 => k_is)
    (case c16 => k_is)
    (case k16 => k_is)
    (case a17 => k_is)
    (case l17 => k_is)
    (case c17 => k_is)
    (case k17 => k_is)
    (case a18 => k_is)
    (case l18 => k_is)
    (case c18 => k_is)
    (case k18 => k_is)
    (case a19 => k_is)
    (case l19 => k_is)
    (case c19 => k_is)
    (case k19 => k_is)
    (case a20 => k_is)
    (case l20 => k_is)
    (case c20 => k_is)
    (case k20 => k_is)
    (case a21 => k_is)
    (case l21 => k_is)
    (case c21 => k_is)
    (case k21 => k_is)
    (case a22 => k_is)
    (case l22 => k_is)
    (case c22 => k_is)
    (case k22 => k_is)
    (case a23 => k_is)
    (case l23 => k_is)
    (case c23 => k_is)
    (case k23 => k_is)
    (case a24 => k_is)
    (case l24 => k_is)
    (case c24 => k_is)
    (case k24 => k_is)
    (case a25 => k_is)
    (case l25 => k_is)
    (case c25 => k_is)
    (case k25 => k_is)
    (case a26 => k_is)
    (case l26 => k_is)
    (case c26 => k_is)
    (case k26 => k_is)
    (case a27 => k_is)
    (case l27 => k_is)
    (case c27 => k_is)
    (case k27 => k_is)
    (case a28 => k_is)
    (case l28 => k_is)
    (case c28 => k_is)
    (case k28 => k_is)
    (case a29 => k_is)
    (case l29 => k_is)
    (case c29 => k_is)
    (case k29 => k_is)
    (case a30 => k_is)
    (case l30 => k_is)
    (case c30 => k_is)
    (case k30 => k_is)
    (case a31 => k_is)
    (case l31 => k_is)
    (case c31 => k_is)
    (case k31 => k_is)
    (case a32 => k_is)
    (case l32 => k_is)
    (case c32 => k_is)
    (case k32 => k_is)
    (case a33 => k_is)
    (case l33 => k_is)
    (case c33 => k_is)
    (case k33 => k_is)
    (case a34 => k_is)
    (case l34 => k_is)
    (case c34 => k_is)
    (case k34 => k_is)
    (case a35 => k_is)
    (case l35 => k_is)
    (case c35 => k_is)
    (case k35 => k_is)
    (case a36 => k_is)
    (case l36 => k_is)
    (case c36 => k_is)
    (case k36 => k_is)
    (case a37 => k_is)
    (case l37 => k_is)
    (case c37 => k_is)
    (case k37 => k_is)
    (case a38 => k_is)
    (case l38 => k_is)
    (case c38 => k_is)
    (case k38 => k_is)
    (case a39 => k_is)
    (case l39 => k_is)
    (case c39 => k_is)
    (case k39 => k_is)
    (case a40 => k_is)
    (case l40 => k_is)
    (case c40 => k_is)
    (case k40 => k_is)
    (case a41 => k_is)
    (case l41 => k_is)
    (case c41 => k_is)
    (case k41 => k_is)
    (case a42 => k_is)
    (case l42 => k_is)
    (case c42 => k_is)
    (case k42 => k_is)
    (case a43 => k_is)
    (case l43 => k_is)
    (case c43 => k_is)
    (case k43 => k_is)
    (case z_len => k_is)
    (case z_range => k_is)
    (case z_sorted => k_is)
    (case z_int => k_is)
    (case z_abs => k_is)
    (case z_str => k_is)
    (case z_min => k_is)
    (case z_max => k_is)
    (case z_list => k_is)
    (case z_tuple => k_is)
    (case z_bool => k_is)
    (case z_isinstance => k_is)
    (case g_SIGNS => k_is)
    (case g_BASE => k_is)
    (case g_NAME_LENGTH => k_is)
    (case g_NODE_nodes => k_is)
    (case g_ENTRY_nodes => k_is)
    (case g_CHARGE_nodes => k_is)
    (case g_KINDS => k_is)
    (case g_MODES => k_is)
    (case g_OWNERS => k_is)
    (case g_NODE_mending => k_is)
    (case g_ENTRY_mending => k_is)
    (case g_CHUNK => k_is)
    (case g_CHARGE_mending => k_is)
    (case g_FOLDER => k_is)
    (case g_ROOT => k_is)
    (case g_ROOT_MODE => k_is)

