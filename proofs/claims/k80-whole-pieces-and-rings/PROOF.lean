import PyProof.Rows.All
import Wide.All
import OpenK.AllK
import Wide.FinOn
import HandS.ForMost
import HandS.Walk
import KE.GoesEnum
import HandS.Strs
import HandS.SetFor
import HandS.Rev
import HandS.Evl
import HandS.IsInst
import HandS.Defaults
import HandS.TupAny
import HandS.Conv
import PySem.Challenge.RW_letbychecks_k80_whole_pieces_and_rings_o
set_option Elab.async false
set_option maxRecDepth 100000
set_option maxHeartbeats 4000000
set_option linter.all false
namespace Km
/-! lists: small facts -/
theorem asc_unique : ∀ {l m : List Nat}, l.Pairwise (· < ·) → m.Pairwise (· < ·) → (∀ x, x ∈ l ↔ x ∈ m) → l = m
  | [], [], _, _, _ => rfl
  | [], y :: m, _, _, h => absurd ((h y).mpr List.mem_cons_self) (by simp)
  | x :: l, [], _, _, h => absurd ((h x).mp List.mem_cons_self) (by simp)
  | x :: l, y :: m, hl, hm, h => by
    rw [List.pairwise_cons] at hl hm
    have exy : x = y := by
      have h1 := (h x).mp List.mem_cons_self
      have h2 := (h y).mpr List.mem_cons_self
      rcases List.mem_cons.mp h1 with e | h1
      · exact e
      · rcases List.mem_cons.mp h2 with e | h2
        · exact e.symm
        · have a := hm.1 x h1
          have b := hl.1 y h2
          omega
    subst exy
    congr 1
    refine asc_unique hl.2 hm.2 fun z => ⟨fun hz => ?_, fun hz => ?_⟩
    · rcases List.mem_cons.mp ((h z).mp (List.mem_cons_of_mem _ hz)) with e | q
      · have := hl.1 z hz; omega
      · exact q
    · rcases List.mem_cons.mp ((h z).mpr (List.mem_cons_of_mem _ hz)) with e | q
      · have := hm.1 z hz; omega
      · exact q
theorem asc_nodup {l : List Nat} (h : l.Pairwise (· < ·)) : l.Nodup := h.imp (fun h e => by omega)
theorem sub_len : ∀ {l m : List Nat}, l.Nodup → (∀ x, x ∈ l → x ∈ m) → l.length ≤ m.length
  | [], _, _, _ => Nat.zero_le _
  | x :: l, m, hn, hs => by
    rw [List.nodup_cons] at hn
    have hx : x ∈ m := hs x List.mem_cons_self
    have h1 : l.length ≤ (m.erase x).length := sub_len hn.2 fun z hz => by
      have hz2 := hs z (List.mem_cons_of_mem _ hz)
      have ne : z ≠ x := fun e => hn.1 (e ▸ hz)
      exact (List.mem_erase_of_ne ne).mpr hz2
    rw [List.length_erase_of_mem hx] at h1
    have := List.length_pos_of_mem hx
    simp only [List.length_cons]
    omega
theorem sub_len_lt {l m : List Nat} (hn : l.Nodup) (hs : ∀ x, x ∈ l → x ∈ m) (hd : ¬ m.Nodup) : l.length < m.length := by
  have key : ∀ {m : List Nat}, ¬ m.Nodup → ∃ m' : List Nat, m'.length + 1 = m.length ∧ ∀ x, x ∈ m → x ∈ m' := by
    intro m
    induction m with
    | nil => intro h; exact absurd List.nodup_nil h
    | cons y m ih =>
      intro h
      by_cases hy : y ∈ m
      · exact ⟨m, rfl, fun x hx => by
          rcases List.mem_cons.mp hx with e | q
          · exact e ▸ hy
          · exact q⟩
      · have h2 : ¬ m.Nodup := fun q => h (List.nodup_cons.mpr ⟨hy, q⟩)
        obtain ⟨m', e, s⟩ := ih h2
        refine ⟨y :: m', by simp only [List.length_cons]; omega, fun x hx => ?_⟩
        rcases List.mem_cons.mp hx with e | q
        · exact e ▸ List.mem_cons_self
        · exact List.mem_cons_of_mem _ (s x q)
  obtain ⟨m', e, s⟩ := key hd
  have := sub_len hn fun x hx => s x (hs x hx)
  omega
theorem range_asc (n : Nat) : (List.range n).Pairwise (· < ·) := List.pairwise_lt_range
theorem filter_asc {n : Nat} {p : Nat → Bool} : ((List.range n).filter p).Pairwise (· < ·) := (range_asc n).filter _

/-! labels -/
def lb (L : List Nat) (b : Nat) : Nat := L.getD b 0
theorem lb_get {L : List Nat} {b : Nat} (h : b < L.length) : L[b]? = some (lb L b) := by
  unfold lb
  rw [List.getD_eq_getElem?_getD, List.getElem?_eq_getElem h]
  rfl
theorem lb_map {L : List Nat} {f : Nat → Nat} {b : Nat} (h : b < L.length) : lb (L.map f) b = f (lb L b) := by
  have h1 := lb_get (L := L.map f) (b := b) (by rw [List.length_map]; exact h)
  rw [List.getElem?_map, lb_get h] at h1
  exact (Option.some.inj h1).symm
theorem lb_range {n b : Nat} (h : b < n) : lb (List.range n) b = b := by
  have h1 := lb_get (L := List.range n) (b := b) (by rw [List.length_range]; exact h)
  rw [List.getElem?_range h] at h1
  exact (Option.some.inj h1).symm

structure Good (n : Nat) (cs : List (List Nat)) : Prop where
  ne : ∀ c, c ∈ cs → c ≠ []
  asc : ∀ c, c ∈ cs → c.Pairwise (· < ·)
  lt : ∀ c, c ∈ cs → ∀ b, b ∈ c → b < n

/-- S is closed under the checks -/
def Cl (cs : List (List Nat)) (S : Nat → Prop) : Prop := ∀ c, c ∈ cs → ∀ a, a ∈ c → ∀ b, b ∈ c → S a → S b

structure Vl (n : Nat) (cs : List (List Nat)) (L : List Nat) : Prop where
  len : L.length = n
  ins : ∀ c, c ∈ cs → ∀ b, b ∈ c → b < n
  const : ∀ c, c ∈ cs → ∀ a, a ∈ c → ∀ b, b ∈ c → lb L a = lb L b
  gen : ∀ S : Nat → Prop, Cl cs S → ∀ a b, a < n → b < n → lb L a = lb L b → S a → S b
  lt : ∀ b, b < n → lb L b < n
  idem : ∀ b, b < n → lb L (lb L b) = lb L b

def nm (L : List Nat) (c : List Nat) : List Nat := c.map (lb L)
def mrg (L : List Nat) (c : List Nat) (r : Nat) : List Nat := L.map fun x => if x ∈ nm L c then r else x

theorem Vl.start (n : Nat) : Vl n [] (List.range n) where
  len := List.length_range
  ins := fun c hc => absurd hc (by simp)
  const := fun c hc => absurd hc (by simp)
  gen := fun S _ a b ha hb e sa => by
    rw [lb_range ha, lb_range hb] at e
    exact e ▸ sa
  lt := fun b hb => by rw [lb_range hb]; exact hb
  idem := fun b hb => by rw [lb_range hb, lb_range hb]

section
variable {n r : Nat} {cs : List (List Nat)} {c L L' : List Nat}
theorem mrg_len : (mrg L c r).length = L.length := by unfold mrg; rw [List.length_map]
theorem mrg_lb (h : L.length = n) {b : Nat} (hb : b < n) : lb (mrg L c r) b = if lb L b ∈ nm L c then r else lb L b := by
  unfold mrg
  rw [lb_map (by rw [h]; exact hb)]
theorem mem_nm {x : Nat} : x ∈ nm L c ↔ ∃ b, b ∈ c ∧ lb L b = x := by
  unfold nm
  exact List.mem_map
theorem Vl.step (h : Vl n cs L) (hc : ∀ b, b ∈ c → b < n) (hr : r ∈ nm L c) : Vl n (cs ++ [c]) (mrg L c r) := by
  obtain ⟨x0, hx0, ex0⟩ := mem_nm.mp hr
  have rl : r < n := ex0 ▸ h.lt x0 (hc x0 hx0)
  have rr : lb L r = r := by rw [← ex0]; exact h.idem x0 (hc x0 hx0)
  have mem : ∀ {d}, d ∈ cs ++ [c] → d ∈ cs ∨ d = c := fun hd => by
    rcases List.mem_append.mp hd with hd | hd
    · exact .inl hd
    · exact .inr (List.mem_singleton.mp hd)
  have self : ∀ b, b ∈ c → lb L b ∈ nm L c := fun b hb => mem_nm.mpr ⟨b, hb, rfl⟩
  refine ⟨by rw [mrg_len]; exact h.len, fun d hd b hb => ?_, fun d hd a ha b hb => ?_, fun S hS a b ha hb e sa => ?_, fun b hb => ?_, fun b hb => ?_⟩
  · rcases mem hd with hd | rfl
    · exact h.ins d hd b hb
    · exact hc b hb
  · rcases mem hd with hd | rfl
    · rw [mrg_lb h.len (h.ins d hd a ha), mrg_lb h.len (h.ins d hd b hb), h.const d hd a ha b hb]
    · rw [mrg_lb h.len (hc a ha), mrg_lb h.len (hc b hb), if_pos (self a ha), if_pos (self b hb)]
  · have S1 : Cl cs S := fun d hd => hS d (List.mem_append_left _ hd)
    have S2 := hS c (List.mem_append_right _ (List.mem_singleton.mpr rfl))
    rw [mrg_lb h.len ha, mrg_lb h.len hb] at e
    by_cases h1 : lb L a ∈ nm L c
    · by_cases h2 : lb L b ∈ nm L c
      · obtain ⟨x, hx, ex⟩ := mem_nm.mp h1
        obtain ⟨y, hy, ey⟩ := mem_nm.mp h2
        exact h.gen S S1 y b (hc y hy) hb ey (S2 x hx y hy (h.gen S S1 a x ha (hc x hx) ex.symm sa))
      · rw [if_pos h1, if_neg h2] at e
        exact absurd (e ▸ hr) h2
    · by_cases h2 : lb L b ∈ nm L c
      · rw [if_neg h1, if_pos h2] at e
        exact absurd (e ▸ hr) h1
      · rw [if_neg h1, if_neg h2] at e
        exact h.gen S S1 a b ha hb e sa
  · rw [mrg_lb h.len hb]
    split
    · exact rl
    · exact h.lt b hb
  · rw [mrg_lb h.len hb]
    split
    · rw [mrg_lb h.len rl, rr, if_pos hr]
    · rename_i hn
      rw [mrg_lb h.len (h.lt b hb), h.idem b hb, if_neg hn]
/-- two labellings part the bits alike -/
theorem Vl.same (h : Vl n cs L) (h' : Vl n cs L') {a b : Nat} (ha : a < n) (hb : b < n) (e : lb L a = lb L b) : lb L' a = lb L' b :=
  h.gen (fun z => lb L' a = lb L' z) (fun d hd x hx y hy q => q.trans (h'.const d hd x hx y hy)) a b ha hb e rfl
/-- least labels -/
def Le (n : Nat) (L : List Nat) : Prop := ∀ b, b < n → lb L b ≤ b
theorem Le.start (n : Nat) : Le n (List.range n) := fun b hb => by rw [lb_range hb]; exact Nat.le_refl _
theorem Le.step (h : Le n L) (hl : L.length = n) (hr : ∀ x, x ∈ nm L c → r ≤ x) : Le n (mrg L c r) := fun b hb => by
  rw [mrg_lb hl hb]
  split
  · rename_i hm
    exact Nat.le_trans (hr _ hm) (h b hb)
  · exact h b hb

/-! counting the pieces -/
def reps (n : Nat) (L : List Nat) : List Nat := (List.range n).filter fun b => lb L b == b
theorem mem_reps {b : Nat} : b ∈ reps n L ↔ b < n ∧ lb L b = b := by
  unfold reps
  rw [List.mem_filter, List.mem_range, beq_iff_eq]
theorem count_split (l : List Nat) (p : Nat → Bool) : l.length = (l.filter p).length + (l.filter fun x => !p x).length := by
  induction l with
  | nil => rfl
  | cons x l ih =>
    cases h : p x with
    | true => simp only [List.filter_cons, h, List.length_cons, if_true, Bool.not_true, Bool.false_eq_true, if_false]; omega
    | false => simp only [List.filter_cons, h, List.length_cons, if_true, Bool.not_false, Bool.false_eq_true, if_false]; omega
/-- merging a check of k names, k' of them unlike, takes k' - 1 pieces away -/
theorem reps_step (h : Vl n cs L) (hc : ∀ b, b ∈ c → b < n) (hr : r ∈ nm L c) :
    ((nm L c).Nodup → (reps n (mrg L c r)).length + c.length = (reps n L).length + 1) ∧ (¬ (nm L c).Nodup → (reps n L).length + 1 < (reps n (mrg L c r)).length + c.length) := by
  obtain ⟨x0, hx0, ex0⟩ := mem_nm.mp hr
  have rl : r < n := ex0 ▸ h.lt x0 (hc x0 hx0)
  have rr : lb L r = r := by rw [← ex0]; exact h.idem x0 (hc x0 hx0)
  have nml : (nm L c).length = c.length := by unfold nm; rw [List.length_map]
  have nmr : ∀ x, x ∈ nm L c → x < n ∧ lb L x = x := fun x hx => by
    obtain ⟨y, hy, rfl⟩ := mem_nm.mp hx
    exact ⟨h.lt y (hc y hy), h.idem y (hc y hy)⟩
  let A := (reps n L).filter fun x => !decide (x ∈ nm L c)
  let Bq := (reps n L).filter fun x => decide (x ∈ nm L c)
  have hA : (reps n L).length = Bq.length + A.length := count_split _ _
  have memA : ∀ x, x ∈ A ↔ (x < n ∧ lb L x = x) ∧ x ∉ nm L c := fun x => by
    show x ∈ (reps n L).filter _ ↔ _
    rw [List.mem_filter, mem_reps]
    simp
  have memB : ∀ x, x ∈ Bq ↔ x ∈ nm L c := fun x => by
    show x ∈ (reps n L).filter _ ↔ _
    rw [List.mem_filter, mem_reps]
    simp only [decide_eq_true_eq]
    exact ⟨fun q => q.2, fun q => ⟨nmr x q, q⟩⟩
  have ndA : A.Nodup := asc_nodup ((filter_asc.filter _))
  have ndB : Bq.Nodup := asc_nodup ((filter_asc.filter _))
  have ndR : (reps n (mrg L c r)).Nodup := asc_nodup filter_asc
  have memR : ∀ x, x ∈ reps n (mrg L c r) ↔ x ∈ r :: A := fun x => by
    rw [mem_reps, List.mem_cons, memA]
    constructor
    · rintro ⟨h1, h2⟩
      rw [mrg_lb h.len h1] at h2
      by_cases hm : lb L x ∈ nm L c
      · rw [if_pos hm] at h2
        exact .inl h2.symm
      · rw [if_neg hm] at h2
        exact .inr ⟨⟨h1, h2⟩, h2 ▸ hm⟩
    · rintro (rfl | ⟨⟨h1, h2⟩, h3⟩)
      · exact ⟨rl, by rw [mrg_lb h.len rl, rr, if_pos hr]⟩
      · refine ⟨h1, ?_⟩
        rw [mrg_lb h.len h1, h2, if_neg h3]
  have ndA1 : (r :: A).Nodup := List.nodup_cons.mpr ⟨fun q => ((memA r).mp q).2 hr, ndA⟩
  have eR : (reps n (mrg L c r)).length = A.length + 1 := by
    have a := sub_len ndR fun x hx => (memR x).mp hx
    have b := sub_len ndA1 fun x hx => (memR x).mpr hx
    simp only [List.length_cons] at a b
    omega
  refine ⟨fun nd => ?_, fun nd => ?_⟩
  · have a := sub_len ndB fun x hx => (memB x).mp hx
    have b := sub_len nd fun x hx => (memB x).mpr hx
    omega
  · have a := sub_len_lt ndB (fun x hx => (memB x).mp hx) nd
    omega
end

/-! the least labels of all checks -/
def mn : List Nat → Nat
  | [] => 0
  | x :: l => l.foldl min x
theorem foldl_min : ∀ (l : List Nat) (x : Nat), (l.foldl min x = x ∨ l.foldl min x ∈ l) ∧ l.foldl min x ≤ x ∧ ∀ y, y ∈ l → l.foldl min x ≤ y
  | [], x => ⟨.inl rfl, Nat.le_refl _, fun y hy => absurd hy (by simp)⟩
  | z :: l, x => by
    obtain ⟨h1, h2, h3⟩ := foldl_min l (min x z)
    simp only [List.foldl_cons]
    refine ⟨?_, by omega, fun y hy => ?_⟩
    · rcases h1 with e | e
      · rw [e]
        by_cases q : x ≤ z
        · exact .inl (by omega)
        · exact .inr (List.mem_cons.mpr (.inl (by omega)))
      · exact .inr (List.mem_cons_of_mem _ e)
    · rcases List.mem_cons.mp hy with e | hy
      · subst e; omega
      · exact h3 y hy
theorem mn_mem {l : List Nat} (h : l ≠ []) : mn l ∈ l := by
  cases l with
  | nil => exact absurd rfl h
  | cons x l =>
    show l.foldl min x ∈ x :: l
    rcases (foldl_min l x).1 with e | e
    · rw [e]; exact List.mem_cons_self
    · exact List.mem_cons_of_mem _ e
theorem mn_le {l : List Nat} {x : Nat} (h : x ∈ l) : mn l ≤ x := by
  cases l with
  | nil => exact absurd h (by simp)
  | cons y l =>
    show l.foldl min y ≤ x
    obtain ⟨_, h2, h3⟩ := foldl_min l y
    rcases List.mem_cons.mp h with e | h
    · subst e; exact h2
    · exact h3 x h
theorem mn_eq {l : List Nat} {m : Nat} (h : m ∈ l) (hle : ∀ y, y ∈ l → m ≤ y) : mn l = m := by
  have a := mn_le h
  have b := hle _ (mn_mem (List.ne_nil_of_mem h))
  omega
def labs (n : Nat) (cs : List (List Nat)) : List Nat := cs.foldl (fun L c => mrg L c (mn (nm L c))) (List.range n)
theorem labs_snoc (n : Nat) (cs : List (List Nat)) (c : List Nat) : labs n (cs ++ [c]) = mrg (labs n cs) c (mn (nm (labs n cs) c)) := by
  unfold labs
  rw [List.foldl_append]
  rfl
theorem take_snoc {α : Type} {l : List α} {k : Nat} {x : α} (h : l[k]? = some x) : l.take (k + 1) = l.take k ++ [x] := by
  obtain ⟨h1, h2⟩ := List.getElem?_eq_some_iff.mp h
  rw [List.take_add_one, h]
  rfl
theorem nm_ne {L c : List Nat} (h : c ≠ []) : nm L c ≠ [] := by
  unfold nm
  intro e
  exact h (List.map_eq_nil_iff.mp e)
section
variable {n : Nat} {cs : List (List Nat)}
theorem Good.take (h : Good n cs) (k : Nat) : Good n (cs.take k) :=
  ⟨fun c hc => h.ne c (List.mem_of_mem_take hc), fun c hc => h.asc c (List.mem_of_mem_take hc), fun c hc => h.lt c (List.mem_of_mem_take hc)⟩
theorem labs_ok (h : Good n cs) : ∀ k, k ≤ cs.length → Vl n (cs.take k) (labs n (cs.take k)) ∧ Le n (labs n (cs.take k))
  | 0, _ => by
    rw [List.take_zero]
    exact ⟨Vl.start n, Le.start n⟩
  | k + 1, hk => by
    obtain ⟨v, l⟩ := labs_ok h k (by omega)
    have hx : cs[k]? = some (cs[k]'(by omega)) := List.getElem?_eq_getElem (by omega)
    have hm : cs[k]'(by omega) ∈ cs := List.getElem_mem _
    rw [take_snoc hx, labs_snoc]
    exact ⟨v.step (h.lt _ hm) (mn_mem (nm_ne (h.ne _ hm))), l.step v.len fun x hx => mn_le hx⟩
theorem labs_all (h : Good n cs) : Vl n cs (labs n cs) ∧ Le n (labs n cs) := by
  have := labs_ok h cs.length (Nat.le_refl _)
  rw [List.take_length] at this
  exact this
/-- the k-th check meets a piece twice -/
def Dup (n : Nat) (cs : List (List Nat)) (k : Nat) : Prop := ∃ c, cs[k]? = some c ∧ ¬ (nm (labs n (cs.take k)) c).Nodup
def lens (cs : List (List Nat)) : Nat := (cs.map List.length).sum
theorem lens_snoc (cs : List (List Nat)) (c : List Nat) : lens (cs ++ [c]) = lens cs + c.length := by
  unfold lens
  rw [List.map_append, List.sum_append]
  rfl
theorem cnt_ok (h : Good n cs) : ∀ k, k ≤ cs.length →
    ((∀ j, j < k → ¬ Dup n cs j) → (reps n (labs n (cs.take k))).length + lens (cs.take k) = n + k) ∧ ((∃ j, j < k ∧ Dup n cs j) → n + k < (reps n (labs n (cs.take k))).length + lens (cs.take k))
  | 0, _ => by
    refine ⟨fun _ => ?_, fun ⟨j, hj, _⟩ => absurd hj (by omega)⟩
    rw [List.take_zero]
    have e : reps n (labs n []) = List.range n := by
      show (List.range n).filter _ = _
      refine List.filter_eq_self.mpr fun b hb => ?_
      rw [beq_iff_eq]
      exact lb_range (List.mem_range.mp hb)
    rw [e, List.length_range]
    rfl
  | k + 1, hk => by
    obtain ⟨i1, i2⟩ := cnt_ok h k (by omega)
    have hx : cs[k]? = some (cs[k]'(by omega)) := List.getElem?_eq_getElem (by omega)
    have hm : cs[k]'(by omega) ∈ cs := List.getElem_mem _
    obtain ⟨v, _⟩ := labs_ok h k (by omega)
    obtain ⟨s1, s2⟩ := reps_step v (h.lt _ hm) (mn_mem (nm_ne (L := labs n (cs.take k)) (h.ne _ hm)))
    rw [take_snoc hx, labs_snoc, lens_snoc]
    by_cases nd : (nm (labs n (cs.take k)) (cs[k]'(by omega))).Nodup
    · have s := s1 nd
      refine ⟨fun q => ?_, fun ⟨j, hj, hd⟩ => ?_⟩
      · have := i1 fun j hj => q j (by omega)
        omega
      · have hjk : j < k := by
          rcases Nat.lt_or_ge j k with q | q
          · exact q
          · have : j = k := by omega
            subst this
            obtain ⟨c, hc, hn⟩ := hd
            rw [hx] at hc
            exact absurd nd (Option.some.inj hc ▸ hn)
        have := i2 ⟨j, hjk, hd⟩
        omega
    · have s := s2 nd
      have all : n + k ≤ (reps n (labs n (cs.take k))).length + lens (cs.take k) := by
        by_cases q : ∃ j, j < k ∧ Dup n cs j
        · exact Nat.le_of_lt (i2 q)
        · exact Nat.le_of_eq (i1 fun j hj hd => q ⟨j, hj, hd⟩).symm
      refine ⟨fun q => absurd ⟨_, hx, nd⟩ (q k (by omega)), fun _ => by omega⟩
/-- THE RING's COUNT -/
theorem count_none (h : Good n cs) (hd : ∀ j, j < cs.length → ¬ Dup n cs j) : (reps n (labs n cs)).length + lens cs = n + cs.length := by
  have := (cnt_ok h cs.length (Nat.le_refl _)).1 hd
  rw [List.take_length] at this
  exact this
theorem count_ring (h : Good n cs) {j : Nat} (hd : Dup n cs j) : n + cs.length < (reps n (labs n cs)).length + lens cs := by
  have hj : j < cs.length := by
    obtain ⟨c, hc, _⟩ := hd
    exact (List.getElem?_eq_some_iff.mp hc).1
  have := (cnt_ok h cs.length (Nat.le_refl _)).2 ⟨j, hj, hd⟩
  rw [List.take_length] at this
  exact this
end
/-! the pieces, as both tell them -/
def piece (n : Nat) (L : List Nat) (r : Nat) : List Nat := (List.range n).filter fun b => lb L b == r
def pieces (n : Nat) (cs : List (List Nat)) : List (List Nat) := (reps n (labs n cs)).map (piece n (labs n cs))
theorem mem_piece {n r b : Nat} {L : List Nat} : b ∈ piece n L r ↔ b < n ∧ lb L b = r := by
  unfold piece
  rw [List.mem_filter, List.mem_range, beq_iff_eq]
end Km
namespace Km
theorem sorted_nat {out : List Nat} {ns : List Int} (p : ns.Perm (out.map fun n : Nat => (n : Int))) (a : ns.Pairwise (· ≤ ·)) (nd : out.Nodup) :
    ∃ ms : List Nat, (ns = ms.map fun n : Nat => (n : Int)) ∧ ms.Pairwise (· < ·) ∧ (∀ x, x ∈ ms ↔ x ∈ out) ∧ ms.length = out.length := by
  have mem : ∀ z, z ∈ ns → ∃ x : Nat, x ∈ out ∧ (x : Int) = z := fun z hz => by
    have := p.mem_iff.mp hz
    obtain ⟨x, hx, e⟩ := List.mem_map.mp this
    exact ⟨x, hx, e⟩
  have e : ns = (ns.map Int.toNat).map fun n : Nat => (n : Int) := by
    rw [List.map_map]
    refine (List.map_id ns).symm.trans (List.map_congr_left fun z hz => ?_)
    obtain ⟨x, _, rfl⟩ := mem z hz
    simp
  have hp : (ns.map Int.toNat).Perm out := by
    have q := p.map Int.toNat
    rw [List.map_map] at q
    have e2 : out.map (Int.toNat ∘ fun n : Nat => (n : Int)) = out := by
      refine (List.map_congr_left fun z hz => ?_).trans (List.map_id out)
      simp
    rw [e2] at q
    exact q
  refine ⟨ns.map Int.toNat, e, ?_, fun x => hp.mem_iff, hp.length_eq⟩
  have nd2 : (ns.map Int.toNat).Nodup := hp.nodup_iff.mpr nd
  have le2 : (ns.map Int.toNat).Pairwise (· ≤ ·) := by
    rw [List.pairwise_map]
    exact a.imp fun h => Int.toNat_le_toNat h
  exact (List.pairwise_and_iff.mpr ⟨le2, nd2⟩).imp fun ⟨h1, h2⟩ => by omega
end Km
namespace Km
theorem set_nat {ns : List Int} {L rs : List Nat} (a : ns.Pairwise (· < ·)) (mem : ∀ k : Int, k ∈ ns ↔ k ∈ L.map fun n : Nat => (n : Int)) (b : rs.Pairwise (· < ·)) (m2 : ∀ x, x ∈ rs ↔ x ∈ L) : ns = rs.map fun n : Nat => (n : Int) := by
  have nn : ∀ z, z ∈ ns → ∃ x : Nat, x ∈ L ∧ (x : Int) = z := fun z hz => by
    obtain ⟨x, hx, e⟩ := List.mem_map.mp ((mem z).mp hz)
    exact ⟨x, hx, e⟩
  have e : ns = (ns.map Int.toNat).map fun n : Nat => (n : Int) := by
    rw [List.map_map]
    refine (List.map_id ns).symm.trans (List.map_congr_left fun z hz => ?_)
    obtain ⟨x, _, rfl⟩ := nn z hz
    simp
  have asc : (ns.map Int.toNat).Pairwise (· < ·) := by
    rw [List.pairwise_map]
    refine (List.Pairwise.and_mem.mp a).imp fun {x y} h => ?_
    obtain ⟨u, _, rfl⟩ := nn x h.1
    obtain ⟨v, _, rfl⟩ := nn y h.2.1
    have := h.2.2
    omega
  have eq : ns.map Int.toNat = rs := asc_unique asc b fun x => by
    rw [m2]
    constructor
    · intro h
      obtain ⟨z, hz, rfl⟩ := List.mem_map.mp h
      obtain ⟨u, hu, rfl⟩ := nn z hz
      simpa using hu
    · intro h
      exact List.mem_map.mpr ⟨(x : Int), (mem _).mpr (List.mem_map.mpr ⟨x, h, rfl⟩), by simp⟩
  rw [eq] at e
  exact e
theorem mem_label {n : Nat} {cs : List (List Nat)} {L : List Nat} (v : Vl n cs L) (x : Nat) : x ∈ reps n L ↔ x ∈ L := by
  rw [mem_reps]
  constructor
  · rintro ⟨h1, h2⟩
    have := lb_get (L := L) (b := x) (by rw [v.len]; exact h1)
    rw [h2] at this
    exact List.mem_of_getElem? this
  · intro h
    obtain ⟨b, hb⟩ := List.getElem?_of_mem h
    have hlt := (List.getElem?_eq_some_iff.mp hb).1
    have e := lb_get hlt
    rw [hb] at e
    have e := Option.some.inj e
    rw [v.len] at hlt
    rw [e]
    exact ⟨v.lt b hlt, v.idem b hlt⟩
end Km
/-! ### shortest paths of bits and checks -/
namespace Km
inductive Pth (cs : List (List Nat)) (k s : Nat) : List Nat → List Nat → List Nat → Nat → Prop where
  | nil : Pth cs k s [] [] [] s
  | snoc {r bs ks : List Nat} {b c o : Nat} {l : List Nat} : Pth cs k s r bs ks b → c < k → cs[c]? = some l → b ∈ l → o ∈ l → Pth cs k s (r ++ [b, c]) (bs ++ [b]) (ks ++ [c]) o
abbrev Ps := List (Nat × List Nat)
def keys (ps : Ps) : List Nat := ps.map Prod.fst
/-- every bit of the check is a key -/
def Dn (cs : List (List Nat)) (ps : Ps) (c : Nat) : Prop := ∀ l, cs[c]? = some l → ∀ o, o ∈ l → o ∈ keys ps
/-- what a path is worth -/
structure Pw (cs : List (List Nat)) (k s : Nat) (ps : Ps) (op : Option Nat) (r bs ks : List Nat) (b : Nat) : Prop where
  pth : Pth cs k s r bs ks b
  nb : (bs ++ [b]).Nodup
  nk : ks.Nodup
  old : ∀ x, x ∈ bs → x ∈ keys ps
  fin : ∀ c, c ∈ ks → some c = op ∨ Dn cs ps c
structure Bk (n : Nat) (cs : List (List Nat)) (k s : Nat) (op : Option Nat) (ps : Ps) : Prop where
  nd : (keys ps).Nodup
  lt : ∀ p, p ∈ ps → p.1 < n
  st : (s, []) ∈ ps
  pw : ∀ p, p ∈ ps → ∃ bs ks, Pw cs k s ps op p.2 bs ks p.1
section
variable {n k s : Nat} {cs : List (List Nat)} {op : Option Nat} {ps : Ps} {r bs ks l : List Nat} {b c o : Nat}
theorem keys_app {ps qs : Ps} : keys (ps ++ qs) = keys ps ++ keys qs := by unfold keys; rw [List.map_append]
theorem mem_keys {p : Nat × List Nat} (h : p ∈ ps) : p.1 ∈ keys ps := List.mem_map.mpr ⟨p, h, rfl⟩
theorem Dn.mono {qs : Ps} (h : Dn cs ps c) : Dn cs (ps ++ qs) c := fun l hl o ho => by
  rw [keys_app]
  exact List.mem_append_left _ (h l hl o ho)
theorem Pw.mono {qs : Ps} (h : Pw cs k s ps op r bs ks b) : Pw cs k s (ps ++ qs) op r bs ks b :=
  ⟨h.pth, h.nb, h.nk, fun x hx => by rw [keys_app]; exact List.mem_append_left _ (h.old x hx), fun c hc => (h.fin c hc).imp id Dn.mono⟩
theorem Bk.start (hs : s < n) : Bk n cs k s none [(s, [])] where
  nd := by simp [keys]
  lt := fun p hp => by
    rw [List.mem_singleton.mp hp]
    exact hs
  st := List.mem_singleton.mpr rfl
  pw := fun p hp => by
    rw [List.mem_singleton.mp hp]
    exact ⟨[], [], .nil, by simp, by simp, fun x hx => absurd hx (by simp), fun c hc => absurd hc (by simp)⟩
/-- a new bit o, reached from b by the check c -/
theorem Bk.add (h : Bk n cs k s (some c) ps) (hb : b ∈ keys ps) (hw : Pw cs k s ps none r bs ks b) (hc : c ∉ ks) (hk : c < k) (hl : cs[c]? = some l) (h1 : b ∈ l) (h2 : o ∈ l) (ho : o < n) (hn : o ∉ keys ps) :
    Bk n cs k s (some c) (ps ++ [(o, r ++ [b, c])]) := by
  refine ⟨?_, fun p hp => ?_, List.mem_append_left _ h.st, fun p hp => ?_⟩
  · rw [keys_app]
    refine List.nodup_append.mpr ⟨h.nd, by simp [keys], fun x hx y hy e => ?_⟩
    have : y = o := by simpa [keys] using hy
    exact hn (this ▸ e ▸ hx)
  · rcases List.mem_append.mp hp with hp | hp
    · exact h.lt p hp
    · rw [List.mem_singleton.mp hp]
      exact ho
  · rcases List.mem_append.mp hp with hp | hp
    · obtain ⟨bs', ks', w⟩ := h.pw p hp
      exact ⟨bs', ks', w.mono⟩
    · rw [List.mem_singleton.mp hp]
      refine ⟨bs ++ [b], ks ++ [c], .snoc hw.pth hk hl h1 h2, ?_, ?_, fun x hx => ?_, fun c' hc' => ?_⟩
      · refine List.nodup_append.mpr ⟨hw.nb, by simp, fun x hx y hy e => ?_⟩
        have : y = o := by simpa using hy
        subst this
        subst e
        rcases List.mem_append.mp hx with hx | hx
        · exact hn (hw.old _ hx)
        · rw [List.mem_singleton.mp hx] at hn
          exact hn hb
      · refine List.nodup_append.mpr ⟨hw.nk, by simp, fun x hx y hy e => ?_⟩
        have : y = c := by simpa using hy
        exact hc (this ▸ e ▸ hx)
      · rw [keys_app]
        rcases List.mem_append.mp hx with hx | hx
        · exact List.mem_append_left _ (hw.old x hx)
        · rw [List.mem_singleton.mp hx]
          exact List.mem_append_left _ hb
      · rcases List.mem_append.mp hc' with hc' | hc'
        · rcases hw.fin c' hc' with z | z
          · cases z
          · exact .inr z.mono
        · rw [List.mem_singleton.mp hc']
          exact .inl rfl
theorem Bk.open_ (h : Bk n cs k s none ps) : Bk n cs k s (some c) ps :=
  ⟨h.nd, h.lt, h.st, fun p hp => let ⟨bs, ks, w⟩ := h.pw p hp; ⟨bs, ks, w.pth, w.nb, w.nk, w.old, fun c' hc' => (w.fin c' hc').elim (fun z => nomatch z) .inr⟩⟩
theorem Bk.shut (h : Bk n cs k s (some c) ps) (d : Dn cs ps c) : Bk n cs k s none ps :=
  ⟨h.nd, h.lt, h.st, fun p hp => let ⟨bs, ks, w⟩ := h.pw p hp; ⟨bs, ks, w.pth, w.nb, w.nk, w.old, fun c' hc' => (w.fin c' hc').elim (fun z => .inr (by cases z; exact d)) .inr⟩⟩
/-- the checks below j that meet b are done -/
def Xj (cs : List (List Nat)) (ps : Ps) (j b : Nat) : Prop := ∀ c, c < j → ∀ l, cs[c]? = some l → b ∈ l → Dn cs ps c
theorem Xj.mono {qs : Ps} {j : Nat} (h : Xj cs ps j b) : Xj cs (ps ++ qs) j b := fun c hc l hl hb => (h c hc l hl hb).mono
/-- each key waits, is new, or is done -/
def Fro (cs : List (List Nat)) (k : Nat) (ps : Ps) (rest fur : List Nat) : Prop := ∀ b, b ∈ keys ps → b ∈ rest ∨ b ∈ fur ∨ Xj cs ps k b
theorem Fro.add (h : Fro cs k ps l r) : Fro cs k (ps ++ [(o, bs)]) l (r ++ [o]) := fun b hb => by
  rw [keys_app] at hb
  rcases List.mem_append.mp hb with hb | hb
  · rcases h b hb with z | z | z
    · exact .inl z
    · exact .inr (.inl (List.mem_append_left _ z))
    · exact .inr (.inr z.mono)
  · have : b = o := by simpa [keys] using hb
    exact .inr (.inl (List.mem_append_right _ (by simp [this])))
/-- nothing waits: the goal was reached -/
theorem Fro.goal {g : Nat} (h : Fro cs k ps [] []) (hB : Bk n cs k s none ps) (hg : ∀ S : Nat → Prop, Cl (cs.take k) S → S s → S g) : g ∈ keys ps := by
  refine hg (fun b => b ∈ keys ps) (fun l hl a ha b hb hk => ?_) (mem_keys hB.st)
  obtain ⟨c, hc⟩ := List.getElem?_of_mem hl
  have hck : c < k := by
    have := (List.getElem?_eq_some_iff.mp hc).1
    rw [List.length_take] at this
    omega
  rw [List.getElem?_take_of_lt hck] at hc
  rcases h a hk with z | z | z
  · exact absurd z (by simp)
  · exact absurd z (by simp)
  · exact z c hck l hc ha l hc b hb
/-- the ring that a path closes with the check k -/
theorem Pth.length {bs ks r : List Nat} (h : Pth cs k s r bs ks b) : r.length = 2 * bs.length ∧ ks.length = bs.length := by
  induction h with
  | nil => exact ⟨rfl, rfl⟩
  | snoc _ _ _ _ _ ih =>
    simp only [List.length_append, List.length_cons, List.length_nil]
    omega
end
end Km
namespace Km
theorem get_snoc {α : Type} {l : List α} {x : α} {j : Nat} : (l ++ [x])[j]? = if j < l.length then l[j]? else if j = l.length then some x else none := by
  by_cases h : j < l.length
  · rw [List.getElem?_append_left h, if_pos h]
  · rw [List.getElem?_append_right (by omega), if_neg h]
    by_cases e : j = l.length
    · rw [if_pos e, e, Nat.sub_self]
      rfl
    · rw [if_neg e]
      have : j - l.length ≥ 1 := by omega
      rw [List.getElem?_eq_none (by simp; omega)]
theorem get_snoc2 {α : Type} {l : List α} {x y : α} {j : Nat} : (l ++ [x, y])[j]? = if j < l.length then l[j]? else if j = l.length then some x else if j = l.length + 1 then some y else none := by
  rw [show l ++ [x, y] = (l ++ [x]) ++ [y] by simp, get_snoc, List.length_append, List.length_singleton, get_snoc]
  by_cases h : j < l.length
  · rw [if_pos (by omega), if_pos h, if_pos h]
  · rw [if_neg h, if_neg h]
    by_cases e : j = l.length
    · rw [if_pos (by omega), if_pos e, if_pos e]
    · rw [if_neg (by omega), if_neg e]
theorem Pth.at {cs : List (List Nat)} {k s : Nat} {r bs ks : List Nat} {b : Nat} (h : Pth cs k s r bs ks b) :
    (∀ j, r[2 * j]? = bs[j]? ∧ r[2 * j + 1]? = ks[j]?) ∧ (bs ++ [b])[0]? = some s ∧
    (∀ j c, ks[j]? = some c → c < k ∧ ∃ l x y, cs[c]? = some l ∧ bs[j]? = some x ∧ x ∈ l ∧ (bs ++ [b])[j + 1]? = some y ∧ y ∈ l) := by
  induction h with
  | nil => exact ⟨fun j => ⟨by simp, by simp⟩, rfl, fun j c h => by simp at h⟩
  | @snoc r bs ks b c o l hp hc hl hb ho ih =>
    obtain ⟨i1, i2, i3⟩ := ih
    obtain ⟨l1, l2⟩ := hp.length
    refine ⟨fun j => ⟨?_, ?_⟩, ?_, fun j c' hj => ?_⟩
    · rw [get_snoc2, get_snoc, (i1 j).1]
      by_cases h1 : j < bs.length
      · rw [if_pos (by omega), if_pos h1]
      · rw [if_neg (by omega), if_neg h1]
        by_cases h2 : j = bs.length
        · rw [if_pos (by omega), if_pos h2]
        · rw [if_neg (by omega), if_neg h2, if_neg (by omega)]
    · rw [get_snoc2, get_snoc, (i1 j).2, l2]
      by_cases h1 : j < bs.length
      · rw [if_pos (by omega), if_pos h1]
      · rw [if_neg (by omega), if_neg h1, if_neg (by omega)]
        by_cases h2 : j = bs.length
        · rw [if_pos (by omega), if_pos h2]
        · rw [if_neg (by omega), if_neg h2]
    · rw [get_snoc, List.length_append, List.length_singleton, if_pos (by omega)]
      exact i2
    · rw [get_snoc] at hj
      by_cases h1 : j < ks.length
      · rw [if_pos h1] at hj
        obtain ⟨a, l', x, y, e1, e2, e3, e4, e5⟩ := i3 j c' hj
        refine ⟨a, l', x, y, e1, ?_, e3, ?_, e5⟩
        · rw [get_snoc, if_pos (by omega)]
          exact e2
        · rw [get_snoc, List.length_append, List.length_singleton, if_pos (by omega)]
          exact e4
      · rw [if_neg h1] at hj
        by_cases h2 : j = ks.length
        · rw [if_pos h2] at hj
          cases hj
          refine ⟨hc, l, b, o, hl, ?_, hb, ?_, ho⟩
          · rw [get_snoc, if_neg (by omega), if_pos (by omega)]
          · rw [get_snoc, List.length_append, List.length_singleton, if_neg (by omega), if_pos (by omega)]
        · rw [if_neg h2] at hj
          cases hj
/-- the ring (numbers alone): its bits, its checks -/
structure RingOk (n : Nat) (cs : List (List Nat)) (R : List Nat) : Prop where
  len : 4 ≤ R.length ∧ R.length % 2 = 0
  rng : ∀ i x, R[i]? = some x → x < (if i % 2 = 0 then n else cs.length)
  dst : ∀ i j, j < i → i < R.length → i % 2 = j % 2 → R[i]? ≠ R[j]?
  wir : ∀ j b c b' l, R[2 * j]? = some b → R[2 * j + 1]? = some c → cs[c]? = some l → R[(2 * j + 2) % R.length]? = some b' → b ∈ l ∧ b' ∈ l
theorem nodup_get {l : List Nat} (h : l.Nodup) {i j : Nat} {x : Nat} (a : l[i]? = some x) (b : l[j]? = some x) : i = j := by
  obtain ⟨h1, e1⟩ := List.getElem?_eq_some_iff.mp a
  obtain ⟨h2, e2⟩ := List.getElem?_eq_some_iff.mp b
  exact (List.getElem_inj h).mp (e1.trans e2.symm)
theorem ring_of {n k s g : Nat} {cs : List (List Nat)} {r bs ks l : List Nat} (h : Pth cs k s r bs ks g) (nb : (bs ++ [g]).Nodup) (nk : ks.Nodup) (lt : ∀ b, b ∈ bs → b < n) (hg : g < n) (hne : s ≠ g) (hl : cs[k]? = some l) (hs : s ∈ l) (hgl : g ∈ l) :
    RingOk n cs (r ++ [g] ++ [k]) := by
  obtain ⟨a1, a2, a3⟩ := h.at
  obtain ⟨l1, l2⟩ := h.length
  have hk : k < cs.length := (List.getElem?_eq_some_iff.mp hl).1
  have pos : 0 < bs.length := by
    rcases Nat.eq_zero_or_pos bs.length with z | z
    · have : bs = [] := List.length_eq_zero_iff.mp z
      subst this
      exact absurd (Option.some.inj a2) (Ne.symm hne)
    · exact z
  have eR : r ++ [g] ++ [k] = r ++ [g, k] := by simp
  have e0 : ∀ j, (r ++ [g, k])[2 * j]? = (bs ++ [g])[j]? := fun j => by
    rw [get_snoc2, get_snoc, (a1 j).1]
    by_cases h1 : j < bs.length
    · rw [if_pos (by omega), if_pos h1]
    · rw [if_neg (by omega), if_neg h1]
      by_cases h2 : j = bs.length
      · rw [if_pos (by omega), if_pos h2]
      · rw [if_neg (by omega), if_neg h2, if_neg (by omega)]
  have e1 : ∀ j, (r ++ [g, k])[2 * j + 1]? = (ks ++ [k])[j]? := fun j => by
    rw [get_snoc2, get_snoc, (a1 j).2, l2]
    by_cases h1 : j < bs.length
    · rw [if_pos (by omega), if_pos h1]
    · rw [if_neg (by omega), if_neg h1, if_neg (by omega)]
      by_cases h2 : j = bs.length
      · rw [if_pos (by omega), if_pos h2]
      · rw [if_neg (by omega), if_neg h2]
  have lk : ∀ c, c ∈ ks → c < k := fun c hc => by
    obtain ⟨j, hj⟩ := List.getElem?_of_mem hc
    exact (a3 j c hj).1
  have nk2 : (ks ++ [k]).Nodup := List.nodup_append.mpr ⟨nk, by simp, fun x hx y hy e => by
    have := lk x hx
    have : y = k := by simpa using hy
    omega⟩
  have hlen : (r ++ [g, k]).length = 2 * bs.length + 2 := by simp [l1]
  rw [eR]
  refine ⟨⟨by omega, by omega⟩, fun i x hx => ?_, fun i j hji hi hp he => ?_, fun j b c b' l' hb hc hl' hb' => ?_⟩
  · rcases Nat.mod_two_eq_zero_or_one i with z | z
    · rw [if_pos z]
      obtain ⟨j, rfl⟩ : ∃ j, i = 2 * j := ⟨i / 2, by omega⟩
      rw [e0] at hx
      have hm := List.mem_of_getElem? hx
      rcases List.mem_append.mp hm with hm | hm
      · exact lt x hm
      · rw [List.mem_singleton.mp hm]
        exact hg
    · rw [if_neg (by omega)]
      obtain ⟨j, rfl⟩ : ∃ j, i = 2 * j + 1 := ⟨i / 2, by omega⟩
      rw [e1] at hx
      have hm := List.mem_of_getElem? hx
      rcases List.mem_append.mp hm with hm | hm
      · have := lk x hm
        omega
      · rw [List.mem_singleton.mp hm]
        exact hk
  · have hx : ∃ x, (r ++ [g, k])[i]? = some x := ⟨_, List.getElem?_eq_getElem hi⟩
    obtain ⟨x, hx⟩ := hx
    rw [hx] at he
    have he := he.symm
    rcases Nat.mod_two_eq_zero_or_one i with z | z
    · obtain ⟨i', rfl⟩ : ∃ j, i = 2 * j := ⟨i / 2, by omega⟩
      obtain ⟨j', rfl⟩ : ∃ m, j = 2 * m := ⟨j / 2, by omega⟩
      rw [e0] at hx he
      have := nodup_get nb hx he
      omega
    · obtain ⟨i', rfl⟩ : ∃ j, i = 2 * j + 1 := ⟨i / 2, by omega⟩
      obtain ⟨j', rfl⟩ : ∃ m, j = 2 * m + 1 := ⟨j / 2, by omega⟩
      rw [e1] at hx he
      have := nodup_get nk2 hx he
      omega
  · rw [e0] at hb
    rw [e1] at hc
    rw [hlen] at hb'
    rw [get_snoc] at hc
    by_cases h1 : j < ks.length
    · rw [if_pos h1] at hc
      obtain ⟨_, l2', x, y, q1, q2, q3, q4, q5⟩ := a3 j c hc
      rw [hl'] at q1
      cases q1
      rw [get_snoc, if_pos (by omega), q2] at hb
      cases hb
      have em : (2 * j + 2) % (2 * bs.length + 2) = 2 * (j + 1) := by
        rw [Nat.mod_eq_of_lt (by omega)]
        omega
      rw [em, e0, q4] at hb'
      cases hb'
      exact ⟨q3, q5⟩
    · rw [if_neg h1] at hc
      by_cases h2 : j = ks.length
      · rw [if_pos h2] at hc
        cases hc
        rw [hl] at hl'
        cases hl'
        rw [get_snoc, if_neg (by omega), if_pos (by omega)] at hb
        cases hb
        have em : (2 * j + 2) % (2 * bs.length + 2) = 2 * 0 := by
          rw [h2, l2, Nat.mod_self]
        rw [em, e0, a2] at hb'
        cases hb'
        exact ⟨hgl, hs⟩
      · rw [if_neg h2] at hc
        cases hc
theorem nodup_label {n : Nat} {cs : List (List Nat)} {c L L' : List Nat} (v : Vl n cs L) (v' : Vl n cs L') (hc : ∀ b, b ∈ c → b < n) (h : (nm L c).Nodup) : (nm L' c).Nodup := by
  unfold nm at *
  rw [List.Nodup, List.pairwise_map] at *
  exact h.imp_of_mem fun ha hb hab e => hab (v'.same v (hc _ ha) (hc _ hb) e)
end Km

/-! enumerate(v) with one argument, v any thing whose iteration begins -/
namespace Kr
open PySem PySem.Spec PyProof.Rows L2
theorem enum_new_meets {v : Value} {o : Obj} {Hs : Heap → Prop} (B : Begins v o Hs) :
    Meets (Builtin.«enumerate.__new__» ⟨[.type "enumerate", v], []⟩) (fun _ R s => Hs s.heap ∧
      R (.ok (.ret (.ref (s.heap.push o).objs.size)))
        { s with heap := (s.heap.push o).push { cls := .type "enumerate", data := .fields #[.none, .bool false, .ref s.heap.objs.size, rawInt 0, .none, .none] } }) :=
  .of_wp fun prog w A R s hh => by
    obtain ⟨hp, gs, dr, tk, ox⟩ := s
    obtain ⟨hb, hr⟩ := hh
    have hsub := sub_enumerate
    have it : ∀ {A' : Around} {E : Value → Shared → Prop} {Q : Value → Shared → Prop}, Q (.ref hp.objs.size) ⟨hp.push o, gs, dr, tk, ox⟩ → wpAny (model prog w) A' (pyIter v) Q E ⟨hp, gs, dr, tk, ox⟩ :=
      fun q => B.iter prog w _ _ ⟨hp, gs, dr, tk, ox⟩ _ hb q
    wp_walk using it
    refine wpAny_stack_any fun st => wpAny_pure ?_
    split
    · rename_i c _ _ _ _ _
      cases (c == Value.type "enumerate") <;> (wp_walk using it; exact ⟨_, rfl, hr⟩)
    · wp_walk using it
      exact ⟨_, rfl, hr⟩
section
variable {prog : Program} {w : World} {A : Around} {E : Value → Shared → Prop} {s : Shared}
theorem call_enum1 {v : Value} {o : Obj} {Hs : Heap → Prop} {Q : Value → Shared → Prop} (B : Begins v o Hs) (hb : Hs s.heap)
    (k : ∀ h', IsEnum h' (s.heap.objs.size + 1) s.heap.objs.size 0 .none → h'.get? s.heap.objs.size = some o → (∀ b u, s.heap.get? b = some u → h'.get? b = some u) →
      Q (.ref (s.heap.objs.size + 1)) { s with heap := h' }) : wpAny (model prog w) A (call (.type "enumerate") [v]) Q E s := by
  refine callType_new F.called_enumerate (by decide) (F.typeCall_enumerate_1 _) (F.newCall_enumerate_1 _) (fun x => F.args_object_init_2 x _) F.entry_enumerate_new (enum_new_meets B) ⟨hb, ?_⟩
  have hz : (s.heap.push o).objs.size = s.heap.objs.size + 1 := Heap.size_push ..
  have he : ((s.heap.push o).push { cls := .type "enumerate", data := .fields #[.none, .bool false, .ref s.heap.objs.size, rawInt 0, .none, .none] }).get? (s.heap.push o).objs.size
      = some { cls := .type "enumerate", data := .fields #[.none, .bool false, .ref s.heap.objs.size, rawInt 0, .none, .none] } := Heap.get?_push_size _ rfl
  show _ ∧ _
  refine ⟨⟨_, he, rfl⟩, ?_⟩
  rw [hz] at he ⊢
  exact k _ he (Heap.get?_push_of_some _ (Heap.get?_push_size _ B.free)) fun b u x => Heap.get?_push_of_some _ (Heap.get?_push_of_some _ x)
end
/-- the tuple at a as it stands at each turn, each item in a new pair -/
def IteT (K : PySem.W.Frag) (a : Addr) : It :=
  ⟨fun i H => ∃ (xs : List V) (x : V), SqT K H a xs ∧ xs[i]? = some x, fun i H v H' => ∃ T x, v = .ref T ∧ H T = none ∧ H' = upd H T (.tup [.int (i : Nat), x]) ∧ ∀ xs, SqT K H a xs → xs[i]? = some x,
    fun i H => ∃ xs : List V, SqT K H a xs ∧ xs.length = i⟩
theorem turn_enumT {P : Program} {w : World} {K : PySem.W.Frag} {elts : List Expr} {kk : Nat} {tpos : Pos} (a e it : Addr) (hae : a ≠ e) (hai : a ≠ it) :
    Turn P w K (.Tuple elts kk tpos) (IteT K a) [e, it] e (fun i h => (∃ old, IsEnum h e it ((i : Nat) : Int) old) ∧ h.IsTupleIter it a i ∧ e ≠ it) where
  mem := by simp
  obj := fun i h st b hb => by
    obtain ⟨⟨old, he⟩, ⟨o, ho, _, hd⟩, _⟩ := st
    rcases List.mem_cons.mp hb with z | z
    · rw [z]
      exact ⟨_, he, fun v q => nomatch q⟩
    · rw [List.mem_singleton.mp z]
      exact ⟨o, ho, fun v q => by rw [hd] at q; cases q⟩
  keep := fun i h h' st k => let ⟨⟨old, he⟩, hi, hne⟩ := st; ⟨⟨old, k e (by simp) _ he⟩, hi.at fun o q => k it (by simp) o q, hne⟩
  item := by
    intro X hP hw hK hc i pins s σ H E I hf st hg
    subst hP hw hK
    obtain ⟨⟨old, he⟩, hit, hne⟩ := st
    obtain ⟨xs, x, hq, hx⟩ := hg
    obtain ⟨its, rv, p, hz⟩ := I.tuple hq
    obtain ⟨u, hu, ru⟩ := rv.get hx
    have hel : e < s.heap.objs.size := Heap.lt_size he
    have hil : it < s.heap.objs.size := by obtain ⟨_, q, _⟩ := hit; exact Heap.lt_size q
    have hlt : i < its.toArray.size := by
      rw [List.size_toArray]
      exact (List.getElem?_eq_some_iff.mp hu).1
    refine wpAny_pyNext_enum_itemC (Draws.tuple (A := X.A.in1) (I.ok.hd hc) it a hai its.toArray) he ⟨hit, p⟩ hlt hne (by simp [hne, Ne.symm hae]) fun y h' tk hy ho hst hT hsz hk => ?_
    have ey : y = u := by
      rw [List.getElem?_toArray, hu] at hy
      exact (Option.some.inj hy).symm
    subst ey
    refine ⟨_, rfl, wpAny_letOwnedTupleGo_enum (s := { s with heap := h', toks := tk + 1 }) ho fun h'' he' sb => ?_⟩
    have hT2 : h''.get? s.heap.objs.size = some { cls := .type "tuple", data := .seq #[.int i tk, y] } := (sb.2 _ (Nat.ne_of_gt hel)).trans hT
    have new : ObjOk X.prog X.w (upd H s.heap.objs.size (.tup [.int (i : Nat), x])) h'' s.heap.objs.size (.tup [.int (i : Nat), x]) :=
      ⟨by show 2 ≤ sizeLine; decide, [.int i tk, y], .cons ⟨_, rfl⟩ (.cons ru .nil), ⟨_, hT2, rfl, _, rfl⟩⟩
    have I1 : Inv X pins σ (upd H s.heap.objs.size (.tup [.int (i : Nat), x])) { s with heap := h'', toks := tk + 1 } :=
      I.turnedNew (ch := [e, it]) (fun b ob hb q => (sb.2 b (fun z => hb (by simp [z]))).trans (hk b ob (fun z => hb (by simp [z])) (fun z => hb (by simp [z])) q)) hf (Nat.le_refl _) new
    refine ⟨.ref s.heap.objs.size, _, I1, rfl, ⟨_, x, rfl, I.hok.fresh (Nat.le_refl _), rfl, fun ys hy => by rw [I.tuple_inj hy hq]; exact hx⟩, ⟨⟨y, ?_⟩, hst.1.at fun o q => (sb.2 it (Ne.symm hne)).trans q, hne⟩, fun b hb => ?_⟩
    · have e1 : ((i + 1 : Nat) : Int) = (i : Int) + 1 := by omega
      rw [e1]; exact he'
    · have hb' : b < s.heap.objs.size := by
        rcases List.mem_cons.mp hb with z | z
        · exact z ▸ hel
        · exact (List.mem_singleton.mp z) ▸ hil
      rw [upd_ne (Nat.ne_of_lt hb')]
      exact (hf b hb).1
  done := by
    intro X hP hw hK hc i pins s σ H E I hf st hg
    subst hP hw hK
    obtain ⟨⟨old, he⟩, hit, hne⟩ := st
    obtain ⟨xs, hq, hx⟩ := hg
    obtain ⟨its, rv, p, hz⟩ := I.tuple hq
    obtain ⟨f0, f1, f2, f3, f4, f5⟩ := hf it (by simp)
    have hl : its.toArray.size = i := by
      rw [List.size_toArray, ← rv.length]
      exact hx
    exact wpAny_pyNext_enum_endD (Draws.tuple (A := X.A.in1) (I.ok.hd hc) it a hai its.toArray) he (hl ▸ ⟨hit, p⟩) fun h' eb => ⟨rfl, I.turned (t' := s.toks) (fun b o hb q => eb b o hb q) f0 f1 f3 f4 f5⟩
  self := fun A i s Q E st h => let ⟨⟨_, he⟩, _⟩ := st; wpAny_pyIter_enum he h
/-- enumerate(x), x a list or a tuple -/
def iEnumA (K : PySem.W.Frag) (ta : TA) : TI := fun σ H R => ta σ H fun vs H1 => ∃ a xs, vs = [.ref a] ∧ ((SqL K H1 a xs ∧ R (Ite K a) H1) ∨ (SqT K H1 a xs ∧ R (IteT K a) H1))
theorem pi_enumA {X : Cx} {e : Expr} {ta : TA} {p pos tpos : Pos} {elts : List Expr} {kk : Nat} (hg : Gl X "enumerate") (hm : X.mg "enumerate" = none) (ha : PA X [e] ta) (hs : starEach [e] X.env = [(false, eval e X.env)] := by rfl) :
    PI X (.Tuple elts kk tpos) (.Call (.Name "enumerate" p) [e] [] pos) (iEnumA X.K ta) := by
  refine ⟨fun pins s σ H R I h => ?_⟩
  refine Call_ (ld_blt I hg hm boot_enumerate (PyProof.Rows.callWith_type1 (thn (ha.run pos pins s σ H _ I h) fun us s1 ⟨vs, H1, I1, r1, a, xs, ex, q⟩ => ?_) hs rfl))
  subst ex
  rw [Vals.ref1 r1]
  have hle : ∀ b, b ∈ [s1.heap.objs.size + 1, s1.heap.objs.size] → s1.heap.objs.size ≤ b := fun b hb => by
    rcases List.mem_cons.mp hb with z | z
    · exact z ▸ Nat.le_succ _
    · exact (List.mem_singleton.mp z) ▸ Nat.le_refl _
  rcases q with ⟨hq, q⟩ | ⟨hq, q⟩
  · obtain ⟨its, rv, p', hz⟩ := I1.list hq
    refine call_enum1 (begins_list a its.toArray) p'.isList fun h' he hit hk => wpAny_pyIter_enum he ?_
    have I2 : Inv X pins σ H1 { s1 with heap := h' } := I1.kept (t' := s1.toks) hk
    exact ⟨s1.heap.objs.size + 1, [s1.heap.objs.size + 1, s1.heap.objs.size], _, _, H1, rfl, I2, turn_enum a (s1.heap.objs.size + 1) s1.heap.objs.size,
      ⟨⟨.none, he⟩, ⟨_, hit, rfl, rfl⟩, Nat.succ_ne_self _⟩, fun b hb => I1.fpOk (hle b hb) (I1.hok.fresh (hle b hb)), q⟩
  · obtain ⟨its, rv, p', hz⟩ := I1.tuple hq
    have hal : a < s1.heap.objs.size := p'.lt
    refine call_enum1 (begins_tuple a its.toArray) p' fun h' he hit hk => wpAny_pyIter_enum he ?_
    have I2 : Inv X pins σ H1 { s1 with heap := h' } := I1.kept (t' := s1.toks) hk
    exact ⟨s1.heap.objs.size + 1, [s1.heap.objs.size + 1, s1.heap.objs.size], _, _, H1, rfl, I2, turn_enumT a (s1.heap.objs.size + 1) s1.heap.objs.size (Nat.ne_of_lt (Nat.lt_succ_of_lt hal)) (Nat.ne_of_lt hal),
      ⟨⟨.none, he⟩, ⟨_, hit, rfl, rfl⟩, Nat.succ_ne_self _⟩, fun b hb => I1.fpOk (hle b hb) (I1.hok.fresh (hle b hb)), q⟩
theorem walk_enumT {K : PySem.W.Frag} {a : Addr} {xs : List V} : Walk (IteT K a) xs.length (fun H => SqT K H a xs) (YPair (fun i => some (.int (i : Nat))) (fun i => xs[i]?)) := by
  refine ⟨fun i _ hi q => ⟨xs, xs[i], q, by simp [hi]⟩, fun _ q => ⟨xs, q, rfl⟩, fun i H v H' _ q y => ?_⟩
  obtain ⟨T, x, h1, h2, h3, h4⟩ := y
  exact ⟨T, .int (i : Nat), x, h1, h2, h3, rfl, h4 xs q⟩
end Kr

/-! set(xs) of a list of ints, as a set that sorted can walk -/
namespace Kr
open PySem PySem.Spec PyProof.Rows L2
section
variable {P : Program} {w : World} {A : Around} {E : Value → Shared → Prop} {s : Shared}
/-- the empty set object of a World -/
abbrev set0 (w : World) : Obj := { cls := .type "set", dict := none, data := .set #[] 0 (.fresh 0 0 (!w.params.followText "set-order")) }
/-- set.__init__ over a list, the set at S new -/
theorem set_init_list {l S : Addr} {items : Array Value} (ns : List Int) {R : Result → Shared → Prop} (hh : A.handled = none) (hS : s.heap.get? S = some (set0 w)) (hlS : l ≠ S) (hl : s.heap.IsList l items) (hi : IntsAre items.toList ns) (hb : ns.length + 1 < scanBound)
    (k : ∀ (h' : Heap) (tk c : Nat), SetR w h' S (fun j => decide (j ∈ ns)) c → c ≤ ns.length → (∀ b o, b ≠ S → s.heap.get? b = some o → h'.get? b = some o) → R (.ok (.ret .none)) { s with heap := h', toks := tk }) :
    wpAny (model P w) A.in1 (Builtin.«set.__init__» ⟨[.ref S, .ref l], []⟩)
      (fun fin s' => match fin with | .done f => R (.ok f) s' | .again c' => c'.quiet = true ∧ codeAny (model P w) A c' R s') (fun e s' => R (.error e) s') s := by
  have hsize : items.size = ns.length := by
    have q := IntsAre.length hi
    rw [Array.length_toList] at q
    exact q
  have hSl : S < s.heap.objs.size := Heap.lt_size hS
  obtain ⟨⟨cl, od, dt, sl⟩, hol, hc, nl, hd⟩ := id hl
  simp only at hc hd
  subst hc hd
  have hll : l < s.heap.objs.size := Heap.lt_size hol
  have hsls := PySem.F.sub_list_set
  have hslf := PySem.F.sub_list_frozenset
  have hne : (Value.type "list" == Value.type "dict") = false := by decide
  unfold Builtin.«set.__init__» noKeywords Builtin.Frozenset.updateFrom
  generalize hPI : pyIter = PI
  wp_walk
  subst hPI
  refine wpAny_pyIter_list hl ?_
  refine wpAny_bind (wpAny_runValue ?_)
  have hf : S ∉ [s.heap.objs.size, l] := by
    simp only [List.mem_cons, List.not_mem_nil, or_false, not_or]
    exact ⟨Nat.ne_of_lt hSl, Ne.symm hlS⟩
  have hv : ∀ (i : Nat) (v : Value), items[i]? = some v → ∃ z t, ns[i]? = some z ∧ v = .int z t := fun i v e => by
    have hi2 : i < ns.length := by rw [← hsize]; exact (Array.getElem?_eq_some_iff.mp e).1
    obtain ⟨t, q⟩ := PyProof.Rows.IntsAre.int_at hi i v (by rw [Array.getElem?_toList]; exact e)
    refine ⟨ns[i], t, List.getElem?_eq_getElem hi2, ?_⟩
    rw [q, List.getD_eq_getElem?_getD, List.getElem?_eq_getElem hi2]
    rfl
  refine set_update_ints ((Walks.list (by simp [hh]) _ l (Nat.ne_of_lt hll) items).toS) S hf ns hsize hb hv (items.size - 0) 0 _ (by omega) (Nat.zero_le _)
    ⟨⟨_, Heap.get?_push_size _ rfl, rfl, rfl⟩, hl.push _⟩ ⟨0, Nat.le_refl 0, setR_new_at (Heap.get?_push_of_some _ hS)⟩ fun s' c hm hc hR => ?_
  obtain ⟨h', g', d', tk', os'⟩ := s'
  obtain rfl : g' = s.gens := hm.gens
  obtain rfl : d' = s.drawn := hm.drawn
  obtain rfl : os' = s.os := hm.os
  refine wpAny_pure (wpAny_pure (k h' tk' c hR (hsize ▸ hc) fun b o hbS e => hm.heap b o ?_ (Heap.get?_push_of_some _ e)))
  simp only [List.mem_cons, List.not_mem_nil, or_false, not_or]
  exact ⟨hbS, Nat.ne_of_lt (Heap.lt_size e)⟩
theorem call_set_list {l : Addr} {items : Array Value} (ns : List Int) {Q : Value → Shared → Prop} (hh : A.handled = none) (hl : s.heap.IsList l items) (hi : IntsAre items.toList ns) (hb : ns.length + 1 < scanBound)
    (k : ∀ (h' : Heap) (tk c : Nat), SetR w h' s.heap.objs.size (fun j => decide (j ∈ ns)) c → c ≤ ns.length → (∀ b o, s.heap.get? b = some o → h'.get? b = some o) → Q (.ref s.heap.objs.size) { s with heap := h', toks := tk }) :
    wpAny (model P w) A (call (.type "set") [.ref l]) Q E s := by
  have hlS : l < s.heap.objs.size := by
    obtain ⟨_, q, _⟩ := hl
    exact Heap.lt_size q
  have hS : (s.heap.push (set0 w)).get? s.heap.objs.size = some (set0 w) := Heap.get?_push_size _ rfl
  have hT : Shared.TypeIs { s with heap := s.heap.push (set0 w) } (.ref s.heap.objs.size) "set" := ⟨_, hS, rfl⟩
  obtain ⟨mr, tl, hmro⟩ := F.called_set.mro
  have m1 := F.called_set.made
  have m2 := F.called_set.sub
  have m3 := F.called_set.notType
  have m4 := F.called_set.canCreate
  have m5 := F.typeCall_set_1 (.ref l)
  have m6 := F.called_set.init.lookup
  have m7 := F.called_set.init.bind (.ref s.heap.objs.size)
  refine wpAny_call (codeAny_of_tree ?_)
  show wpAny _ _ (callAny (.type "set") _) _ _ _
  refine wpAny_pure ⟨Code.quiet_builtin _ (by decide +kernel), codeAny_builtin F.entry_type_call ?_⟩
  rw [Around.under_plain (weight_type_call_type "set" [.ref l] []) rfl]
  repeat (any_goals (first | assumption | wp_step))
  refine codeAny_mono (code_set_led1 (.ref l) (E := E) (Q₁ := fun x s₁ => x = .ref s.heap.objs.size ∧ s₁ = { s with heap := s.heap.push (set0 w) }) ⟨rfl, rfl⟩) fun r s₁ hr => ?_
  match r, hr with
  | .error e, hr => exact hr
  | .ok .next, hr => exact hr.elim
  | .ok .brk, hr => exact hr.elim
  | .ok .cont, hr => exact hr.elim
  | .ok (.ret x), hr =>
    obtain ⟨rfl, rfl⟩ := hr
    repeat (any_goals (first | assumption | wp_step))
    refine codeAny_mono (codeAny_call_builtin (R := wants (fun r s₂ => r = .none ∧ Q (.ref s.heap.objs.size) s₂) E) F.called_set.init.plain F.entry_set_init (check_set_init_1 hT
      (set_init_list ns (by simp [hh]) hS (Nat.ne_of_lt hlS) (hl.push _) hi hb fun h' tk c hR hc hk => ⟨rfl, k h' tk c hR hc fun b o e => hk b o (Nat.ne_of_lt (Heap.lt_size e)) (Heap.get?_push_of_some _ e)⟩))) fun r₂ s₂ hr₂ => ?_
    match r₂, hr₂ with
    | .error e, hr₂ => exact hr₂
    | .ok .next, hr₂ => exact hr₂.elim
    | .ok .brk, hr₂ => exact hr₂.elim
    | .ok .cont, hr₂ => exact hr₂.elim
    | .ok (.ret y), hr₂ =>
      obtain ⟨rfl, q⟩ := hr₂
      repeat (any_goals (first | assumption | wp_step))
end
/-- set(xs), xs a list of ints -/
def rSetL (K : PySem.W.Frag) (w : World) : List V → Hp → VK → Prop := fun vs H Q => ∃ (a : Addr) (ns : List Int), vs = [V.ref a] ∧ SqL K H a (ns.map V.int) ∧ ns.length ≤ 1000 ∧
  ∀ (p : Addr) (c : Nat), H p = none → c ≤ ns.length → Q (.ref p) (upd H p (SetO w p (fun j => decide (j ∈ ns)) c))
theorem cr_setL {X : Cx} (hc : X.calm = true) : CallR X (.type "set") (rSetL X.K X.w) := by
  intro pins s σ H vs us Q I r h
  obtain ⟨a, ns, rfl, hs, hn, q⟩ := h
  obtain ⟨its, rv, hl, _⟩ := I.list hs
  rw [Vals.ref1 r]
  refine call_set_list ns (I.ok.hd hc) hl.isList rv.ints (by unfold scanBound; omega) fun h' tk c hR hcn hk => ?_
  have hf : H s.heap.objs.size = none := I.hok.fresh (Nat.le_refl _)
  exact ⟨.ref s.heap.objs.size, upd H s.heap.objs.size (SetO X.w s.heap.objs.size (fun j => decide (j ∈ ns)) c), I.laid (t' := tk) hk (Nat.le_refl _) (setO_new hR), rfl, q _ c hf hcn⟩
end Kr

/-! list(reversed(t)), t a tuple -/
namespace Kr
open PySem PySem.Spec PyProof.Rows L2 RT
theorem nolen_rev : typeLookup (.type "reversed") "__len__" = pure none := by rw [typeLookup_type, builtinLookup_eq_fast]; kernel_rfl
theorem slot_rev_hint : Slot "reversed" "__length_hint__" "reversed.__length_hint__" :=
  .of (owner := "reversed") (n := "__length_hint__") (by rw [typeLookup_type, builtinLookup_eq_fast]; kernel_rfl) (by decide +kernel) (by decide +kernel) (by decide +kernel)
    (by first | exact .inl (by decide +kernel) | exact .inr (by decide +kernel)) (by rw [isSubtype_type]; kernel_rfl)
theorem entry_rev_hint : entryFor table "reversed.__length_hint__" = some Builtin.«reversed.__length_hint__» := entryFor_of_tree (by kernel_rfl)
theorem args_rev_hint (a : Value) : argsOk "reversed.__length_hint__" ⟨[a], []⟩ := by
  unfold argsOk; rw [signature?_of (id := "reversed.__length_hint__") (n := "__tnih_htgnel__".toList) (o := "desrever".toList) (by kernel_rfl) owner_rt]; kernel_rfl
section
variable {prog : Program} {w : World} {A : Around} {E : Value → Shared → Prop} {s : Shared}
theorem rev_hint {it t : Addr} {items : Array Value} {Q : Bool → Shared → Prop} (hit : IsRt s.heap it t ((items.size : Int) - 1)) (ht : IsTup s.heap t items) (hn : items.size ≤ sizeLine)
    (k : ∀ b tk, Q b { s with toks := tk }) : wpAny (model prog w) A (Builtin.List.listLengthHint (.ref it)) Q E s := by
  have hs : items.size ≤ 16777216 := by rw [sizeLine_eq] at hn; exact hn
  obtain ⟨o, ho, hc, hd⟩ := id hit
  unfold Builtin.List.listLengthHint
  refine wpAny_bind (wpAny_specialOf hit.typeIs nolen_rev ?_)
  show wpAny _ _ (specialOf (Value.ref it) (Str.ofString "__length_hint__") >>= _) _ _ _
  refine wpAny_bind (wpAny_specialOf hit.typeIs slot_rev_hint.lookup ?_)
  generalize hid : ("reversed.__length_hint__" : String) = id0
  wp_delta
  rw [show splitId id0 = some ("reversed", "__length_hint__") from by subst hid; decide +kernel]
  subst hid
  refine wpAny_bind (wpAny_isInstance (b := true) hit.typeIs (by rw [isSubtype_type]; kernel_rfl) ?_)
  rw [if_neg (by decide)]
  dsimp only
  rw [if_neg (by decide +kernel)]
  refine wpAny_bind (wpAny_rule ?_)
  rw [slot_rev_hint.bind]
  refine wpAny_bind (wpAny_pure ?_)
  dsimp only
  refine wpAny_bind (wpAny_attempt (wpAny_call_entry slot_rev_hint hit.typeIs entry_rev_hint ?_ (args_rev_hint _)))
  unfold Builtin.«reversed.__length_hint__»
  refine wpAny_bind (wpAny_of_eq (a := Value.ref it) rfl ?_)
  refine wpAny_bind (wpAny_field ho hd (x := .ref t) rfl ?_)
  show wpAny _ _ (if (Value.ref t == Value.none) = true then _ else _) _ _ s
  rw [if_neg (show ¬ ((Value.ref t == Value.none) = true) from Bool.false_ne_true)]
  refine wpAny_bind (len_tuple ht (by omega) ?_)
  refine wpAny_bind (wpAny_of_eq (a := some ((items.size : Nat) : Int)) rfl ?_)
  refine wpAny_bind (wpAny_field (s := { s with toks := s.toks + 1 + 1 }) ho hd (x := rawInt ((items.size : Int) - 1)) rfl ?_)
  show wpAny _ _ (if ((items.size : Nat) : Int) < ((items.size : Int) - 1) + 1 then _ else _) _ _ _
  rw [if_neg (by omega)]
  unfold retInt
  refine wpAny_bind (wpAny_mkInt ?_)
  refine wpAny_pure ⟨_, rfl, ?_⟩
  show wpAny _ _ (asInt? (Value.int ((items.size : Int) - 1 + 1) _) >>= _) _ _ _
  refine wpAny_bind (wpAny_of_eq (a := some ((items.size : Int) - 1 + 1)) rfl ?_)
  have f1 : (!Builtin.List.listFitsIndex ((items.size : Int) - 1 + 1)) = false := by
    unfold Builtin.List.listFitsIndex
    simp
    omega
  have f2 : Builtin.List.listTooLong ((items.size : Int) - 1 + 1).toNat = false := by
    unfold Builtin.List.listTooLong
    simp
    omega
  show wpAny _ _ (if (!Builtin.List.listFitsIndex ((items.size : Int) - 1 + 1)) = true then _ else _) _ _ _
  rw [if_neg (by rw [f1]; decide)]
  show wpAny _ _ (if ((items.size : Int) - 1 + 1) < 0 then _ else _) _ _ _
  rw [if_neg (by omega)]
  show wpAny _ _ (if Builtin.List.listTooLong ((items.size : Int) - 1 + 1).toNat = true then _ else _) _ _ _
  rw [if_neg (by rw [f2]; decide)]
  exact wpAny_pure (k _ _)
theorem walks_rt (hh : A.handled = none) (it t : Addr) (hne : t ≠ it) (items : Array Value) (hn : items.size ≤ sizeLine) :
    Walks prog w A it [it, t] [it] items.size (fun i v => items[items.size - 1 - i]? = some v) (fun i h => i ≤ items.size ∧ IsRt h it t ((items.size : Int) - 1 - (i : Nat)) ∧ IsTup h t items) where
  sub := fun b hb => by
    rw [List.mem_singleton.mp hb]
    exact List.mem_cons_self
  frame := fun i h h' st kp => ⟨st.1, st.2.1.at fun o e => kp it (by simp) o e, let ⟨o, e, r⟩ := st.2.2; ⟨o, kp t (by simp) o e, r⟩⟩
  item := fun i s Q E hi st k => by
    obtain ⟨_, h1, h2⟩ := st
    have e1 : (items.size : Int) - 1 - ((i : Nat) : Int) = ((items.size - 1 - i : Nat) : Int) := by omega
    rw [e1] at h1
    have hlt : items.size - 1 - i < items.size := by omega
    refine next_rt_item h1 h2 (x := items[items.size - 1 - i]) (by simp [hlt]) hn fun h' h3 sb => ?_
    have e2 : ((items.size - 1 - i : Nat) : Int) - 1 = (items.size : Int) - 1 - ((i + 1 : Nat) : Int) := by omega
    rw [e2] at h3
    refine k _ h' _ (by simp [hlt]) ⟨hi, h3, ?_⟩ fun b o hb e => (sb.2 b (fun z => hb (List.mem_singleton.mpr z))).trans e
    obtain ⟨o, e, r⟩ := h2
    exact ⟨o, (sb.2 t hne).trans e, r⟩
  done := fun s Q E st k => by
    obtain ⟨_, h1, _⟩ := st
    have e1 : (items.size : Int) - 1 - ((items.size : Nat) : Int) = -1 := by omega
    rw [e1] at h1
    exact next_rt_end hh h1 fun h' eb => k h' s.toks fun b o hb e => eb b o (fun z => hb (List.mem_singleton.mpr z)) e
  self := fun i s Q E st k => iter_rt st.2.1 k
theorem call_list_rt {it t : Addr} {items : Array Value} {Q : Value → Shared → Prop} (hh : A.handled = none) (hit : IsRt s.heap it t ((items.size : Int) - 1)) (ht : IsTup s.heap t items) (hne : t ≠ it) (hn : items.size ≤ sizeLine)
    (k : ∀ (h' : Heap) (tk : Nat) (acc : Array Value) (c : Nat), (∀ b o, b ≠ it → s.heap.get? b = some o → h'.get? b = some o) → h'.get? s.heap.objs.size = some { cls := .type "list", dict := none, data := .seq acc c, slots := #[] } →
      ItemsOf (fun i v => items[items.size - 1 - i]? = some v) acc items.size → Q (.ref s.heap.objs.size) { s with heap := h', toks := tk }) :
    wpAny (model prog w) A (call (.type "list") [.ref it]) Q E s := by
  obtain ⟨oi, hoi, _⟩ := id hit
  obtain ⟨ot, hot, _⟩ := id ht
  have hSi : s.heap.objs.size ≠ it := Nat.ne_of_gt (Heap.lt_size hoi)
  have hSt : s.heap.objs.size ≠ t := Nat.ne_of_gt (Heap.lt_size hot)
  have hf : s.heap.objs.size ∉ [it, t] := by simp only [List.mem_cons, List.not_mem_nil, or_false, not_or]; exact ⟨hSi, hSt⟩
  refine callType_codes (Q₁ := fun x s₁ => x = .ref s.heap.objs.size ∧ s₁ = { s with heap := s.heap.push { cls := .type "list", data := .seq #[] } }) F.called_list (F.typeCall_list_1 _) F.entry_list_init (code_list_new _ ⟨rfl, rfl⟩) fun x s₁ e => ?_
  obtain ⟨rfl, rfl⟩ := e
  have hS : (s.heap.push { cls := .type "list", data := .seq #[] }).get? s.heap.objs.size = some { cls := .type "list", data := .seq #[] } := Heap.get?_push_size _ rfl
  refine ⟨⟨_, hS, rfl⟩, F.args_list_init_2 _ _, ?_⟩
  have W := (walks_rt (prog := prog) (w := w) (A := A.in1.in1) (by simp [hh]) it t hne items hn).toS
  show wpAny _ _ (do let old ← Builtin.List.listItems (.ref s.heap.objs.size); Builtin.List.listUpdate (.ref s.heap.objs.size) (fun _ => #[]); letGo old.toList.reverse; Builtin.List.listExtendWith (.ref s.heap.objs.size) (.ref it) .none) _ _ _
  refine wpAny_bind ?_
  unfold Builtin.List.listItems
  refine wpAny_bind (wpAny_seqItems hS rfl (wpAny_pure ?_))
  refine wpAny_bind (m := Builtin.List.listUpdate _ _) (wpAny_updateSeq hS rfl ?_)
  have h2 := Heap.get?_update_self (Obj.mapSeq (fun _ => (#[] : Array Value))) hS rfl
  have oth2 : ∀ b o, s.heap.get? b = some o → ((s.heap.push { cls := .type "list", data := .seq #[] }).update s.heap.objs.size (Obj.mapSeq (fun _ => (#[] : Array Value)))).get? b = some o := fun b o e =>
    (Heap.get?_update_other _ _ (Nat.ne_of_gt (Heap.lt_size e))).trans (Heap.get?_push_of_some _ e)
  refine wpAny_bind (wpAny_letGo ?_)
  unfold Builtin.List.listExtendWith
  have hit2 := hit.at fun o e => oth2 it o e
  have ht2 : IsTup ((s.heap.push { cls := .type "list", data := .seq #[] }).update s.heap.objs.size (Obj.mapSeq (fun _ => (#[] : Array Value)))) t items := let ⟨o, e, r⟩ := ht; ⟨o, oth2 t o e, r⟩
  refine wpAny_bind (wpAny_typeOf (T := "reversed") (IsRt.typeIs (s := { s with heap := (s.heap.push { cls := .type "list", data := .seq #[] }).update s.heap.objs.size (Obj.mapSeq (fun _ => (#[] : Array Value))) }) hit2) ?_)
  have h1 : Builtin.List.listSameRef (.ref s.heap.objs.size) (.ref it) = false := by simp [Builtin.List.listSameRef, hSi]
  have h3 : (Value.type "reversed" == Value.type "list") = false := by decide
  have h4 : (Value.type "reversed" == Value.type "tuple") = false := by decide
  simp only [h1, h3, h4, Bool.or_false, Bool.false_eq_true, if_false]
  refine wpAny_bind (iter_rt hit2 ?_)
  refine wpAny_bind (wpAny_holding (rev_hint (s := { s with heap := (s.heap.push { cls := .type "list", data := .seq #[] }).update s.heap.objs.size (Obj.mapSeq (fun _ => (#[] : Array Value))) }) hit2 ht2 hn fun b tk => ?_))
  have e0 : (items.size : Int) - 1 - ((0 : Nat) : Int) = (items.size : Int) - 1 := by omega
  have key : ∀ (g : Heap) (c₁ tk : Nat), (∀ b o, s.heap.get? b = some o → g.get? b = some o) → g.get? s.heap.objs.size = some { cls := .type "list", data := .seq #[] c₁ } →
      codeAny (model prog w) A.in1 (.builtin "list.extend.loop" ⟨[.ref s.heap.objs.size, .ref it, .none], []⟩) (wants (fun r s₂ => r = .none ∧ Q (.ref s.heap.objs.size) s₂) E) { s with heap := g, toks := tk } := by
    intro g c₁ tk hk hg
    refine codeAny_extend_loopS W hn s.heap.objs.size hf .none items.size 0 _ #[] c₁ rfl (Nat.zero_le _) ⟨Nat.zero_le _, by rw [e0]; exact hit.at fun o e => hk it o e, let ⟨o, e, r⟩ := ht; ⟨o, hk t o e, r⟩⟩ hg (ItemsOf.nil _) fun s' acc c hm hS' hacc => ?_
    rw [Moved.eq_with hm]
    refine ⟨rfl, k s'.heap s'.toks acc c (fun b o hb e => hm.heap b o (fun hmem => ?_) (hk b o e)) hS' hacc⟩
    rcases List.mem_cons.mp hmem with z | hmem
    · exact absurd (Heap.lt_size e) (by rw [z]; exact Nat.lt_irrefl _)
    · exact hb (List.mem_singleton.mp hmem)
  refine wpAny_ite_split (fun _ => ?_) (fun _ => wpAny_pure ⟨plainId_quiet PySem.F.plain_extend_loop _, key _ _ _ oth2 h2⟩)
  refine wpAny_bind (wpAny_rule ?_)
  refine wpAny_bind ?_
  show wpAny _ _ (updateSeq s.heap.objs.size (·.push .none) >>= fun _ => updateSeq s.heap.objs.size (·.pop)) _ _ _
  refine wpAny_bind (wpAny_updateSeq h2 rfl ?_)
  have h5 := Heap.get?_update_self (Obj.mapSeq (·.push Value.none)) h2 rfl
  refine wpAny_updateSeq (hz := by seq_fits) h5 rfl ?_
  have h6 := Heap.get?_update_self (Obj.mapSeq (·.pop)) h5 rfl
  refine wpAny_pure ⟨plainId_quiet PySem.F.plain_extend_loop _, key _ _ _ (fun b o e => ?_) h6⟩
  have hne2 : s.heap.objs.size ≠ b := Nat.ne_of_gt (Heap.lt_size e)
  exact (Heap.get?_update_other _ _ hne2).trans ((Heap.get?_update_other _ _ hne2).trans (oth2 b o e))
end
/-- list(reversed(t)), t a tuple -/
def tLstRev (K : PySem.W.Frag) (te : TE) : TE := fun σ H Q => te σ H fun v H1 => ∃ (a : Addr) (xs : List V), v = .ref a ∧ SqT K H1 a xs ∧ ∀ q, H1 q = none → Q (.ref q) (upd H1 q (.lst xs.reverse))
theorem pe_lstRev {X : Cx} {e : Expr} {te : TE} {p p2 pos pos2 : Pos} (hc : X.calm = true) (hg : Gl X "list") (hm : X.mg "list" = none) (hg2 : Gl X "reversed") (hm2 : X.mg "reversed" = none) (he : PE X e te)
    (hs : starEach [e] X.env = (false, eval e X.env) :: starEach [] X.env := by rfl)
    (hs2 : starEach [.Call (.Name "reversed" p2) [e] [] pos2] X.env = (false, eval (.Call (.Name "reversed" p2) [e] [] pos2) X.env) :: starEach [] X.env := by rfl) :
    PE X (.Call (.Name "list" p) [.Call (.Name "reversed" p2) [e] [] pos2] [] pos) (tLstRev X.K te) := by
  refine ⟨fun pins s σ H Q I h => ?_⟩
  refine Call_ (ld_blt I hg hm boot_list (PyProof.Rows.callWith_type1 (args_cons (Call_ (ld_blt I hg2 hm2 PyProof.Rows.boot_reversed (PyProof.Rows.callWith_type1 (args_cons (thn (he.run pins s σ H _ I h) fun u s1 ⟨v, H1, I1, r1, q1⟩ => args_nil ?_) hs) hs rfl))) hs2) hs2 rfl))
  obtain ⟨a, xs, ev, hq, q⟩ := q1
  subst ev
  obtain rfl : u = Value.ref a := r1
  obtain ⟨its, rv, p', hz⟩ := I1.tuple hq
  have hn : its.toArray.size ≤ sizeLine := by rw [List.size_toArray, ← rv.length]; exact hz
  have hn2 : its.toArray.size ≤ 16777216 := by rw [sizeLine_eq] at hn; exact hn
  refine call_reversed_tup p' (fun A E Q k => len_tuple p' (by omega) k) (args_nil ?_)
  have k0 : ∀ b o, s1.heap.get? b = some o → (s1.heap.push (rtObj a ((its.toArray.size : Int) - 1))).get? b = some o := fun b o e => Heap.get?_push_of_some _ e
  have I2 : Inv X pins σ H1 { s1 with heap := s1.heap.push (rtObj a ((its.toArray.size : Int) - 1)), toks := s1.toks + 1 + 1 } := I1.kept (t' := s1.toks + 1 + 1) k0
  obtain ⟨ot, hot, hr⟩ := id p'
  have hne : a ≠ s1.heap.objs.size := Nat.ne_of_lt (Heap.lt_size hot)
  refine call_list_rt (s := { s1 with heap := s1.heap.push (rtObj a ((its.toArray.size : Int) - 1)), toks := s1.toks + 1 + 1 }) (I1.ok.hd hc) ⟨_, Heap.get?_push_size _ rfl, rfl, rfl⟩ ⟨ot, k0 _ _ hot, hr⟩ hne hn fun h' tk acc c hk hS hacc => ?_
  have z : (s1.heap.push (rtObj a ((its.toArray.size : Int) - 1))).objs.size = s1.heap.objs.size + 1 := Heap.size_push ..
  have hf : H1 (s1.heap.push (rtObj a ((its.toArray.size : Int) - 1))).objs.size = none := I2.hok.fresh (Nat.le_refl _)
  have kk : ∀ b o, b ≠ s1.heap.objs.size → s1.heap.get? b = some o → h'.get? b = some o := fun b o hb e => hk b o hb (k0 b o e)
  have new : ObjOk X.prog X.w (upd H1 (s1.heap.push (rtObj a ((its.toArray.size : Int) - 1))).objs.size (.lst xs.reverse)) h' (s1.heap.push (rtObj a ((its.toArray.size : Int) - 1))).objs.size (.lst xs.reverse) :=
    ⟨by rw [List.length_reverse]; exact hz, acc.toList, c, vals_rev rv hacc, by rw [Array.toArray_toList]; exact hS⟩
  have fp := I1.fpOk (H' := H1) (b := s1.heap.objs.size) (Nat.le_refl _) (I1.hok.fresh (Nat.le_refl _))
  exact ⟨.ref (s1.heap.push (rtObj a ((its.toArray.size : Int) - 1))).objs.size, _, I1.turnedNew (t' := tk) (ch := [s1.heap.objs.size]) (fun b o hb e => kk b o (fun y => hb (List.mem_singleton.mpr y)) e) (fun b hb => by rw [List.mem_singleton.mp hb]; exact fp) (by rw [z]; exact Nat.le_succ _) new, rfl, q _ hf⟩
end Kr

namespace Kb
open PySem PySem.Spec PyProof.Rows L2 Evl Km Kr
/-! ### the same heap, told twice: a list told as a thing with a fact, or back -/
inductive Two : Option HO → Option HO → Prop where
  | same (o : Option HO) : Two o o
  | shut (xs : List V) (φ : Heap → Prop) : Two (some (.lst xs)) (some (.ext φ))
  | open_ (xs : List V) (φ : Heap → Prop) : Two (some (.ext φ)) (some (.lst xs))
def Tw (H H1 : Hp) : Prop := ∀ b, Two (H b) (H1 b)
theorem Tw.none {H H1 : Hp} (t : Tw H H1) {b : Addr} (e : H b = Option.none) : H1 b = Option.none := by
  have q := t b
  rw [e] at q
  cases h : H1 b with
  | none => rfl
  | some o => rw [h] at q; cases q
theorem Tw.keeps {H H1 : Hp} (t : Tw H H1) {b : Addr} {o : HO} (e : H b = some o) (n1 : ∀ xs, o ≠ .lst xs) (n2 : ∀ φ, o ≠ .ext φ) : H1 b = some o := by
  have q := t b
  rw [e] at q
  cases h : H1 b with
  | none => rw [h] at q; cases q
  | some u =>
    rw [h] at q
    cases q with
    | same => rfl
    | shut xs φ => exact absurd rfl (n1 _)
    | open_ xs φ => exact absurd rfl (n2 _)
theorem Tw.upd {H : Hp} {a : Addr} {o : HO} (t : Two (H a) (some o)) : Tw H (upd H a o) := fun b => by
  by_cases e : b = a
  · subst e
    rw [upd_same]
    exact t
  · rw [upd_ne e]
    exact .same _
section
variable {P : Program} {w : World} {K : PySem.W.Frag} {mg : Str → Option Value} {base : Heap}
theorem un_two {fs : List Addr} {H H1 H' H2 : Hp} {h h' : Heap} (u : Un fs [] H1 H' h h') (a : Tw H H1) (b : Tw H' H2) : Un fs [] H H2 h h' where
  keep := fun c o e n => u.keep c o e (a.none n)
  slot := fun c o e n => u.slot c o e (a.none n)
  free := fun c o e n x => b.none (u.free c o e (a.none n) x)
  there := u.there
  tups := fun c xs e => b.keeps (u.tups c xs (a.keeps e (fun _ q => nomatch q) (fun _ q => nomatch q))) (fun _ q => nomatch q) (fun _ q => nomatch q)
  frzs := fun c o x e => b.keeps (u.frzs c o x (a.keeps e (fun _ q => nomatch q) (fun _ q => nomatch q))) (fun _ q => nomatch q) (fun _ q => nomatch q)
  tbls := fun c ps e => by
    obtain ⟨m, q⟩ := u.tbls c ps (a.keeps e (fun _ q => nomatch q) (fun _ q => nomatch q))
    exact ⟨m, b.keeps q (fun _ q => nomatch q) (fun _ q => nomatch q)⟩
theorem retell {k : Nat} {f : Addr} {fd : FuncData} {ps : List Str} {sp spX : Sp} (F : FnOk P w K mg base CX0 k f fd ps sp) (len : ∀ vs H Q E, spX vs H Q E → vs.length = ps.length)
    (h : ∀ vs H Q E g, spX vs H Q E → HOk P w H g → ∃ H1, Tw H H1 ∧ HOk P w H1 g ∧ sp vs H1 (fun v H' => ∀ g', HOk P w H' g' → ∃ H2, Tw H' H2 ∧ HOk P w H2 g' ∧ Q v H2) E) : FnOk P w K mg base CX0 k f fd ps spX := by
  refine ⟨len, fun A outer s H args us vs Q E hr he hb hv hs => ?_⟩
  obtain ⟨H1, t1, ok1, hs1⟩ := h vs H Q E s.heap hs he.hok
  refine codeAny_mono (F.run A outer s H1 args us vs _ E hr ⟨he.frames, he.mod, fun b o e => ⟨(he.bs b o e).1, t1.none (he.bs b o e).2⟩, he.bsz, he.funs, fun b hb => t1.none (he.frf b hb), ok1, he.bare⟩ hb hv hs1) fun r s' hq => ?_
  match r, hq with
  | .ok (.ret u), ⟨v, H', os, bare, un, hok, rv, q⟩ =>
    obtain ⟨H2, t2, ok2, q2⟩ := q s'.heap hok
    exact ⟨v, H2, os, bare, un_two un t1 t2, ok2, rv, q2⟩
theorem hok_shut {H : Hp} {g : Heap} {a : Addr} {xs : List V} {φ : Heap → Prop} (ok : HOk P w H g) (e : H a = some (.lst xs)) (p : φ g) (st : ∀ h1 h2 : Heap, φ h1 → (∀ o, h1.get? a = some o → h2.get? a = some o) → φ h2) : HOk P w (upd H a (.ext φ)) g := by
  obtain ⟨_, its, n, _, ho⟩ := (show ObjOk P w H g a (.lst xs) from ok a _ e)
  exact ok.write (by rw [e]; trivial) (.inl rfl) (fun _ _ _ q => q) ⟨_, ho⟩ ⟨p, ⟨_, ho⟩, st⟩
theorem hok_open {H : Hp} {g : Heap} {a : Addr} {xs : List V} {φ : Heap → Prop} (ok : HOk P w H g) (e : H a = some (.ext φ)) (hz : xs.length ≤ sizeLine) {its : List Value} {n : Nat} (r : Vals xs its) (ho : g.get? a = some { cls := .type "list", data := .seq its.toArray n }) :
    HOk P w (upd H a (.lst xs)) g :=
  ok.write (by rw [e]; trivial) (.inl rfl) (fun _ _ _ q => q) ⟨_, ho⟩ ⟨hz, its, n, r, ho⟩
end
/-! ### the hand of the draws -/
def hv (la : Addr) (t r z : Int) : List V := [.ref la, .int t, .int r, .int z]
def HandOk (n : Nat) (t r z : Int) : Prop := 0 ≤ t ∧ t ≤ n ∧ 0 ≤ r ∧ 0 ≤ z ∧ z < 2147483629
def handPhi (ha la : Addr) (n : Nat) (h : Heap) : Prop := ∃ (t r z : Int) (its : List Value) (c : Nat), HandOk n t r z ∧ Vals (hv la t r z) its ∧ h.get? ha = some { cls := .type "list", data := .seq its.toArray c }
theorem handPhi_stays (ha la : Addr) (n : Nat) (h1 h2 : Heap) (p : handPhi ha la n h1) (k : ∀ o, h1.get? ha = some o → h2.get? ha = some o) : handPhi ha la n h2 :=
  let ⟨t, r, z, its, c, a, b, e⟩ := p
  ⟨t, r, z, its, c, a, b, k _ e⟩
def HandAt (H : Hp) (ha : Addr) : Prop := ∃ (la : Addr) (cs : List Int), la ≠ ha ∧ H la = some (.lst (cs.map V.int)) ∧ (∀ c, c ∈ cs → 0 ≤ c) ∧ cs.length ≤ 63 ∧ H ha = some (.ext (handPhi ha la cs.length))
theorem HandAt.ex {H H' : Hp} {ha : Addr} (h : HandAt H ha) (e : Ex H H') : HandAt H' ha :=
  let ⟨la, cs, n, a, b, c, d⟩ := h
  ⟨la, cs, n, e _ _ a, b, c, e _ _ d⟩
/-- the hand as a list: its promise, and the promise of one that keeps the hand shut -/
def spDrawL : Sp := fun vs H Q _ => ∃ (ha la : Addr) (many t r z : Int) (cs : List Int), vs = [.ref ha, .int many] ∧ 1 ≤ many ∧ many ≤ 1000 ∧ la ≠ ha ∧ H la = some (.lst (cs.map V.int)) ∧ (∀ c, c ∈ cs → 0 ≤ c) ∧ cs.length ≤ 63 ∧
  HandOk cs.length t r z ∧ H ha = some (.lst (hv la t r z)) ∧
  ∀ (v t' r' z' : Int) (H' : Hp), 0 ≤ v → v < many → HandOk cs.length t' r' z' → (∀ b o, b ≠ ha → H b = some o → H' b = some o) → H' ha = some (.lst (hv la t' r' z')) → Q (.int v) H'
def spDraw : Sp := fun vs H Q _ => ∃ (ha : Addr) (many : Int), vs = [.ref ha, .int many] ∧ 1 ≤ many ∧ many ≤ 1000 ∧ HandAt H ha ∧ ∀ (v : Int) (H' : Hp), 0 ≤ v → v < many → Ex H H' → Q (.int v) H'
section
variable {P : Program} {w : World} {K : PySem.W.Frag} {mg : Str → Option Value} {base : Heap}
theorem draw_shut {k : Nat} {f : Addr} {fd : FuncData} {ps : List Str} (F : FnOk P w K mg base CX0 k f fd ps spDrawL) (hl : ps.length = 2) : FnOk P w K mg base CX0 k f fd ps spDraw := by
  refine retell F (fun vs H Q E h => ?_) (fun vs H Q E g h ok => ?_)
  · obtain ⟨ha, many, rfl, _⟩ := h
    exact hl.symm
  · obtain ⟨ha, many, rfl, m1, m2, ⟨la, cs, hne, hla, hc, hn, hha⟩, q⟩ := h
    obtain ⟨⟨t, r, z, its, c, hk, rv, ho⟩, _, _⟩ := (show ObjOk P w H g ha (.ext (handPhi ha la cs.length)) from ok ha _ hha)
    refine ⟨upd H ha (.lst (hv la t r z)), Tw.upd (by rw [hha]; exact .open_ _ _), hok_open ok hha (by show 4 ≤ sizeLine; decide) rv ho, ha, la, many, t, r, z, cs, rfl, m1, m2, hne, by rw [upd_ne hne]; exact hla, hc, hn, hk, upd_same, ?_⟩
    intro v t' r' z' H' v0 v1 hk' hkeep hha' g' ok'
    obtain ⟨_, its', c', rv', ho'⟩ := (show ObjOk P w H' g' ha (.lst (hv la t' r' z')) from ok' ha _ hha')
    refine ⟨upd H' ha (.ext (handPhi ha la cs.length)), Tw.upd (by rw [hha']; exact .shut _ _), hok_shut ok' hha' ⟨t', r', z', its', c', hk', rv', ho'⟩ (handPhi_stays ha la cs.length), q v _ v0 v1 fun b o e => ?_⟩
    by_cases eb : b = ha
    · subst eb
      rw [hha] at e
      cases e
      exact upd_same
    · rw [upd_ne eb]
      exact hkeep b o eb (by rw [upd_ne eb]; exact e)
def spHandL (K : PySem.W.Frag) : Sp := fun vs H Q _ => ∃ (a : Addr) (ns : List Int), vs = [.ref a] ∧ SqL K H a (ns.map V.int) ∧ ns.length ≤ 63 ∧
  ∀ (ha la : Addr) (z : Int) (cs : List Int) (H' : Hp), H ha = none → la ≠ ha → Ex H H' → H' la = some (.lst (cs.map V.int)) → (∀ c, c ∈ cs → 0 ≤ c) → cs.length ≤ 63 → 0 ≤ z → z < 2147483629 → H' ha = some (.lst (hv la 0 0 z)) → Q (.ref ha) H'
def spHand (K : PySem.W.Frag) : Sp := fun vs H Q _ => ∃ (a : Addr) (ns : List Int), vs = [.ref a] ∧ SqL K H a (ns.map V.int) ∧ ns.length ≤ 63 ∧ ∀ (ha : Addr) (H' : Hp), Ex H H' → HandAt H' ha → Q (.ref ha) H'
theorem hand_shut {k : Nat} {f : Addr} {fd : FuncData} {ps : List Str} (F : FnOk P w K mg base CX0 k f fd ps (spHandL K)) (hl : ps.length = 1) : FnOk P w K mg base CX0 k f fd ps (spHand K) := by
  refine retell F (fun vs H Q E h => ?_) (fun vs H Q E g h ok => ?_)
  · obtain ⟨a, ns, rfl, _⟩ := h
    exact hl.symm
  · obtain ⟨a, ns, rfl, hS, hn, q⟩ := h
    refine ⟨H, fun b => .same _, ok, a, ns, rfl, hS, hn, ?_⟩
    intro ha la z cs H' hf hne e hla hc hcn z0 z1 hha g' ok'
    obtain ⟨_, its', c', rv', ho'⟩ := (show ObjOk P w H' g' ha (.lst (hv la 0 0 z)) from ok' ha _ hha)
    refine ⟨upd H' ha (.ext (handPhi ha la cs.length)), Tw.upd (by rw [hha]; exact .shut _ _), hok_shut ok' hha ⟨0, 0, z, its', c', ⟨by omega, by omega, by omega, z0, z1⟩, rv', ho'⟩ (handPhi_stays ha la cs.length), q ha _ (e.mut hf) ⟨la, cs, hne, by rw [upd_ne hne]; exact hla, hc, hcn, upd_same⟩⟩
end
/-! ### data -/
/-- numbers as values -/
def iv (ns : List Nat) : List V := ns.map fun n : Nat => V.int (n : Int)
theorem iv_len (ns : List Nat) : (iv ns).length = ns.length := by unfold iv; rw [List.length_map]
theorem iv_get {ns : List Nat} {i : Nat} {n : Nat} (h : ns[i]? = some n) : (iv ns)[i]? = some (.int (n : Int)) := by unfold iv; rw [List.getElem?_map, h]; rfl
theorem iv_of {ns : List Nat} {i : Nat} {v : V} (h : (iv ns)[i]? = some v) : ∃ n : Nat, ns[i]? = some n ∧ v = .int (n : Int) := by
  unfold iv at h
  rw [List.getElem?_map] at h
  cases e : ns[i]? with
  | none => rw [e] at h; cases h
  | some n => rw [e] at h; exact ⟨n, rfl, (Option.some.inj h).symm⟩
theorem iv_flat (ns : List Nat) : (iv ns).all flatV = true := by
  unfold iv
  rw [List.all_map, List.all_eq_true]
  intro x _
  rfl
theorem iv_ints (ns : List Nat) : iv ns = (ns.map fun n : Nat => (n : Int)).map V.int := by unfold iv; rw [List.map_map]; rfl
theorem iv_app (a b : List Nat) : iv (a ++ b) = iv a ++ iv b := by unfold iv; rw [List.map_append]
theorem inV_iv {b : Nat} {ns : List Nat} : inV (.int (b : Int)) (iv ns) = decide (b ∈ ns) := by
  unfold inV iv
  rw [List.any_map]
  induction ns with
  | nil => rfl
  | cons x r ih =>
    rw [List.any_cons, ih]
    have e : (((fun y => eqV y (V.int (b : Int))) ∘ fun n : Nat => V.int (n : Int)) x) = decide (b = x) := by
      show eqV (V.int (x : Int)) (V.int (b : Int)) = decide (b = x)
      unfold eqV
      by_cases h : b = x
      · subst h; simp
      · have h2 : ¬ ((x : Int) = (b : Int)) := by omega
        simp [h, h2]
    rw [e]
    by_cases h : b = x <;> simp [h]
/-- a tuple of numbers -/
def IT (H : Hp) (x : V) (ns : List Nat) : Prop := ∃ a, x = .ref a ∧ H a = some (.tup (iv ns))
theorem IT.ex {H H' : Hp} {x : V} {ns : List Nat} (h : IT H x ns) (e : Ex H H') : IT H' x ns := let ⟨a, q, r⟩ := h; ⟨a, q, e _ _ r⟩
theorem IT.upd {H : Hp} {x : V} {ns : List Nat} {l : Addr} {xs : List V} {o : HO} (h : IT H x ns) (hl : H l = some (.lst xs)) : IT (upd H l o) x ns := by
  obtain ⟨a, q, r⟩ := h
  refine ⟨a, q, ?_⟩
  rw [upd_ne (ne_of r hl (by intro z; cases z))]
  exact r
/-- several of them -/
def ITs (H : Hp) (xs : List V) (nss : List (List Nat)) : Prop := xs.length = nss.length ∧ ∀ (i : Nat) x ns, xs[i]? = some x → nss[i]? = some ns → IT H x ns
theorem ITs.ex {H H' : Hp} {xs : List V} {nss : List (List Nat)} (h : ITs H xs nss) (e : Ex H H') : ITs H' xs nss := ⟨h.1, fun i x ns a b => (h.2 i x ns a b).ex e⟩
theorem ITs.upd {H : Hp} {xs : List V} {nss : List (List Nat)} {l : Addr} {ys : List V} {o : HO} (h : ITs H xs nss) (hl : H l = some (.lst ys)) : ITs (upd H l o) xs nss := ⟨h.1, fun i x ns a b => (h.2 i x ns a b).upd hl⟩
theorem ITs.nil {H : Hp} : ITs H [] [] := ⟨rfl, fun i x ns a => by simp at a⟩
theorem ITs.snoc {H : Hp} {xs : List V} {nss : List (List Nat)} {x : V} {ns : List Nat} (h : ITs H xs nss) (hx : IT H x ns) : ITs H (xs ++ [x]) (nss ++ [ns]) := by
  refine ⟨by rw [List.length_append, List.length_append, h.1]; rfl, fun i y ms a b => ?_⟩
  by_cases hi : i < xs.length
  · rw [List.getElem?_append_left hi] at a
    rw [List.getElem?_append_left (by rw [← h.1]; exact hi)] at b
    exact h.2 i y ms a b
  · rw [List.getElem?_append_right (by omega)] at a
    rw [List.getElem?_append_right (by rw [← h.1]; omega)] at b
    have e : i = xs.length := by
      have q := (List.getElem?_eq_some_iff.mp a).1
      simp only [List.length_singleton] at q
      omega
    rw [e, Nat.sub_self] at a
    rw [e, h.1, Nat.sub_self] at b
    cases a
    cases b
    exact hx
theorem ITs.get {H : Hp} {xs : List V} {nss : List (List Nat)} {i : Nat} {x : V} (h : ITs H xs nss) (a : xs[i]? = some x) : ∃ ns, nss[i]? = some ns ∧ IT H x ns := by
  have q := (List.getElem?_eq_some_iff.mp a).1
  rw [h.1] at q
  exact ⟨nss[i], List.getElem?_eq_getElem q, h.2 i x _ a (List.getElem?_eq_getElem q)⟩
theorem ITs.at {H : Hp} {xs : List V} {nss : List (List Nat)} {i : Nat} {ns : List Nat} (h : ITs H xs nss) (b : nss[i]? = some ns) : ∃ x, xs[i]? = some x ∧ IT H x ns := by
  have q := (List.getElem?_eq_some_iff.mp b).1
  rw [← h.1] at q
  exact ⟨xs[i], List.getElem?_eq_getElem q, h.2 i _ ns (List.getElem?_eq_getElem q) b⟩
/-- as deep data -/
def dT (ns : List Nat) : PyData := .tuple (ns.map fun n : Nat => .int (n : Int))
theorem dp_ints {K : PySem.W.Frag} {H : Hp} : ∀ ns : List Nat, DpAll K H (iv ns) (ns.map fun n : Nat => .int (n : Int))
  | [] => .nil
  | n :: r => .cons (.int n) (dp_ints r)
theorem IT.dp {K : PySem.W.Frag} {H : Hp} {x : V} {ns : List Nat} (h : IT H x ns) : Dp K H x (dT ns) := by
  obtain ⟨a, rfl, e⟩ := h
  exact .tup (SqT.of e) (dp_ints ns)
theorem ITs.dp {K : PySem.W.Frag} {H : Hp} : ∀ {xs : List V} {nss : List (List Nat)}, ITs H xs nss → DpAll K H xs (nss.map dT)
  | [], [], _ => .nil
  | [], _ :: _, h => by have := h.1; simp at this
  | _ :: _, [], h => by have := h.1; simp at this
  | x :: xs, ns :: nss, h => .cons (h.2 0 x ns rfl rfl).dp (ITs.dp ⟨by have := h.1; simpa using this, fun i y ms a b => h.2 (i + 1) y ms (by simpa using a) (by simpa using b)⟩)
theorem lay_ints : ∀ ns : List Nat, PyData.canLayAll0 (ns.map fun n : Nat => PyData.int (n : Int)) = true ∧ PyData.depthAll (ns.map fun n : Nat => PyData.int (n : Int)) ≤ 1
  | [] => ⟨rfl, by simp [PyData.depthAll]⟩
  | n :: r => by
    obtain ⟨a, b⟩ := lay_ints r
    refine ⟨by simp [PyData.canLayAll0, PyData.canLay0, a], ?_⟩
    simp only [List.map_cons, PyData.depthAll, PyData.depth]
    omega
theorem lay_dT (ns : List Nat) : (dT ns).canLay0 = true ∧ (dT ns).depth ≤ 2 := by
  obtain ⟨a, b⟩ := lay_ints ns
  refine ⟨by simpa [dT, PyData.canLay0] using a, ?_⟩
  simp only [dT, PyData.depth]
  omega
theorem lay_dTs : ∀ nss : List (List Nat), PyData.canLayAll0 (nss.map dT) = true ∧ PyData.depthAll (nss.map dT) ≤ 2
  | [] => ⟨rfl, by simp [PyData.depthAll]⟩
  | ns :: r => by
    obtain ⟨a, b⟩ := lay_dTs r
    obtain ⟨c, d⟩ := lay_dT ns
    refine ⟨by simp [PyData.canLayAll0, c, a], ?_⟩
    simp only [List.map_cons, PyData.depthAll]
    omega
theorem shaped_list (nss : List (List Nat)) : SeqAt.shaped (.list (nss.map dT)) = true := by
  obtain ⟨a, b⟩ := lay_dTs nss
  unfold SeqAt.shaped
  refine Bool.and_eq_true_iff.mpr ⟨by simpa [PyData.canLay0] using a, decide_eq_true ?_⟩
  simp only [PyData.depth]
  omega
theorem shaped_tuple (nss : List (List Nat)) : SeqAt.shaped (.tuple (nss.map dT)) = true := by
  obtain ⟨a, b⟩ := lay_dTs nss
  unfold SeqAt.shaped
  refine Bool.and_eq_true_iff.mpr ⟨by simpa [PyData.canLay0] using a, decide_eq_true ?_⟩
  simp only [PyData.depth]
  omega
theorem refl_list (nss : List (List Nat)) : PyData.eqv (.list (nss.map dT)) (.list (nss.map dT)) = true := SeqAt.eqv_refl _ (SeqAt.canLay_of_shaped (shaped_list nss))
theorem refl_tuple (nss : List (List Nat)) : PyData.eqv (.tuple (nss.map dT)) (.tuple (nss.map dT)) = true := SeqAt.eqv_refl _ (SeqAt.canLay_of_shaped (shaped_tuple nss))
/-- a code object -/
def cf (n : Nat) (t : Addr) : List (Str × V) := [("bits", .int (n : Int)), ("checks", .ref t)]
def CodeAt (C : Addr) (H : Hp) (x : V) (n : Nat) (cs : List (List Nat)) : Prop := ∃ (p dx t : Addr) (xs : List V), x = .ref p ∧ H p = some (.ins C dx (cf n t)) ∧ H t = some (.tup xs) ∧ ITs H xs cs
theorem CodeAt.ex {C : Addr} {H H' : Hp} {x : V} {n : Nat} {cs : List (List Nat)} (h : CodeAt C H x n cs) (e : Ex H H') : CodeAt C H' x n cs :=
  let ⟨p, dx, t, xs, a, b, c, d⟩ := h
  ⟨p, dx, t, xs, a, e _ _ b, e _ _ c, d.ex e⟩
/-! ### reading -/
theorem fresh_ne {H H' : Hp} {a p : Addr} {o : HO} (e : H a = some o) (x : Ex H H') (h : H' p = none) : a ≠ p := ne_of_none (x a o e) h
theorem at_nat {xs : List V} {j : Nat} {v : V} (h : xs[j]? = some v) : atI xs (j : Int) = some v := atI_nat h
end Kb

namespace Kc
open PySem PySem.Spec PyProof.Rows L2 Evl Km Kr Kb
/-! ### the text by places -/
def top (i : Nat) : Stmt := PySem.Challenge.pw_letbychecks_k80_whole_pieces_and_rings_o.main.body.getD i (.Pass ⟨0, 0, 0, 0⟩)
abbrev s_is_whole : Stmt := top 4
abbrev s_is_sequence : Stmt := top 5
abbrev s_code_pieces : Stmt := top 7
abbrev s_path_between : Stmt := top 8
abbrev s_web_ring : Stmt := top 9
abbrev s_ring_fault : Stmt := top 10
abbrev s_lot_of : Stmt := top 14
abbrev s_Code_init : Stmt := inClass (top 15) 0
abbrev s__law_stir : Stmt := top 17
abbrev s__law_hand : Stmt := top 18
abbrev s__law_draw : Stmt := top 19
abbrev s__law_whole : Stmt := top 20
abbrev s__law_wholes : Stmt := top 21
abbrev s__law_lot : Stmt := top 22
abbrev s__law_free_checks : Stmt := top 23
abbrev s__law_tie_checks : Stmt := top 24
abbrev s__law_ringless_checks : Stmt := top 25
abbrev s__law_code : Stmt := top 26
abbrev s__law_made : Stmt := top 27
abbrev s__law_pieces : Stmt := top 28
abbrev s__law_fault : Stmt := top 29
abbrev s__law_judged : Stmt := top 30
abbrev s__law_spoilt_rings : Stmt := top 31
abbrev s_law : Stmt := top 32
theorem sc_is_whole : FnScope ["thing", "low", "high"] ["thing", "low", "high"] (defScope s_is_whole) := ⟨rfl, rfl, rfl, by decide +kernel, rfl, by decide +kernel, by decide +kernel⟩
theorem sc_is_sequence : FnScope ["thing"] ["thing"] (defScope s_is_sequence) := ⟨rfl, rfl, rfl, by decide +kernel, rfl, by decide +kernel, by decide +kernel⟩
theorem sc_code_pieces : FnScope ["code", "label", "lot", "names", "least", "bit", "name"] ["code"] (defScope s_code_pieces) := ⟨rfl, rfl, rfl, by decide +kernel, rfl, by decide +kernel, by decide +kernel⟩
theorem sc_path_between : FnScope ["code", "many", "start", "goal", "paths", "wave", "further", "bit", "number", "other"] ["code", "many", "start", "goal"] (defScope s_path_between) := ⟨rfl, rfl, rfl, by decide +kernel, rfl, by decide +kernel, by decide +kernel⟩
theorem sc_web_ring : FnScope ["code", "label", "number", "lot", "names", "place", "bit", "other", "name"] ["code"] (defScope s_web_ring) := ⟨rfl, rfl, rfl, by decide +kernel, rfl, by decide +kernel, by decide +kernel⟩
theorem sc_ring_fault : FnScope ["code", "ring", "place", "thing", "most", "at", "lot"] ["code", "ring"] (defScope s_ring_fault) := ⟨rfl, rfl, rfl, by decide +kernel, rfl, by decide +kernel, by decide +kernel⟩
theorem sc_lot_of : FnScope ["bits", "things", "place", "thing"] ["bits", "things"] (defScope s_lot_of) := ⟨rfl, rfl, rfl, by decide +kernel, rfl, by decide +kernel, by decide +kernel⟩
theorem sc_Code_init : FnScope ["self", "bits", "checks", "rows", "number", "things", "row"] ["self", "bits", "checks"] (defScope s_Code_init) := ⟨rfl, rfl, rfl, by decide +kernel, rfl, by decide +kernel, by decide +kernel⟩
theorem sc__law_stir : FnScope ["_law_number", "_law_turn", "_law_once", "_law_twice"] ["_law_number", "_law_turn"] (defScope s__law_stir) := ⟨rfl, rfl, rfl, by decide +kernel, rfl, by decide +kernel, by decide +kernel⟩
theorem sc__law_hand : FnScope ["_law_script", "_law_state", "_law_place", "_law_cell"] ["_law_script"] (defScope s__law_hand) := ⟨rfl, rfl, rfl, by decide +kernel, rfl, by decide +kernel, by decide +kernel⟩
theorem sc__law_draw : FnScope ["_law_hand_here", "_law_many", "_law_cell", "_law_rest"] ["_law_hand_here", "_law_many"] (defScope s__law_draw) := ⟨rfl, rfl, rfl, by decide +kernel, rfl, by decide +kernel, by decide +kernel⟩
theorem sc__law_whole : FnScope ["_law_thing"] ["_law_thing"] (defScope s__law_whole) := ⟨rfl, rfl, rfl, by decide +kernel, rfl, by decide +kernel, by decide +kernel⟩
theorem sc__law_wholes : FnScope ["_law_thing", "_law_many", "_law_part"] ["_law_thing", "_law_many"] (defScope s__law_wholes) := ⟨rfl, rfl, rfl, by decide +kernel, rfl, by decide +kernel, by decide +kernel⟩
theorem sc__law_lot : FnScope ["_law_hand_here", "_law_bits", "_law_size", "_law_pool", "_law_out", "_law_k"] ["_law_hand_here", "_law_bits", "_law_size"] (defScope s__law_lot) := ⟨rfl, rfl, rfl, by decide +kernel, rfl, by decide +kernel, by decide +kernel⟩
theorem sc__law_free_checks : FnScope ["_law_hand_here", "_law_bits", "_law_many", "_law_widest", "_law_out", "_law_k", "_law_pick", "_law_size"] ["_law_hand_here", "_law_bits", "_law_many", "_law_widest"] (defScope s__law_free_checks) := ⟨rfl, rfl, rfl, by decide +kernel, rfl, by decide +kernel, by decide +kernel⟩
theorem sc__law_tie_checks : FnScope ["_law_hand_here", "_law_bits", "_law_posts", "_law_ends", "_law_bit", "_law_low", "_law_high", "_law_rows", "_law_post", "_law_row"] ["_law_hand_here", "_law_bits", "_law_posts"] (defScope s__law_tie_checks) := ⟨rfl, rfl, rfl, by decide +kernel, rfl, by decide +kernel, by decide +kernel⟩
theorem sc__law_ringless_checks : FnScope ["_law_hand_here", "_law_bits", "_law_widest", "_law_out", "_law_reached", "_law_k", "_law_old", "_law_size", "_law_fresh"] ["_law_hand_here", "_law_bits", "_law_widest"] (defScope s__law_ringless_checks) := ⟨rfl, rfl, rfl, by decide +kernel, rfl, by decide +kernel, by decide +kernel⟩
theorem sc__law_code : FnScope ["_law_hand_here", "_law_low", "_law_high", "_law_widest", "_law_bits", "_law_pick"] ["_law_hand_here", "_law_low", "_law_high", "_law_widest"] (defScope s__law_code) := ⟨rfl, rfl, rfl, by decide +kernel, rfl, by decide +kernel, by decide +kernel⟩
theorem sc__law_made : FnScope ["_law_bits", "_law_checks", "_law_lot_here"] ["_law_bits", "_law_checks"] (defScope s__law_made) := ⟨rfl, rfl, rfl, by decide +kernel, rfl, by decide +kernel, by decide +kernel⟩
theorem sc__law_pieces : FnScope ["_law_bits", "_law_checks", "_law_out", "_law_bit", "_law_piece", "_law_turn", "_law_lot_here", "_law_other"] ["_law_bits", "_law_checks"] (defScope s__law_pieces) := ⟨rfl, rfl, rfl, by decide +kernel, rfl, by decide +kernel, by decide +kernel⟩
theorem sc__law_fault : FnScope ["_law_bits", "_law_checks", "_law_ring", "_law_at", "_law_thing", "_law_most", "_law_half", "_law_k", "_law_j", "_law_lot_here"] ["_law_bits", "_law_checks", "_law_ring"] (defScope s__law_fault) := ⟨rfl, rfl, rfl, by decide +kernel, rfl, by decide +kernel, by decide +kernel⟩
theorem sc__law_judged : FnScope ["_law_code_here", "_law_bits", "_law_checks", "_law_ring", "_law_told", "_law_due"] ["_law_code_here", "_law_bits", "_law_checks", "_law_ring"] (defScope s__law_judged) := ⟨rfl, rfl, rfl, by decide +kernel, rfl, by decide +kernel, by decide +kernel⟩
theorem sc__law_spoilt_rings : FnScope ["_law_hand_here", "_law_bits", "_law_checks", "_law_ring", "_law_out", "_law_changed", "_law_at"] ["_law_hand_here", "_law_bits", "_law_checks", "_law_ring"] (defScope s__law_spoilt_rings) := ⟨rfl, rfl, rfl, by decide +kernel, rfl, by decide +kernel, by decide +kernel⟩
theorem sc_law : FnScope ["_law_script", "_law_hand_here", "_law_bits", "_law_checks", "_law_code_here", "_law_pieces_here", "_law_told", "_law_piece", "_law_links", "_law_lot_here", "_law_ring", "_law_walks", "_law_walk", "_law_thing"] ["_law_script"] (defScope s_law) := ⟨rfl, rfl, rfl, by decide +kernel, rfl, by decide +kernel, by decide +kernel⟩
/-! ### what the module's names hold -/
structure Bt (K : PySem.W.Frag) (mg : Str → Option Value) (C fI : Addr) : Prop where
  zlen : mg "len" = none
  zisinstance : mg "isinstance" = none
  zmin : mg "min" = none
  zmax : mg "max" = none
  zsum : mg "sum" = none
  zany : mg "any" = none
  zall : mg "all" = none
  zsorted : mg "sorted" = none
  zabs : mg "abs" = none
  zint : mg "int" = none
  zlist : mg "list" = none
  ztuple : mg "tuple" = none
  zset : mg "set" = none
  zbool : mg "bool" = none
  zstr : mg "str" = none
  zrange : mg "range" = none
  zenumerate : mg "enumerate" = none
  zreversed : mg "reversed" = none
  cMOST_BITS : ∃ t, mg "MOST_BITS" = some (.int 10 t)
  cMOST_CHECKS : ∃ t, mg "MOST_CHECKS" = some (.int 63 t)
  mgCode : mg "Code" = some (.ref C)
  cl : Cls K C
  nB : NoAttr K C "bits"
  nC : NoAttr K C "checks"
  mkCode : Mk K C fI
/-- a def of the module that keeps its promise, as a caller takes it -/
def Cal (P : Program) (w : World) (K : PySem.W.Frag) (mg : Str → Option Value) (base : Heap) (x : Str) (k : Nat) (ps : List Str) (sp : Sp) : Prop :=
  ∃ (f : Addr) (fd : FuncData), FnOk P w K mg base CX0 k f fd ps sp ∧ mg x = some (.ref f) ∧ PySem.W.keepIn K (.ref f) = true ∧ Binds K fd ps []
section
variable {X : Cx} {x : Str} {k : Nat} {ps : List Str} {sp : Sp} {p pos : Pos} {e : Expr} {es : List Expr} {t : TA}
theorem pe_cal (c : Cal X.prog X.w X.K X.mg X.base x k ps sp) (hr : Room k X.A) (hg : Gl X x) (ha : PA X (e :: es) t) (hdb : (x == ("__debug__" : Str)) = false := by decide)
    (he : starEach (e :: es) X.env = (false, eval e X.env) :: starEach es X.env := by rfl) (hpl : (backTo pos (starEach es X.env)).any (·.1) = false := by rfl) : PE X (.Call (.Name x p) (e :: es) [] pos) (tCall sp [] E0 t) := by
  obtain ⟨f, fd, F, hm, hk, hb⟩ := c
  exact pe_call F hr hg hm hk hb .nil pass0 ha hdb he hpl
theorem pe_num {i : Int} (hg : Gl X x) (h : ∃ t, X.mg x = some (.int i t)) (hd : (x == ("__debug__" : Str)) = false := by decide) : PE X (.Name x p) (tC (.int i)) := by
  obtain ⟨t, h⟩ := h
  exact pe_glob hg h ⟨_, rfl⟩ hd
end
/-! ### rules whose reading names the written part (as a comprehension's block wants them) -/
section
variable {X : Cx} (K : PySem.W.Frag)
def rTupOf (K : PySem.W.Frag) : List V → Hp → VK → Prop := fun xs H Q => ∃ p ys, xs = [.ref p] ∧ ((SqL K H p ys ∧ ∀ l, H l = none → Q (.ref l) (upd H l (.tup ys))) ∨ (SqT K H p ys ∧ Q (.ref p) H))
theorem kLen (h : X.K = K) : CallR X (.builtin "len") (rLenS K) := h ▸ call_len_seq
theorem kLst (h : X.K = K) : CallR X (.type "list") (rListS K) := h ▸ call_list_of
theorem kTuple (h : X.K = K) : CallR X (.type "tuple") (rTupOf K) := h ▸ call_tuple_of
theorem kIsi (h : X.K = K) : CallR X (.builtin "isinstance") (rIsi K) := h ▸ call_isi
theorem kIsiT (h : X.K = K) : CallR X (.builtin "isinstance") (rIsiT K) := h ▸ call_isiT
theorem kIxL (h : X.K = K) : IxR X (rIxL K) := h ▸ ix_list
theorem kIxT (h : X.K = K) : IxR X (rIxT K) := h ▸ ix_tup
theorem kIxLT (h : X.K = K) : IxR X (fun x y H Q => rIxL K x y H Q ∨ rIxT K x y H Q) := fun a b pins s σ H x y u v Q I rx ry q e => q.elim (fun q => kIxL K h a b pins s σ H x y u v Q I rx ry q e) fun q => kIxT K h a b pins s σ H x y u v Q I rx ry q e
theorem kIn (h : X.K = K) : OpR X (compareOp .In) (rIn K false) := h ▸ op_in_seq
theorem kNotIn (h : X.K = K) : OpR X (compareOp .NotIn) (rIn K true) := h ▸ op_notIn_seq
theorem kFld {e : Expr} {te : TE} {f : Str} {pos : Pos} (h : X.K = K) (he : PE X e te) (hb : attributeBase e f X.env (eval e X.env) = eval e X.env) : PE X (.Attribute e f pos) (tFld K te f) := h ▸ pe_fld he hb
end
/-- a comprehension without a test; one with a test that is told -/
theorem lc_yes {te : TE} {σ : L2.St} {H : Hp} {k : V → Hp → Prop} {N : Hp → Prop} (h : te σ H k) : tYes σ H fun b H3 => if b = true then te σ H3 k else N H3 := h
theorem map_of {α : Type} {g : α → V} {ns : List α} {i : Nat} {v : V} (h : (ns.map g)[i]? = some v) : ∃ n, ns[i]? = some n ∧ v = g n := by
  rw [List.getElem?_map] at h
  cases e : ns[i]? with
  | none => rw [e] at h; cases h
  | some n => rw [e] at h; exact ⟨n, rfl, (Option.some.inj h).symm⟩
end Kc

namespace Kd
open PySem PySem.Spec PyProof.Rows L2 Evl Km Kr Kb Kc
section
variable {P : Program} {w : World} {K : PySem.W.Frag} {mg : Str → Option Value} {base : Heap} {C fI : Addr}
/-! ### is_sequence -/
inductive Sq (H : Hp) : V → Bool → Prop where
  | lst {a : Addr} {xs : List V} (e : H a = some (.lst xs)) : Sq H (.ref a) true
  | tup {a : Addr} {xs : List V} (e : H a = some (.tup xs)) : Sq H (.ref a) true
  | non : Sq H .non false
  | str (x : Str) : Sq H (.str x) false
  | int (i : Int) : Sq H (.int i) false
def spIsSeq : Sp := fun vs H Q _ => ∃ (x : V) (b : Bool), vs = [x] ∧ Sq H x b ∧ ∀ H', Ex H H' → Q (.bl b) H'
theorem kit_seq {t : String} {b : Bool} (h1 : kitB t "list" = some b ∨ (kitB t "list" = some false ∧ kitB t "tuple" = some b)) (h2 : b = false → kitB t "tuple" = some false) : PySem.W.kitAny K (.type t) [.type "list", .type "tuple"] = some b := by
  rcases h1 with h1 | ⟨h1, h3⟩
  · refine kitAny_cons (kit_ty h1) (fun e => ?_) (fun e => e)
    subst e
    exact kitAny_cons (kit_ty (h2 rfl)) (fun _ => kitAny_nil) (fun z => nomatch z)
  · refine kitAny_cons (kit_ty h1) (fun _ => ?_) (fun z => nomatch z)
    exact kitAny_cons (kit_ty h3) (fun e => by rw [e]; exact kitAny_nil) (fun e => e)
theorem ok_is_sequence {f : Addr} {fd : FuncData} (F : Fun K "is_sequence" "is_sequence" s_is_sequence f fd) (B : Bt K mg C fI) : FnOk P w K mg base CX0 1 f fd ["thing"] spIsSeq := by
  refine F.ok sc_is_sequence (fun vs H Q E h => ?_) (fun cdv A outer s H vs Q E hr h => ?_)
  · obtain ⟨x, b, rfl, _⟩ := h
    rfl
  · obtain ⟨x, b, rfl, hx, q⟩ := h
    refine ⟨_, 
    (pss_one (ps_ret (pe_callB (kIsiT K rfl) (by rfl) B.zisinstance (by decide +kernel) (pa_cons (pv 0) (pa_cons (pe_tup (pa_cons (pe_bltn (v := .ty "list") (by rfl) B.zlist (by decide +kernel) rfl) (pa_cons (pe_bltn (v := .ty "tuple") (by rfl) B.ztuple (by decide +kernel) rfl) pa_nil))) pa_nil))))), ?_⟩
    refine ⟨_, rfl, by show 2 ≤ sizeLine; decide, fun p hp => ?_⟩
    have e := Ex.new (o := .tup [V.ty "list", V.ty "tuple"]) hp
    have go : ∀ t, TyX K (upd H p (.tup [V.ty "list", V.ty "tuple"])) x (.type t) → PySem.W.kitAny K (.type t) [.type "list", .type "tuple"] = some b → rIsiT K [x, .ref p] (upd H p (.tup [V.ty "list", V.ty "tuple"])) Q := fun t h1 h2 =>
      ⟨x, p, _, .type t, _, b, rfl, upd_same, .cons (.ty "list") (.cons (.ty "tuple") .nil), h1, h2, q _ e⟩
    cases hx with
    | lst h => exact go "list" (.base (.lst (e _ _ h))) (kit_seq (.inl (by decide +kernel)) (fun z => nomatch z))
    | tup h => exact go "tuple" (.base (.tup (e _ _ h))) (kit_seq (.inr ⟨by decide +kernel, by decide +kernel⟩) (fun z => nomatch z))
    | non => exact go "NoneType" (.base .non) (kit_seq (.inl (by decide +kernel)) (fun _ => by decide +kernel))
    | str z => exact go "str" (.base (.str z)) (kit_seq (.inl (by decide +kernel)) (fun _ => by decide +kernel))
    | int i => exact go "int" (.base (.int i)) (kit_seq (.inl (by decide +kernel)) (fun _ => by decide +kernel))
end
end Kd

namespace Kd
open PySem PySem.Spec PyProof.Rows L2 Evl Km Kr Kb Kc
section
variable {P : Program} {w : World} {K : PySem.W.Frag} {mg : Str → Option Value} {base : Heap} {C fI : Addr}
/-! ### is_whole -/
inductive Sc : V → Prop where
  | int (i : Int) : Sc (.int i)
  | bl (b : Bool) : Sc (.bl b)
  | non : Sc .non
def isW (x : V) (lo hi : Int) : Bool := match x with
  | .int i => decide (lo ≤ i) && decide (i ≤ hi)
  | _ => false
def spWhole : Sp := fun vs H Q _ => ∃ (x : V) (lo hi : Int), vs = [x, .int lo, .int hi] ∧ Sc x ∧ Q (.bl (isW x lo hi)) H
theorem isi_ty {H : Hp} {Q : VK} {x : V} {t c : String} {b : Bool} (ty : TyX K H x (.type t)) (h : kitB t c = some b) (q : Q (.bl b) H) : rIsi K [x, .ty c] H Q := ⟨x, .ty c, _, _, b, rfl, .ty c, ty, kit_ty h, q⟩
theorem ok_is_whole {f : Addr} {fd : FuncData} (F : FunD K "is_whole" "is_whole" (defArgs s_is_whole) (defBody s_is_whole) (defScope s_is_whole) [.non, .non] [] f fd) (B : Bt K mg C fI) : FnOk P w K mg base CX0 1 f fd ["thing", "low", "high"] spWhole := by
  refine F.ok sc_is_whole (fun vs H Q E h => ?_) (fun cdv A outer s H vs Q E hr h => ?_)
  · obtain ⟨x, lo, hi, rfl, _⟩ := h
    rfl
  · obtain ⟨x, lo, hi, rfl, hx, q⟩ := h
    refine ⟨_, 
    (pss_cons (ps_if (PW.pt (pw_or (pt_not (pt_val (pe_callB (kIsi K rfl) (by rfl) B.zisinstance (by decide +kernel) (pa_cons (pv 0) (pa_cons (pe_bltn (v := .ty "int") (by rfl) B.zint (by decide +kernel) rfl) pa_nil))))) (pw_or1 (pt_val (pe_callB (kIsi K rfl) (by rfl) B.zisinstance (by decide +kernel) (pa_cons (pv 0) (pa_cons (pe_bltn (v := .ty "bool") (by rfl) B.zbool (by decide +kernel) rfl) pa_nil))))))) 
      (pss_one (ps_ret pe_bl)) pss_nil) 
    (pss_cons (ps_if (PW.pt (pw_and (pt_cmpR op_notN (pv 1) pe_non (nomark _)) (pw_and1 (pt_cmpR op_lt (pv 0) (pv 1) (nomark _))))) 
      (pss_one (ps_ret pe_bl)) pss_nil) 
    (pss_one (ps_ret (pe_or (pe_cmpR op_isN (pv 2) pe_non (nomark _)) (pe_one (pe_cmpR op_le (pv 0) (pv 2) (nomark _)))))))), ?_⟩
    cases hx with
    | int i =>
      refine ⟨_, rfl, _, _, _, _, true, rfl, .ty "int", .base (.int i), kit_ty (by decide +kernel), true, rfl, iteF ⟨_, rfl, _, _, _, _, false, rfl, .ty "bool", .base (.int i), kit_ty (by decide +kernel), false, rfl, iteF ?_⟩⟩
      refine ⟨_, rfl, rfl, _, rfl, iteT ⟨_, rfl, _, rfl, _, _, rfl, rfl, _, rfl, ?_⟩⟩
      refine ite2 (fun hlt => ?_) (fun hlt => ?_)
      · have e : isW (.int i) lo hi = false := by
          have := of_decide_eq_true hlt
          simp only [isW]
          simp
          omega
        rw [e] at q
        exact q
      · refine ⟨_, rfl, rfl, _, rfl, iteF ⟨_, rfl, _, rfl, _, _, rfl, rfl, ?_⟩⟩
        have e : isW (.int i) lo hi = decide (i ≤ hi) := by
          have h2 : ¬ i < lo := fun z => hlt (decide_eq_true z)
          simp only [isW]
          rw [decide_eq_true (by omega), Bool.true_and]
        rw [e] at q
        exact q
    | bl b => exact ⟨_, rfl, _, _, _, _, true, rfl, .ty "int", .base (.bl b), kit_ty (by decide +kernel), true, rfl, iteF ⟨_, rfl, _, _, _, _, true, rfl, .ty "bool", .base (.bl b), kit_ty (by decide +kernel), true, rfl, q⟩⟩
    | non => exact ⟨_, rfl, _, _, _, _, false, rfl, .ty "int", .base .non, kit_ty (by decide +kernel), false, rfl, iteT q⟩
/-! ### _law_whole, _law_wholes, _law_stir -/
def isI (x : V) : Bool := match x with
  | .int _ => true
  | _ => false
def spLWhole : Sp := fun vs H Q _ => ∃ x : V, vs = [x] ∧ Sc x ∧ Q (.bl (isI x)) H
theorem ok_law_whole {f : Addr} {fd : FuncData} (F : Fun K "_law_whole" "_law_whole" s__law_whole f fd) (B : Bt K mg C fI) : FnOk P w K mg base CX0 1 f fd ["_law_thing"] spLWhole := by
  refine F.ok sc__law_whole (fun vs H Q E h => ?_) (fun cdv A outer s H vs Q E hr h => ?_)
  · obtain ⟨x, rfl, _⟩ := h
    rfl
  · obtain ⟨x, rfl, hx, q⟩ := h
    refine ⟨_, 
    (pss_one (ps_ret (pe_and (pe_callB (kIsi K rfl) (by rfl) B.zisinstance (by decide +kernel) (pa_cons (pv 0) (pa_cons (pe_bltn (v := .ty "int") (by rfl) B.zint (by decide +kernel) rfl) pa_nil))) (pe_one (pe_not (pe_callB (kIsi K rfl) (by rfl) B.zisinstance (by decide +kernel) (pa_cons (pv 0) (pa_cons (pe_bltn (v := .ty "bool") (by rfl) B.zbool (by decide +kernel) rfl) pa_nil)))))))), ?_⟩
    cases hx with
    | int i => exact ⟨_, rfl, _, _, _, _, true, rfl, .ty "int", .base (.int i), kit_ty (by decide +kernel), true, rfl, iteT ⟨_, rfl, _, _, _, _, false, rfl, .ty "bool", .base (.int i), kit_ty (by decide +kernel), false, rfl, q⟩⟩
    | bl b => exact ⟨_, rfl, _, _, _, _, true, rfl, .ty "int", .base (.bl b), kit_ty (by decide +kernel), true, rfl, iteT ⟨_, rfl, _, _, _, _, true, rfl, .ty "bool", .base (.bl b), kit_ty (by decide +kernel), true, rfl, q⟩⟩
    | non => exact ⟨_, rfl, _, _, _, _, false, rfl, .ty "int", .base .non, kit_ty (by decide +kernel), false, rfl, iteF q⟩
/-- a tuple of numbers is one of so many whole numbers -/
def spWholes : Sp := fun vs H Q _ => ∃ (x : V) (ns : List Nat), vs = [x, .int (ns.length : Int)] ∧ IT H x ns ∧ ns.length ≤ 1000 ∧ ∀ H', Ex H H' → Q (.bl true) H'
def spStir : Sp := fun vs H Q _ => ∃ a b : Int, vs = [.int a, .int b] ∧ 0 ≤ a ∧ 0 ≤ b ∧ b ≤ 64 ∧ ∀ v : Int, 0 ≤ v → Q (.int v) H
theorem ok_law_stir {f : Addr} {fd : FuncData} (F : Fun K "_law_stir" "_law_stir" s__law_stir f fd) (B : Bt K mg C fI) : FnOk P w K mg base CX0 1 f fd ["_law_number", "_law_turn"] spStir := by
  refine F.ok sc__law_stir (fun vs H Q E h => ?_) (fun cdv A outer s H vs Q E hr h => ?_)
  · obtain ⟨a, b, rfl, _⟩ := h
    rfl
  · obtain ⟨a, b, rfl, a0, b0, b1, q⟩ := h
    refine ⟨_, 
    (pss_cons (ps_set (i := 2) sc__law_stir.nd rfl (by first | exact Or.inl rfl | exact Or.inr rfl) (pe_op op_mod (pe_callTy call_int1 (by rfl) B.zint (by decide +kernel) (pa_cons (pe_op op_add (pe_op op_add (pe_op op_mul (pv 0) pe_int) (pe_op op_mul (pv 1) pe_int)) pe_int) pa_nil)) pe_int)) 
    (pss_cons (ps_set (i := 3) sc__law_stir.nd rfl (by first | exact Or.inl rfl | exact Or.inr rfl) (pe_op op_mod (pe_callTy call_int1 (by rfl) B.zint (by decide +kernel) (pa_cons (pe_op op_add (pe_op op_add (pe_op op_mul (pv 2) (pv 2)) (pe_op op_mul (pv 1) pe_int)) (pe_op op_fdiv (pv 2) pe_int)) pa_nil)) pe_int)) 
    (pss_one (ps_ret (pe_op op_fdiv (pe_op op_mod (pe_callTy call_int1 (by rfl) B.zint (by decide +kernel) (pa_cons (pe_op op_add (pe_op op_mul (pv 3) pe_int) (pe_op op_fdiv (pv 2) pe_int)) pa_nil)) pe_int) pe_int))))), ?_⟩
    have p1 : (0 : Int) < 2147483563 := by decide
    have p2 : (0 : Int) < 2147483629 := by decide
    have p3 : (0 : Int) < 2147483647 := by decide
    refine ⟨_, rfl, _, _, rfl, rfl, .inr (by decide), _, rfl, _, _, rfl, rfl, .inl (by omega), _, _, rfl, rfl, _, _, rfl, rfl, .inl ⟨_, rfl, _, _, rfl, rfl, p1, ?_⟩⟩
    refine ⟨_, rfl, _, rfl, _, _, rfl, rfl, .inl (by omega), _, rfl, _, _, rfl, rfl, .inl (by omega), _, _, rfl, rfl, _, rfl, _, _, rfl, rfl, ⟨by decide, by decide⟩, _, _, rfl, rfl, .inl ⟨_, rfl, _, _, rfl, rfl, p2, ?_⟩⟩
    refine ⟨_, rfl, _, _, rfl, rfl, .inl (by omega), _, rfl, _, _, rfl, rfl, ⟨by decide, by decide⟩, _, _, rfl, rfl, .inl ⟨_, rfl, _, _, rfl, rfl, p3, _, _, rfl, rfl, ⟨by decide, by decide⟩, q _ (by omega)⟩⟩
end
end Kd

namespace Kd
open PySem PySem.Spec PyProof.Rows L2 Evl Km Kr Kb Kc
section
variable {P : Program} {w : World} {K : PySem.W.Frag} {mg : Str → Option Value} {base : Heap} {C fI : Addr}
theorem cell_at {cs : List Int} {t : Int} (h0 : 0 ≤ t) (h1 : t < cs.length) : ∃ c, c ∈ cs ∧ atI (cs.map V.int) t = some (.int c) := by
  obtain ⟨j, rfl⟩ := Int.eq_ofNat_of_zero_le h0
  have hj : j < cs.length := by omega
  refine ⟨cs[j], List.getElem_mem hj, atI_nat ?_⟩
  rw [List.getElem?_map, List.getElem?_eq_getElem hj]
  rfl
theorem ok_law_draw {f : Addr} {fd : FuncData} (F : Fun K "_law_draw" "_law_draw" s__law_draw f fd) (B : Bt K mg C fI) (c__law_stir : Cal P w K mg base "_law_stir" 1 ["_law_number", "_law_turn"] spStir) :
    FnOk P w K mg base CX0 2 f fd ["_law_hand_here", "_law_many"] spDrawL := by
  refine F.ok sc__law_draw (fun vs H Q E h => ?_) (fun cdv A outer s H vs Q E hr h => ?_)
  · obtain ⟨ha, la, many, t, r, z, cs, rfl, _⟩ := h
    rfl
  · obtain ⟨ha, la, many, t, r, z, cs, rfl, m1, m2, hne, hla, hc, hn, ⟨t0, t1, r0, z0, z1⟩, hh, q⟩ := h
    refine ⟨_, 
    (pss_cut (ps_if (PW.pt (pw_and (pt_cmpR op_eq (pe_ix (kIxL K rfl) (pv 0) pe_int (fun _ _ => rfl)) pe_int (nomark _)) (pw_and1 (pt_cmpR op_lt (pe_ix (kIxL K rfl) (pv 0) pe_int (fun _ _ => rfl)) (pe_callB (kLen K rfl) (by rfl) B.zlen (by decide +kernel) (pa_cons (pe_ix (kIxL K rfl) (pv 0) pe_int (fun _ _ => rfl)) pa_nil)) (nomark _))))) 
      (pss_cons (ps_set (i := 2) sc__law_draw.nd rfl (by first | exact Or.inl rfl | exact Or.inr rfl) (pe_ix (kIxL K rfl) (pe_ix (kIxL K rfl) (pv 0) pe_int (fun _ _ => rfl)) (pe_ix (kIxL K rfl) (pv 0) pe_int (fun _ _ => rfl)) (fun _ _ => rfl))) 
      (pss_cons (ps_asg (pe_op op_add (pe_ix (kIxL K rfl) (pv 0) pe_int (fun _ _ => rfl)) pe_int) (pg_sub (pv 0) pe_int set_list)) 
      (pss_cons (ps_if (pt_cmpR op_lt (pv 2) (pe_op op_pow pe_int pe_int) (nomark _)) 
        (pss_one (ps_ret (pe_op op_mod (pe_callTy call_int1 (by rfl) B.zint (by decide +kernel) (pa_cons (pe_cal c__law_stir (hr.mono (by decide)) (by rfl) (pa_cons (pv 2) (pa_cons (pe_ix (kIxL K rfl) (pv 0) pe_int (fun _ _ => rfl)) pa_nil))) pa_nil)) (pv 1)))) pss_nil) 
      (pss_one (ps_asg (pv 2) (pg_sub (pv 0) pe_int set_list)))))) pss_nil) 
    (pss_cons (ps_if (pt_cmpR op_gt (pe_ix (kIxL K rfl) (pv 0) pe_int (fun _ _ => rfl)) pe_int (nomark _)) 
      (pss_cons (ps_set (i := 3) sc__law_draw.nd rfl (by first | exact Or.inl rfl | exact Or.inr rfl) (pe_ix (kIxL K rfl) (pv 0) pe_int (fun _ _ => rfl))) 
      (pss_cons (ps_asg (pe_op op_fdiv (pv 3) (pv 1)) (pg_sub (pv 0) pe_int set_list)) 
      (pss_one (ps_ret (pe_op op_mod (pe_callTy call_int1 (by rfl) B.zint (by decide +kernel) (pa_cons (pv 3) pa_nil)) (pv 1)))))) pss_nil) 
    (pss_cons (ps_asg (pe_op op_mod (pe_callTy call_int1 (by rfl) B.zint (by decide +kernel) (pa_cons (pe_op op_add (pe_ix (kIxL K rfl) (pv 0) pe_int (fun _ _ => rfl)) pe_int) pa_nil)) pe_int) (pg_sub (pv 0) pe_int set_list)) 
    (pss_one (ps_ret (pe_op op_mod (pe_callTy call_int1 (by rfl) B.zint (by decide +kernel) (pa_cons (pe_cal c__law_stir (hr.mono (by decide)) (by rfl) (pa_cons (pe_ix (kIxL K rfl) (pv 0) pe_int (fun _ _ => rfl)) (pa_cons (pe_ix (kIxL K rfl) (pv 0) pe_int (fun _ _ => rfl)) pa_nil))) pa_nil)) (pv 1))))))), ?_⟩
    have pz : (0 : Int) < 2147483629 := by decide
    have pm : (0 : Int) < many := by omega
    -- behind the first if: the hand is still one
    refine ⟨fun σ' H1 => ∃ (t r : Int) (o : Option V), σ' = [some (.ref ha), some (.int many), o, none] ∧ 0 ≤ t ∧ t ≤ cs.length ∧ 0 ≤ r ∧ (∀ b o, b ≠ ha → H b = some o → H1 b = some o) ∧ H1 ha = some (.lst (hv la t r z)), ?_, ?_⟩
    · refine ⟨_, rfl, ha, _, 2, _, rfl, rfl, SqL.of hh, atI_nat (j := 2) rfl, rfl, _, rfl, ?_⟩
      refine ite2 (fun h2 => ?_) (fun h2 => ?_)
      · refine ⟨_, rfl, ha, _, 1, _, rfl, rfl, SqL.of hh, atI_nat (j := 1) rfl, _, rfl, ha, _, 0, _, rfl, rfl, SqL.of hh, atI_nat (j := 0) rfl, la, _, rfl, .inl (SqL.of hla), _, _, rfl, rfl, _, rfl, ?_⟩
        refine ite2 (fun h3 => ?_) (fun h3 => ?_)
        · have h3' := of_decide_eq_true h3
          rw [List.length_map] at h3'
          obtain ⟨c, hcm, hcell⟩ := cell_at t0 h3'
          refine ⟨_, rfl, ha, _, 0, _, rfl, rfl, SqL.of hh, atI_nat (j := 0) rfl, _, rfl, ha, _, 1, _, rfl, rfl, SqL.of hh, atI_nat (j := 1) rfl, la, _, t, _, rfl, rfl, SqL.of hla, hcell, ?_⟩
          refine ⟨_, rfl, ha, _, 1, _, rfl, rfl, SqL.of hh, atI_nat (j := 1) rfl, _, _, rfl, rfl, _, rfl, ha, _, 1, 1, rfl, rfl, hh, rfl, ?_⟩
          refine ⟨_, rfl, _, _, rfl, rfl, ⟨by decide, by decide, by decide⟩, _, _, rfl, rfl, _, rfl, ?_⟩
          refine ite2 (fun h4 => ?_) (fun h4 => ?_)
          · refine ⟨_, rfl, _, rfl, ha, _, 1, _, rfl, rfl, SqL.of upd_same, atI_nat (j := 1) rfl, c, t + 1, rfl, hc c hcm, by omega, by omega, fun v v0 => .inl ⟨_, rfl, _, rfl, _, _, rfl, rfl, pm, ?_⟩⟩
            refine q _ (t + 1) r z _ (Int.emod_nonneg _ (by omega)) (Int.emod_lt_of_pos _ pm) ⟨by omega, by omega, r0, z0, z1⟩ (fun b o hb e => ?_) upd_same
            rw [upd_ne hb]
            exact e
          · refine ⟨_, rfl, _, rfl, ha, _, 2, 2, rfl, rfl, upd_same, rfl, ?_⟩
            refine ⟨t + 1, c, _, rfl, by omega, by omega, hc c hcm, fun b o hb e => ?_, upd_same⟩
            rw [upd_ne hb, upd_ne hb]
            exact e
        · exact ⟨t, r, _, rfl, t0, t1, r0, fun b o _ e => e, hh⟩
      · exact ⟨t, r, _, rfl, t0, t1, r0, fun b o _ e => e, hh⟩
    · rintro σ' H1 ⟨t, r, o, rfl, t0, t1, r0, keep, hh⟩
      refine ⟨_, rfl, ha, _, 2, _, rfl, rfl, SqL.of hh, atI_nat (j := 2) rfl, _, _, rfl, rfl, _, rfl, ?_⟩
      refine ite2 (fun h5 => ?_) (fun h5 => ?_)
      · refine ⟨_, rfl, ha, _, 2, _, rfl, rfl, SqL.of hh, atI_nat (j := 2) rfl, ?_⟩
        refine ⟨_, rfl, _, rfl, _, _, rfl, rfl, ⟨pm, by omega⟩, _, rfl, ha, _, 2, 2, rfl, rfl, hh, rfl, ?_⟩
        refine ⟨_, rfl, .inl ⟨_, rfl, _, rfl, _, _, rfl, rfl, pm, ?_⟩⟩
        refine q _ t (r / many) z _ (Int.emod_nonneg _ (by omega)) (Int.emod_lt_of_pos _ pm) ⟨t0, t1, Int.ediv_nonneg r0 (by omega), z0, z1⟩ (fun b o hb e => ?_) upd_same
        rw [upd_ne hb]
        exact keep b o hb e
      · refine ⟨_, rfl, ha, _, 3, _, rfl, rfl, SqL.of hh, atI_nat (j := 3) rfl, _, _, rfl, rfl, .inl ⟨_, rfl, _, _, rfl, rfl, pz, _, rfl, ha, _, 3, 3, rfl, rfl, hh, rfl, ?_⟩⟩
        have y0 : 0 ≤ (z + 1) % 2147483629 := Int.emod_nonneg _ (by decide)
        have y1 : (z + 1) % 2147483629 < 2147483629 := Int.emod_lt_of_pos _ (by decide)
        refine ⟨_, rfl, ha, _, 3, _, rfl, rfl, SqL.of upd_same, atI_nat (j := 3) rfl, _, rfl, ha, _, 1, _, rfl, rfl, SqL.of upd_same, atI_nat (j := 1) rfl, _, t, rfl, y0, t0, by omega, fun v v0 => .inl ⟨_, rfl, _, rfl, _, _, rfl, rfl, pm, ?_⟩⟩
        refine q _ t r ((z + 1) % 2147483629) _ (Int.emod_nonneg _ (by omega)) (Int.emod_lt_of_pos _ pm) ⟨t0, t1, r0, y0, y1⟩ (fun b o hb e => ?_) upd_same
        rw [upd_ne hb]
        exact keep b o hb e
end
end Kd

namespace Kd
open PySem PySem.Spec PyProof.Rows L2 Evl Km Kr Kb Kc
section
variable {P : Program} {w : World} {K : PySem.W.Frag} {mg : Str → Option Value} {base : Heap} {C fI : Addr}
theorem ok_law_hand {f : Addr} {fd : FuncData} (F : Fun K "_law_hand" "_law_hand" s__law_hand f fd) (B : Bt K mg C fI) : FnOk P w K mg base CX0 1 f fd ["_law_script"] (spHandL K) := by
  refine F.ok sc__law_hand (fun vs H Q E h => ?_) (fun cdv A outer s H vs Q E hr h => ?_)
  · obtain ⟨a, ns, rfl, _⟩ := h
    rfl
  · obtain ⟨a, ns, rfl, hS, hn, q⟩ := h
    refine ⟨_, 
    (pss_cons (ps_set (i := 1) sc__law_hand.nd rfl (by first | exact Or.inl rfl | exact Or.inr rfl) pe_int) 
    (pss_cons (ps_for PassesOwn.never rfl (pi_enumA (by rfl) B.zenumerate (pa_cons (pv 0) pa_nil)) (pg_tup rfl (pgs_cons (pg_name (i := 2) sc__law_hand.nd rfl (by first | exact Or.inl rfl | exact Or.inr rfl)) (pgs_cons (pg_name (i := 3) sc__law_hand.nd rfl (by first | exact Or.inl rfl | exact Or.inr rfl)) pgs_nil))) 
      (pss_one (ps_set (i := 1) sc__law_hand.nd rfl (by first | exact Or.inl rfl | exact Or.inr rfl) (pe_op op_mod (pe_callTy call_int1 (by rfl) B.zint (by decide +kernel) (pa_cons (pe_op op_add (pe_op op_add (pe_op op_mul (pv 1) pe_int) (pe_op op_mul (pe_callTy call_int1 (by rfl) B.zint (by decide +kernel) (pa_cons (pv 3) pa_nil)) (pe_op op_add (pe_op op_mul pe_int (pv 2)) pe_int))) pe_int) pa_nil)) pe_int)))) 
    (pss_one (ps_ret (pe_lst (pa_cons (pe_lc rfl sc__law_hand.nd (pi_list (pv 0)) (blkOk_by (own := [("_law_cell", 3)]) (N := ["_law_script", "_law_state", "_law_place", "_law_cell"]) (sc := (defScope s__law_hand)) (by decide +kernel)) (fun _ _ _ _ _ => (pg_name (i := 3) sc__law_hand.nd rfl (by first | exact Or.inl rfl | exact Or.inr rfl))) (fun _ _ _ _ _ => pts_nil) (fun _ _ _ _ _ => (pe_callB call_abs (by rfl) B.zabs (by decide +kernel) (pa_cons (pe_callTy call_int1 (by rfl) B.zint (by decide +kernel) (pa_cons (pv 3) pa_nil)) pa_nil)))) (pa_cons pe_int (pa_cons pe_int (pa_cons (pv 1) pa_nil))))))))), ?_⟩
    have pz : (0 : Int) < 2147483629 := by decide
    refine ⟨_, rfl, a, ns.map V.int, rfl, .inl ⟨hS, for_it walk_enum (fun i σ H' => ∃ (z : Int) (o1 o2 : Option V), σ = [some (.ref a), some (.int z), o1, o2] ∧ 0 ≤ z ∧ z < 2147483629 ∧ Ex H H')
      ⟨7, _, _, rfl, by decide, by decide, Ex.refl _⟩ (fun i σ H' _ ⟨_, _, _, _, _, _, e⟩ => ex_l e hS) ?_ ?_⟩⟩
    · rintro i x σ H1 H2 hi ⟨z, o1, o2, rfl, z0, z1, e⟩ ⟨T, x, y, rfl, hT, rfl, ex, ey⟩
      cases ex
      obtain ⟨c, hc, rfl⟩ := map_of ey
      rw [List.length_map] at hi
      refine ⟨T, _, rfl, SqT.of upd_same, rfl, _, _, rfl, _, _, rfl, rfl, ?_⟩
      refine ⟨_, rfl, _, _, rfl, rfl, .inr (by decide), _, rfl, .inl ⟨_, rfl, _, rfl, _, _, rfl, rfl, .inl (by decide), _, _, rfl, rfl, _, _, rfl, rfl, .inr (by omega), _, _, rfl, rfl, _, _, rfl, rfl, .inl ⟨_, rfl, _, _, rfl, rfl, pz, ?_⟩⟩⟩
      exact ⟨_, _, _, rfl, Int.emod_nonneg _ (by decide), Int.emod_lt_of_pos _ pz, e.trans (Ex.new hT)⟩
    · rintro σ H1 ⟨z, o1, o2, rfl, z0, z1, e⟩
      refine ⟨_, rfl, a, rfl, ⟨_, ex_l e hS⟩, fun D hD => lc_list (K := K) (a := a) (xs := ns.map V.int) (fun i H' => ∃ cs : List Int, H' D = some (.lst (cs.map V.int)) ∧ cs.length = i ∧ (∀ c, c ∈ cs → 0 ≤ c) ∧ Ex H1 H')
        ⟨[], upd_same, rfl, fun _ h => absurd h (by simp), Ex.new hD⟩ (fun i H' _ ⟨_, _, _, _, e'⟩ => ex_l (e.trans e') hS) ?_ ?_⟩
      · rintro i y H' hi ⟨cs, hD', hl, hp, e'⟩
        obtain ⟨c, hc, rfl⟩ := map_of hi
        have hi2 := (List.getElem?_eq_some_iff.mp hc).1
        refine ⟨rfl, lc_yes ?_⟩
        refine ⟨_, rfl, .inl ⟨_, rfl, _, rfl, _, hD', by rw [List.length_map]; exact small1000 (by omega), cs ++ [if c < 0 then -c else c], ?_, by rw [List.length_append]; exact congrArg (· + 1) hl, fun d hd => ?_, e'.mut hD⟩⟩
        · rw [upd_same, List.map_append]
          rfl
        · rcases List.mem_append.mp hd with hd | hd
          · exact hp d hd
          · rw [List.mem_singleton.mp hd]
            split <;> omega
      · rintro H' ⟨cs, hD', hl, hp, e'⟩
        rw [List.length_map] at hl
        refine ⟨_, rfl, by show 4 ≤ sizeLine; decide, fun p hp' => ?_⟩
        refine q p D z cs _ (fresh_back (e.trans e') hp') (ne_of_none hD' hp') ((e.trans e').trans (Ex.new hp')) ?_ hp (by omega) z0 z1 upd_same
        rw [upd_ne (ne_of_none hD' hp')]
        exact hD'
end
end Kd

namespace Kd
open PySem PySem.Spec PyProof.Rows L2 Evl Km Kr Kb Kc
section
variable {P : Program} {w : World} {K : PySem.W.Frag} {mg : Str → Option Value} {base : Heap} {C fI : Addr}
theorem rgV_iv (n : Nat) : rgV 0 (n : Int) = iv (List.range n) := by
  unfold rgV iv
  have e : ((n : Int) - 0).toNat = n := by omega
  rw [e]
  refine List.map_congr_left fun i _ => ?_
  rw [Int.zero_add]
theorem iv_erase (ns : List Nat) (k : Nat) : (iv ns).eraseIdx k = iv (ns.eraseIdx k) := by
  unfold iv
  induction ns generalizing k with
  | nil => rfl
  | cons a r ih =>
    cases k with
    | zero => rfl
    | succ k =>
      simp only [List.map_cons, List.eraseIdx_cons_succ, ih k]
/-- one lot -/
def LotOk (n : Nat) (ns : List Nat) : Prop := ns ≠ [] ∧ ns.Pairwise (· < ·) ∧ ∀ b, b ∈ ns → b < n
def spLot : Sp := fun vs H Q _ => ∃ (ha : Addr) (n : Nat) (size : Int), vs = [.ref ha, .int (n : Int), .int size] ∧ 1 ≤ n ∧ n ≤ 8 ∧ 1 ≤ size ∧ HandAt H ha ∧ ∀ (v : V) (ns : List Nat) (H' : Hp), Ex H H' → IT H' v ns → LotOk n ns → Q v H'
theorem perm_idx : ∀ {l : List Nat} {k x : Nat}, l[k]? = some x → l.Perm (x :: l.eraseIdx k)
  | [], k, x, h => by simp at h
  | a :: r, 0, x, h => by
    simp at h
    subst h
    exact List.Perm.refl _
  | a :: r, k + 1, x, h => by
    have ih := perm_idx (l := r) (k := k) (x := x) (by simpa using h)
    rw [List.eraseIdx_cons_succ]
    exact (ih.cons a).trans (List.Perm.swap x a _)
/-- the pool and what was taken of it -/
def Taken (n : Nat) (pool out : List Nat) : Prop := pool.length + out.length = n ∧ (pool ++ out).Nodup ∧ ∀ b, b ∈ pool ++ out → b < n
theorem Taken.next {n k x : Nat} {pool out : List Nat} (h : Taken n pool out) (hk : pool[k]? = some x) : Taken n (pool.eraseIdx k) (out ++ [x]) := by
  obtain ⟨hlt, hx⟩ := List.getElem?_eq_some_iff.mp hk
  have p : (pool ++ out).Perm (pool.eraseIdx k ++ (out ++ [x])) := by
    have p1 : pool.Perm (x :: pool.eraseIdx k) := perm_idx hk
    refine (p1.append_right out).trans ?_
    refine (List.Perm.trans ?_ List.perm_append_comm.symm)
    rw [List.append_assoc]
    refine (List.perm_append_comm (l₁ := x :: pool.eraseIdx k) (l₂ := out)).trans ?_
    exact List.Perm.append_left out (List.Perm.refl _)
  refine ⟨?_, p.nodup_iff.mp h.2.1, fun b hb => h.2.2 b (p.mem_iff.mpr hb)⟩
  rw [List.length_eraseIdx_of_lt hlt, List.length_append]
  have := h.1
  simp only [List.length_singleton]
  omega
theorem ok_law_lot {f : Addr} {fd : FuncData} (F : Fun K "_law_lot" "_law_lot" s__law_lot f fd) (B : Bt K mg C fI) (c__law_draw : Cal P w K mg base "_law_draw" 2 ["_law_hand_here", "_law_many"] spDraw) :
    FnOk P w K mg base CX0 3 f fd ["_law_hand_here", "_law_bits", "_law_size"] spLot := by
  refine F.ok sc__law_lot (fun vs H Q E h => ?_) (fun cdv A outer s H vs Q E hr h => ?_)
  · obtain ⟨ha, n, size, rfl, _⟩ := h
    rfl
  · obtain ⟨ha, n, size, rfl, n1, n8, s1, hh, q⟩ := h
    refine ⟨_, 
    (pss_cons (ps_set (i := 3) sc__law_lot.nd rfl (by first | exact Or.inl rfl | exact Or.inr rfl) (pe_listRg rfl (by rfl) B.zlist (prg_1 (by rfl) B.zrange (pv 1)))) 
    (pss_cons (ps_set (i := 4) sc__law_lot.nd rfl (by first | exact Or.inl rfl | exact Or.inr rfl) (pe_lst pa_nil)) 
    (pss_cons (ps_for PassesOwn.never rfl (pi_range1 (by rfl) B.zrange (pa_cons (pe_callB (call_min2 rfl) (by rfl) B.zmin (by decide +kernel) (pa_cons (pv 2) (pa_cons (pv 1) pa_nil))) pa_nil)) (pg_name (i := 5) sc__law_lot.nd rfl (by first | exact Or.inl rfl | exact Or.inr rfl)) 
      (pss_one (ps_expr (pe_bm PySem.F.plainAttrs_list PySem.F.slot_list_append PySem.F.type_list_append mt_append (pv 4) (pa_cons (pe_bm PySem.F.plainAttrs_list PySem.F.slot_list_pop PySem.F.type_list_pop mt_popAt (pv 3) (pa_cons (pe_cal c__law_draw (hr.mono (by decide)) (by rfl) (pa_cons (pv 0) (pa_cons (pe_callB (kLen K rfl) (by rfl) B.zlen (by decide +kernel) (pa_cons (pv 3) pa_nil)) pa_nil))) pa_nil)) pa_nil))))) 
    (pss_one (ps_ret (pe_callTy (kTuple K rfl) (by rfl) B.ztuple (by decide +kernel) (pa_cons (pe_callB cr_sorted (by rfl) B.zsorted (by decide +kernel) (pa_cons (pv 4) pa_nil)) pa_nil))))))), ?_⟩
    refine ⟨_, rfl, _, rfl, .of_le (by omega) (by omega) (by omega) (by omega), fun pl hpl => ?_⟩
    rw [rgV_iv]
    have e1 : Ex H (upd H pl (.lst (iv (List.range n)))) := Ex.new hpl
    refine ⟨Nat.zero_le _, fun ol hol => ?_⟩
    have npo : pl ≠ ol := ne_of_none upd_same hol
    have hol' : H ol = none := fresh_back e1 hol
    refine ⟨_, rfl, _, rfl, _, _, rfl, _, rfl, (by split <;> omega), (by split <;> omega), for_range (lo := 0) (fun i σ H' => ∃ (pool out : List Nat) (o : Option V), σ = [some (.ref ha), some (.int (n : Int)), some (.int size), some (.ref pl), some (.ref ol), o] ∧
      H' pl = some (.lst (iv pool)) ∧ H' ol = some (.lst (iv out)) ∧ out.length = i ∧ Taken n pool out ∧ Ex H H')
      ⟨List.range n, [], _, rfl, by rw [upd_ne npo]; exact upd_same, upd_same, rfl, ⟨by simp, by simp [List.nodup_range], fun b hb => by simpa using hb⟩, e1.trans (Ex.new hol)⟩ ?_ ?_⟩
    · rintro i σ H1 hi ⟨pool, out, o, rfl, hp, ho, hl, ht, e⟩
      have hpos : 0 < pool.length := by
        have := ht.1
        have hi' : i < n := by
          revert hi
          split <;> omega
        omega
      have hle : pool.length ≤ 8 := by have := ht.1; omega
      refine ⟨_, rfl, .inl ⟨rfl, _, SqL.of ho⟩, _, rfl, .inl ⟨rfl, _, SqL.of hp⟩, _, rfl, _, rfl, pl, _, rfl, .inl (SqL.of hp), ha, _, rfl, ?_⟩
      rw [iv_len]
      refine ⟨by omega, by omega, hh.ex e, fun v H2 v0 v1 e2 => ?_⟩
      obtain ⟨k, rfl⟩ := Int.eq_ofNat_of_zero_le v0
      have hk : k < pool.length := by omega
      have hx : pool[k]? = some pool[k] := List.getElem?_eq_getElem hk
      have hp2 := e2 _ _ hp
      have ho2 := e2 _ _ ho
      refine ⟨pl, _, _, k, _, rfl, rfl, hp2, by omega, by omega, by rw [iv_len]; exact seqIndex_of (by omega) (by omega), iv_get hx, ?_⟩
      rw [iv_erase]
      refine ⟨ol, _, _, rfl, rfl, by rw [upd_ne npo.symm]; exact ho2, by rw [iv_len]; exact small1000 (by have := ht.1; omega), pool.eraseIdx k, out ++ [pool[k]], _, rfl, by rw [upd_ne npo]; exact upd_same, by rw [upd_same, iv_app]; rfl, by simp [hl], ht.next hx, ?_⟩
      exact ((e.trans e2).mut (fresh_back (Ex.refl H) hpl)).mut hol'
    · rintro σ H1 ⟨pool, out, o, rfl, hp, ho, hl, ht, e⟩
      have hpos : 0 < out.length := by
        rw [hl]
        split <;> omega
      refine ⟨_, rfl, ol, out.map fun n : Nat => (n : Int), rfl, by rw [← iv_ints]; exact SqL.of ho, by rw [List.length_map]; have := ht.1; omega, fun ns' p hperm hasc hp' => ?_⟩
      obtain ⟨ms, rfl, h1, h2, h3⟩ := sorted_nat hperm hasc (List.nodup_append.mp ht.2.1).2.1
      rw [← iv_ints]
      refine ⟨p, _, rfl, .inl ⟨SqL.of upd_same, fun t htt => ?_⟩⟩
      refine q _ ms _ ((e.trans (Ex.new hp')).trans (Ex.new htt)) ⟨t, rfl, upd_same⟩ ⟨fun z => ?_, h1, fun b hb => ht.2.2 b (List.mem_append_right _ ((h2 b).mp hb))⟩
      rw [z] at h3
      simp at h3
      omega
end
end Kd

namespace Kd
open PySem PySem.Spec PyProof.Rows L2 Evl Km Kr Kb Kc
section
variable {P : Program} {w : World} {K : PySem.W.Frag} {mg : Str → Option Value} {base : Heap} {C fI : Addr}
/-- a list of lots -/
def CkL (H : Hp) (v : V) (cs : List (List Nat)) : Prop := ∃ (p : Addr) (xs : List V), v = .ref p ∧ H p = some (.lst xs) ∧ ITs H xs cs
theorem CkL.ex {H H' : Hp} {v : V} {cs : List (List Nat)} (h : CkL H v cs) (e : Ex H H') : CkL H' v cs := let ⟨p, xs, a, b, c⟩ := h; ⟨p, xs, a, e _ _ b, c.ex e⟩
theorem good_snoc {n : Nat} {cs : List (List Nat)} {ns : List Nat} (g : Good n cs) (h : LotOk n ns) : Good n (cs ++ [ns]) := by
  refine ⟨fun c hc => ?_, fun c hc => ?_, fun c hc => ?_⟩ <;> rcases List.mem_append.mp hc with hc | hc
  · exact g.ne c hc
  · rw [List.mem_singleton.mp hc]; exact h.1
  · exact g.asc c hc
  · rw [List.mem_singleton.mp hc]; exact h.2.1
  · exact g.lt c hc
  · rw [List.mem_singleton.mp hc]; exact h.2.2
theorem good_nil {n : Nat} : Good n [] := ⟨fun c hc => absurd hc (by simp), fun c hc => absurd hc (by simp), fun c hc => absurd hc (by simp)⟩
theorem good_at {n : Nat} {cs : List (List Nat)} {i : Nat} {ns : List Nat} (g : Good n cs) (h : cs[i]? = some ns) : LotOk n ns := by
  have hm := List.mem_of_getElem? h
  exact ⟨g.ne _ hm, g.asc _ hm, g.lt _ hm⟩
def spFree : Sp := fun vs H Q _ => ∃ (ha : Addr) (n : Nat) (many : Int), vs = [.ref ha, .int (n : Int), .int many, .int 4] ∧ 1 ≤ n ∧ n ≤ 8 ∧ 0 ≤ many ∧ many ≤ 5 ∧ HandAt H ha ∧
  ∀ (v : V) (cs : List (List Nat)) (H' : Hp), Ex H H' → CkL H' v cs → Good n cs → cs.length ≤ 8 → Q v H'
theorem ok_law_free_checks {f : Addr} {fd : FuncData} (F : Fun K "_law_free_checks" "_law_free_checks" s__law_free_checks f fd) (B : Bt K mg C fI) (c__law_draw : Cal P w K mg base "_law_draw" 2 ["_law_hand_here", "_law_many"] spDraw)
    (c__law_lot : Cal P w K mg base "_law_lot" 3 ["_law_hand_here", "_law_bits", "_law_size"] spLot) : FnOk P w K mg base CX0 4 f fd ["_law_hand_here", "_law_bits", "_law_many", "_law_widest"] spFree := by
  refine F.ok sc__law_free_checks (fun vs H Q E h => ?_) (fun cdv A outer s H vs Q E hr h => ?_)
  · obtain ⟨ha, n, many, rfl, _⟩ := h
    rfl
  · obtain ⟨ha, n, many, rfl, n1, n8, m0, m5, hh, q⟩ := h
    refine ⟨_, 
    (pss_cons (ps_set (i := 4) sc__law_free_checks.nd rfl (by first | exact Or.inl rfl | exact Or.inr rfl) (pe_lst pa_nil)) 
    (pss_cons (ps_for PassesOwn.never rfl (pi_range1 (by rfl) B.zrange (pa_cons (pv 2) pa_nil)) (pg_name (i := 5) sc__law_free_checks.nd rfl (by first | exact Or.inl rfl | exact Or.inr rfl)) 
      (pss_cons (ps_set (i := 6) sc__law_free_checks.nd rfl (by first | exact Or.inl rfl | exact Or.inr rfl) (pe_cal c__law_draw (hr.mono (by decide)) (by rfl) (pa_cons (pv 0) (pa_cons pe_int pa_nil)))) 
      (pss_cons (ps_set (i := 7) sc__law_free_checks.nd rfl (by first | exact Or.inl rfl | exact Or.inr rfl) (pe_op op_add pe_int (pe_cal c__law_draw (hr.mono (by decide)) (by rfl) (pa_cons (pv 0) (pa_cons (pe_callB (call_max2 rfl) (by rfl) B.zmax (by decide +kernel) (pa_cons pe_int (pa_cons (pe_op op_sub (pe_callB (call_min2 rfl) (by rfl) B.zmin (by decide +kernel) (pa_cons (pv 3) (pa_cons (pv 1) pa_nil))) pe_int) pa_nil))) pa_nil))))) 
      (pss_cut (ps_if (pt_cmpR op_eq (pv 6) pe_int (nomark _)) 
        (pss_one (ps_set (i := 7) sc__law_free_checks.nd rfl (by first | exact Or.inl rfl | exact Or.inr rfl) pe_int)) pss_nil) 
      (pss_one (ps_if (PW.pt (pw_and (pt_cmpR op_eq (pv 6) pe_int (nomark _)) (pw_and1 (pt_cmpR op_gt (pe_callB (kLen K rfl) (by rfl) B.zlen (by decide +kernel) (pa_cons (pv 4) pa_nil)) pe_int (nomark _))))) 
        (pss_one (ps_expr (pe_bm PySem.F.plainAttrs_list PySem.F.slot_list_append PySem.F.type_list_append mt_append (pv 4) (pa_cons (pe_ix (kIxL K rfl) (pv 4) (pe_cal c__law_draw (hr.mono (by decide)) (by rfl) (pa_cons (pv 0) (pa_cons (pe_callB (kLen K rfl) (by rfl) B.zlen (by decide +kernel) (pa_cons (pv 4) pa_nil)) pa_nil))) (fun _ _ => rfl)) pa_nil)))) 
        (pss_one (ps_expr (pe_bm PySem.F.plainAttrs_list PySem.F.slot_list_append PySem.F.type_list_append mt_append (pv 4) (pa_cons (pe_cal c__law_lot (hr.mono (by decide)) (by rfl) (pa_cons (pv 0) (pa_cons (pv 1) (pa_cons (pe_callB (call_min2 rfl) (by rfl) B.zmin (by decide +kernel) (pa_cons (pv 7) (pa_cons (pv 1) pa_nil))) pa_nil)))) pa_nil)))))))))) 
    (pss_one (ps_ret (pv 4))))), ?_⟩
    refine ⟨Nat.zero_le _, fun ol hol => ?_⟩
    refine ⟨_, rfl, many, rfl, by omega, by omega, for_range (lo := 0) (fun i σ H' => ∃ (xs : List V) (cs : List (List Nat)) (o1 o2 o3 : Option V), σ = [some (.ref ha), some (.int (n : Int)), some (.int many), some (.int 4), some (.ref ol), o1, o2, o3] ∧
      H' ol = some (.lst xs) ∧ ITs H' xs cs ∧ cs.length = i ∧ Good n cs ∧ Ex H H')
      ⟨[], [], _, _, _, rfl, upd_same, .nil, rfl, good_nil, Ex.new hol⟩ ?_ ?_⟩
    · rintro i σ H1 hi ⟨xs, cs, o1, o2, o3, rfl, hxs, hts, hl, hg, e⟩
      have hi5 : i < 5 := by omega
      -- pick, size
      refine ⟨_, rfl, ha, 12, rfl, by decide, by decide, hh.ex e, fun pk H2 pk0 pk1 e2 => ?_⟩
      refine ⟨_, rfl, _, rfl, _, rfl, _, _, rfl, _, _, rfl, rfl, _, _, rfl, ha, _, rfl, ?_, ?_, hh.ex (e.trans e2), fun sz H3 sz0 sz1 e3 => ?_⟩
      · split <;> omega
      · split
        · split <;> omega
        · omega
      refine ⟨_, _, rfl, rfl, ?_⟩
      refine ⟨fun σ' H4 => ∃ sz : Int, σ' = [some (.ref ha), some (.int (n : Int)), some (.int many), some (.int 4), some (.ref ol), some (.int (0 + (i : Nat))), some (.int pk), some (.int sz)] ∧ 1 ≤ sz ∧ H4 = H3, ?_, ?_⟩
      · refine ⟨_, rfl, rfl, _, rfl, ?_⟩
        refine ite2 (fun _ => ?_) (fun _ => ?_)
        · exact ⟨1, rfl, by decide, rfl⟩
        · exact ⟨2 + sz, rfl, by omega, rfl⟩
      · rintro σ' H4 ⟨sz, rfl, s1, rfl⟩
        have hxs3 := e3 _ _ (e2 _ _ hxs)
        have hts3 := (hts.ex e2).ex e3
        have e13 := (e.trans e2).trans e3
        have fin : ∀ (v : V) (ns : List Nat) (H5 : Hp), Ex H4 H5 → IT H5 v ns → LotOk n ns → ∃ (ys : List V) (ds : List (List Nat)) (o1 o2 o3 : Option V),
            [some (.ref ha), some (.int (n : Int)), some (.int many), some (.int 4), some (.ref ol), some (.int (0 + (i : Nat))), some (.int pk), some (.int sz)] = [some (.ref ha), some (.int (n : Int)), some (.int many), some (.int 4), some (.ref ol), o1, o2, o3] ∧
            upd H5 ol (.lst (xs ++ [v])) ol = some (.lst ys) ∧ ITs (upd H5 ol (.lst (xs ++ [v]))) ys ds ∧ ds.length = i + 1 ∧ Good n ds ∧ Ex H (upd H5 ol (.lst (xs ++ [v]))) := fun v ns H5 e5 hv ho =>
          ⟨xs ++ [v], cs ++ [ns], _, _, _, rfl, upd_same, ((hts3.ex e5).snoc hv).upd (e5 _ _ hxs3), by rw [List.length_append, hl]; rfl, good_snoc hg ho, (e13.trans e5).mut hol⟩
        have hlx : xs.length = i := by rw [hts.1, hl]
        refine ⟨_, rfl, rfl, _, rfl, ?_⟩
        have second : ∀ H5, H5 = H4 → True := fun _ _ => trivial
        refine ite2 (fun _ => ?_) (fun _ => ?_)
        · refine ⟨_, rfl, ol, _, rfl, .inl (SqL.of hxs3), _, _, rfl, rfl, _, rfl, ?_⟩
          refine ite2 (fun hpos => ?_) (fun _ => ?_)
          · have hp0 := of_decide_eq_true hpos
            refine ⟨_, rfl, .inl ⟨rfl, _, SqL.of hxs3⟩, _, rfl, _, rfl, _, rfl, ol, _, rfl, .inl (SqL.of hxs3), ha, _, rfl, by omega, by omega, hh.ex e13, fun d H5 d0 d1 e5 => ?_⟩
            obtain ⟨k, rfl⟩ := Int.eq_ofNat_of_zero_le d0
            have hk : k < xs.length := by omega
            have hx : xs[k]? = some xs[k] := List.getElem?_eq_getElem hk
            obtain ⟨ns, hns, hit⟩ := hts3.get hx
            refine ⟨ol, _, _, _, rfl, rfl, SqL.of (e5 _ _ hxs3), atI_nat hx, ol, _, _, rfl, rfl, e5 _ _ hxs3, small1000 (by omega), ?_⟩
            exact fin _ ns H5 e5 (hit.ex e5) (good_at hg hns)
          · refine ⟨_, rfl, .inl ⟨rfl, _, SqL.of hxs3⟩, _, rfl, _, rfl, _, rfl, _, rfl, _, _, rfl, ha, n, _, rfl, n1, n8, (by split <;> omega), hh.ex e13, fun v ns H5 e5 hv ho => ?_⟩
            exact ⟨ol, _, _, rfl, rfl, e5 _ _ hxs3, small1000 (by omega), fin v ns H5 e5 hv ho⟩
        · refine ⟨_, rfl, .inl ⟨rfl, _, SqL.of hxs3⟩, _, rfl, _, rfl, _, rfl, _, rfl, _, _, rfl, ha, n, _, rfl, n1, n8, (by split <;> omega), hh.ex e13, fun v ns H5 e5 hv ho => ?_⟩
          exact ⟨ol, _, _, rfl, rfl, e5 _ _ hxs3, small1000 (by omega), fin v ns H5 e5 hv ho⟩
    · rintro σ H1 ⟨xs, cs, o1, o2, o3, rfl, hxs, hts, hl, hg, e⟩
      exact ⟨_, rfl, q _ cs H1 e ⟨ol, xs, rfl, hxs, hts⟩ hg (by omega)⟩
end
end Kd

namespace Kd
open PySem PySem.Spec PyProof.Rows L2 Evl Km Kr Kb Kc
section
variable {P : Program} {w : World} {K : PySem.W.Frag} {mg : Str → Option Value} {base : Heap} {C fI : Addr}
theorem rgV_from (m k : Nat) : rgV (m : Int) ((m : Int) + (k : Int)) = iv ((List.range k).map fun i => m + i) := by
  unfold rgV iv
  have e : ((m : Int) + (k : Int) - (m : Int)).toNat = k := by omega
  rw [e, List.map_map]
  refine List.map_congr_left fun i _ => ?_
  show V.int ((m : Int) + (i : Nat)) = V.int ((m + i : Nat) : Int)
  rw [Int.natCast_add]
theorem range_from (m k : Nat) : List.range m ++ (List.range k).map (fun i => m + i) = List.range (m + k) := (List.range_add).symm
def spRingless : Sp := fun vs H Q _ => ∃ (ha : Addr) (n : Nat), vs = [.ref ha, .int (n : Int), .int 4] ∧ 1 ≤ n ∧ n ≤ 8 ∧ HandAt H ha ∧
  ∀ (v : V) (cs : List (List Nat)) (H' : Hp), Ex H H' → CkL H' v cs → Good n cs → cs.length ≤ 8 → Q v H'
theorem ok_law_ringless_checks {f : Addr} {fd : FuncData} (F : Fun K "_law_ringless_checks" "_law_ringless_checks" s__law_ringless_checks f fd) (B : Bt K mg C fI) (c__law_draw : Cal P w K mg base "_law_draw" 2 ["_law_hand_here", "_law_many"] spDraw) :
    FnOk P w K mg base CX0 3 f fd ["_law_hand_here", "_law_bits", "_law_widest"] spRingless := by
  refine F.ok sc__law_ringless_checks (fun vs H Q E h => ?_) (fun cdv A outer s H vs Q E hr h => ?_)
  · obtain ⟨ha, n, rfl, _⟩ := h
    rfl
  · obtain ⟨ha, n, rfl, n1, n8, hh, q⟩ := h
    refine ⟨_, 
    (pss_cons (ps_set (i := 3) sc__law_ringless_checks.nd rfl (by first | exact Or.inl rfl | exact Or.inr rfl) (pe_lst pa_nil)) 
    (pss_cons (ps_set (i := 4) sc__law_ringless_checks.nd rfl (by first | exact Or.inl rfl | exact Or.inr rfl) (pe_lst (pa_cons pe_int pa_nil))) 
    (pss_cons (ps_for PassesOwn.never rfl (pi_range1 (by rfl) B.zrange (pa_cons (pv 1) pa_nil)) (pg_name (i := 5) sc__law_ringless_checks.nd rfl (by first | exact Or.inl rfl | exact Or.inr rfl)) 
      (pss_cons (ps_if (pt_cmpR op_eq (pe_callB (kLen K rfl) (by rfl) B.zlen (by decide +kernel) (pa_cons (pv 4) pa_nil)) (pv 1) (nomark _)) 
        (pss_one ps_break) pss_nil) 
      (pss_cons (ps_set (i := 6) sc__law_ringless_checks.nd rfl (by first | exact Or.inl rfl | exact Or.inr rfl) (pe_ix (kIxL K rfl) (pv 4) (pe_cal c__law_draw (hr.mono (by decide)) (by rfl) (pa_cons (pv 0) (pa_cons (pe_callB (kLen K rfl) (by rfl) B.zlen (by decide +kernel) (pa_cons (pv 4) pa_nil)) pa_nil))) (fun _ _ => rfl))) 
      (pss_cons (ps_set (i := 7) sc__law_ringless_checks.nd rfl (by first | exact Or.inl rfl | exact Or.inr rfl) (pe_op op_add pe_int (pe_cal c__law_draw (hr.mono (by decide)) (by rfl) (pa_cons (pv 0) (pa_cons (pe_callB (call_min2 rfl) (by rfl) B.zmin (by decide +kernel) (pa_cons (pe_op op_sub (pv 2) pe_int) (pa_cons (pe_op op_sub (pv 1) (pe_callB (kLen K rfl) (by rfl) B.zlen (by decide +kernel) (pa_cons (pv 4) pa_nil))) pa_nil))) pa_nil))))) 
      (pss_cons (ps_set (i := 8) sc__law_ringless_checks.nd rfl (by first | exact Or.inl rfl | exact Or.inr rfl) (pe_listRg rfl (by rfl) B.zlist (prg_2 (by rfl) B.zrange (pe_callB (kLen K rfl) (by rfl) B.zlen (by decide +kernel) (pa_cons (pv 4) pa_nil)) (pe_op op_add (pe_callB (kLen K rfl) (by rfl) B.zlen (by decide +kernel) (pa_cons (pv 4) pa_nil)) (pv 7))))) 
      (pss_cons (ps_set (i := 4) sc__law_ringless_checks.nd rfl (by first | exact Or.inl rfl | exact Or.inr rfl) (pe_op op_cat (pv 4) (pv 8))) 
      (pss_one (ps_if (pt_cmpR op_gt (pe_cal c__law_draw (hr.mono (by decide)) (by rfl) (pa_cons (pv 0) (pa_cons pe_int pa_nil))) pe_int (nomark _)) 
        (pss_one (ps_expr (pe_bm PySem.F.plainAttrs_list PySem.F.slot_list_append PySem.F.type_list_append mt_append (pv 3) (pa_cons (pe_callTy (kTuple K rfl) (by rfl) B.ztuple (by decide +kernel) (pa_cons (pe_callB cr_sorted (by rfl) B.zsorted (by decide +kernel) (pa_cons (pe_op op_cat (pe_lst (pa_cons (pv 6) pa_nil)) (pv 8)) pa_nil)) pa_nil)) pa_nil)))) pss_nil)))))))) 
    (pss_one (ps_ret (pv 3)))))), ?_⟩
    refine ⟨Nat.zero_le _, fun ol hol => ?_⟩
    refine ⟨by show 1 ≤ sizeLine; decide, fun rl0 hrl0 => ?_⟩
    have nro : ol ≠ rl0 := ne_of_none upd_same hrl0
    refine ⟨_, rfl, (n : Int), rfl, by omega, by omega, for_range (lo := 0) (fun i σ H' => ∃ (rl : Addr) (m : Nat) (xs : List V) (cs : List (List Nat)) (o1 o2 o3 o4 : Option V),
      σ = [some (.ref ha), some (.int (n : Int)), some (.int 4), some (.ref ol), some (.ref rl), o1, o2, o3, o4] ∧
      H' rl = some (.lst (iv (List.range m))) ∧ rl ≠ ol ∧ 1 ≤ m ∧ m ≤ n ∧ H' ol = some (.lst xs) ∧ ITs H' xs cs ∧ cs.length ≤ i ∧ Good n cs ∧ Ex H H')
      ⟨rl0, 1, [], [], _, _, _, _, rfl, upd_same, nro.symm, by decide, n1, by rw [upd_ne nro]; exact upd_same, .nil, Nat.le_refl _, good_nil, (Ex.new hol).trans (Ex.new hrl0)⟩ ?_ ?_⟩
    · rintro i σ H1 hi ⟨rl, m, xs, cs, o1, o2, o3, o4, rfl, hrl, nrl, m1, mn, hxs, hts, hl, hg, e⟩
      have hlx : xs.length ≤ 8 := by rw [hts.1]; omega
      have hlen : (iv (List.range m)).length = m := by rw [iv_len, List.length_range]
      refine ⟨_, rfl, rl, _, rfl, .inl (SqL.of hrl), _, rfl, rfl, _, rfl, ?_⟩
      rw [hlen]
      refine ite2 (fun _ => ?_) (fun hne => ?_)
      · exact ⟨_, rfl, q _ cs H1 e ⟨ol, xs, rfl, hxs, hts⟩ hg (by omega)⟩
      · have hne' : ¬ (V.int (m : Int) = V.int (n : Int)) := fun z => hne (decide_eq_true z)
        have hmn : m < n := by
          rcases Nat.lt_or_ge m n with z | z
          · exact z
          · have : m = n := by omega
            exact absurd (by rw [this]) hne'
        -- old
        refine ⟨_, rfl, _, rfl, _, rfl, rl, _, rfl, .inl (SqL.of hrl), ha, _, rfl, by omega, by omega, hh.ex e, fun d H2 d0 d1 e2 => ?_⟩
        obtain ⟨k, rfl⟩ := Int.eq_ofNat_of_zero_le d0
        rw [hlen] at d1
        have hk : k < m := by omega
        refine ⟨rl, _, _, _, rfl, rfl, SqL.of (e2 _ _ hrl), atI_nat (iv_get (by rw [List.getElem?_range hk])), ?_⟩
        -- size
        refine ⟨_, rfl, _, rfl, _, _, rfl, rfl, _, rfl, _, rfl, rl, _, rfl, .inl (SqL.of (e2 _ _ hrl)), _, _, rfl, rfl, _, _, rfl, ha, _, rfl, ?_, ?_, hh.ex (e.trans e2), fun sz H3 sz0 sz1 e3 => ?_⟩
        · rw [hlen]
          split <;> omega
        · rw [hlen]
          split <;> omega
        have szn : 1 + sz ≤ (n : Int) - (m : Int) := by
          rw [hlen] at sz1
          revert sz1
          split <;> omega
        obtain ⟨k2, hk2⟩ := Int.eq_ofNat_of_zero_le (show 0 ≤ 1 + sz by omega)
        have e13 := e2.trans e3
        have hrl3 := e13 _ _ hrl
        have hxs3 := e13 _ _ hxs
        refine ⟨_, _, rfl, rfl, ?_⟩
        -- fresh
        refine ⟨_, rfl, rl, _, rfl, .inl (SqL.of hrl3), _, rfl, rl, _, rfl, .inl (SqL.of hrl3), _, rfl, _, _, rfl, rfl, _, _, rfl, rfl, .of_le (by omega) (by rw [hlen]; omega) (by rw [hlen]; omega) (by rw [hlen]; omega), fun fl hfl => ?_⟩
        rw [hlen, hk2, rgV_from]
        have efl : Ex H3 (upd H3 fl (.lst (iv ((List.range k2).map fun i => m + i)))) := Ex.new hfl
        refine ⟨_, rfl, _, rfl, rl, fl, _, _, rfl, rfl, efl _ _ hrl3, upd_same, ?_, fun rl2 hrl2 => ?_⟩
        · rw [hlen, iv_len, List.length_map, List.length_range]
          exact Nat.le_of_lt (small1000 (by omega))
        rw [← iv_app, range_from]
        have e4 : Ex H3 (upd (upd H3 fl (.lst (iv ((List.range k2).map fun i => m + i)))) rl2 (.lst (iv (List.range (m + k2))))) := efl.trans (Ex.new hrl2)
        generalize hH4 : upd (upd H3 fl (.lst (iv ((List.range k2).map fun i => m + i)))) rl2 (.lst (iv (List.range (m + k2)))) = H4 at e4
        have hfl4 : H4 fl = some (.lst (iv ((List.range k2).map fun i => m + i))) := by
          rw [← hH4, upd_ne (ne_of_none upd_same hrl2)]
          exact upd_same
        have hrl4 : H4 rl2 = some (.lst (iv (List.range (m + k2)))) := by rw [← hH4]; exact upd_same
        have nrl2 : rl2 ≠ ol := (ne_of_none (efl _ _ hxs3) hrl2).symm
        clear hH4
        have e14 := e13.trans e4
        refine ⟨_, rfl, ha, 6, rfl, by decide, by decide, hh.ex (e.trans e14), fun d6 H5 _ _ e5 => ?_⟩
        refine ⟨_, _, rfl, rfl, _, rfl, ?_⟩
        refine ite2 (fun _ => ?_) (fun _ => ?_)
        · refine ⟨_, rfl, .inl ⟨rfl, _, SqL.of (e5 _ _ (e4 _ _ hxs3))⟩, ?_⟩
          refine ⟨_, rfl, by show 1 ≤ sizeLine; decide, fun p1 hp1 => ?_⟩
          have ep1 : Ex H5 (upd H5 p1 (.lst [.int (k : Int)])) := Ex.new hp1
          refine ⟨_, rfl, p1, fl, _, _, rfl, rfl, upd_same, ep1 _ _ (e5 _ _ hfl4), ?_, fun p2 hp2 => ?_⟩
          · rw [iv_len, List.length_map, List.length_range]
            exact Nat.le_of_lt (small1000 (by show 1 + k2 ≤ 1000; omega))
          have ecat : ([V.int (k : Int)] ++ iv ((List.range k2).map fun i => m + i)) = iv (k :: (List.range k2).map fun i => m + i) := rfl
          rw [ecat]
          have ep2 := ep1.trans (Ex.new (o := .lst (iv (k :: (List.range k2).map fun i => m + i))) hp2)
          have nd : (k :: (List.range k2).map fun i => m + i).Nodup := by
            rw [List.nodup_cons]
            refine ⟨fun hm => ?_, ?_⟩
            · obtain ⟨i, _, hi⟩ := List.mem_map.mp hm
              omega
            · have h1 : (List.range (m + k2)).Nodup := List.nodup_range
              rw [← range_from] at h1
              exact (List.nodup_append.mp h1).2.1
          refine ⟨p2, _, rfl, by rw [← iv_ints]; exact SqL.of upd_same, ?_, fun ns' p3 hperm hasc hp3 => ?_⟩
          · rw [List.length_map, List.length_cons, List.length_map, List.length_range]
            omega
          obtain ⟨ms, rfl, h1, h2, h3⟩ := sorted_nat hperm hasc nd
          rw [← iv_ints]
          have ep3 := ep2.trans (Ex.new (o := .lst (iv ms)) hp3)
          refine ⟨p3, _, rfl, .inl ⟨SqL.of upd_same, fun t htt => ?_⟩⟩
          have ep4 := ep3.trans (Ex.new (o := .tup (iv ms)) htt)
          have e16 := e4.trans (e5.trans ep4)
          refine ⟨ol, _, _, rfl, rfl, e16 _ _ hxs3, small1000 (by omega), rl2, m + k2, xs ++ [.ref t], cs ++ [ms], _, _, _, _, rfl, ?_, nrl2, by omega, by omega, upd_same, ((hts.ex (e13.trans e16)).snoc ⟨t, rfl, upd_same⟩).upd (e16 _ _ hxs3), by rw [List.length_append]; simp; omega, good_snoc hg ⟨fun z => ?_, h1, fun b hb => ?_⟩, (e.trans (e13.trans e16)).mut ?_⟩
          · rw [upd_ne nrl2]
            exact (e5.trans ep4) _ _ hrl4
          · rw [z] at h3
            simp at h3
          · rcases List.mem_cons.mp ((h2 b).mp hb) with z | z
            · omega
            · obtain ⟨i, hi, hib⟩ := List.mem_map.mp z
              have := List.mem_range.mp hi
              omega
          · exact hol
        · exact ⟨rl2, m + k2, xs, cs, _, _, _, _, rfl, e5 _ _ hrl4, nrl2, by omega, by omega, e5 _ _ (e4 _ _ hxs3), hts.ex (e14.trans e5), by omega, hg, e.trans (e14.trans e5)⟩
    · rintro σ H1 ⟨rl, m, xs, cs, o1, o2, o3, o4, rfl, hrl, nrl, m1, mn, hxs, hts, hl, hg, e⟩
      exact ⟨_, rfl, q _ cs H1 e ⟨ol, xs, rfl, hxs, hts⟩ hg (by omega)⟩
end
end Kd

namespace Kd
open PySem PySem.Spec PyProof.Rows L2 Evl Km Kr Kb Kc
section
variable {P : Program} {w : World} {K : PySem.W.Frag} {mg : Str → Option Value} {base : Heap} {C fI : Addr}
/-- the bits whose ends hold the post -/
def rowOf (n : Nat) (ends : List (List Nat)) (post : Nat) : List Nat := (List.range n).filter fun b => decide (post ∈ ends.getD b [])
theorem rowOf_asc {n : Nat} {ends : List (List Nat)} {post : Nat} : (rowOf n ends post).Pairwise (· < ·) := filter_asc
theorem rowOf_lt {n : Nat} {ends : List (List Nat)} {post b : Nat} (h : b ∈ rowOf n ends post) : b < n := by
  unfold rowOf at h
  exact List.mem_range.mp (List.mem_filter.mp h).1
theorem filter_range_succ {i : Nat} {p : Nat → Bool} : (List.range (i + 1)).filter p = (List.range i).filter p ++ (if p i = true then [i] else []) := by
  rw [List.range_succ, List.filter_append]
  congr 1
  cases h : p i <;> simp [h]
def spTie : Sp := fun vs H Q _ => ∃ (ha : Addr) (n po : Nat), vs = [.ref ha, .int (n : Int), .int (po : Int)] ∧ 1 ≤ n ∧ n ≤ 8 ∧ 2 ≤ po ∧ po ≤ 4 ∧ HandAt H ha ∧
  ∀ (v : V) (cs : List (List Nat)) (H' : Hp), Ex H H' → CkL H' v cs → Good n cs → cs.length ≤ 8 → Q v H'
theorem ok_law_tie_checks {f : Addr} {fd : FuncData} (F : Fun K "_law_tie_checks" "_law_tie_checks" s__law_tie_checks f fd) (B : Bt K mg C fI) (c__law_draw : Cal P w K mg base "_law_draw" 2 ["_law_hand_here", "_law_many"] spDraw) :
    FnOk P w K mg base CX0 3 f fd ["_law_hand_here", "_law_bits", "_law_posts"] spTie := by
  refine F.ok sc__law_tie_checks (fun vs H Q E h => ?_) (fun cdv A outer s H vs Q E hr h => ?_)
  · obtain ⟨ha, n, po, rfl, _⟩ := h
    rfl
  · obtain ⟨ha, n, po, rfl, n1, n8, p2, p4, hh, q⟩ := h
    refine ⟨_, 
    (pss_cons (ps_set (i := 3) sc__law_tie_checks.nd rfl (by first | exact Or.inl rfl | exact Or.inr rfl) (pe_lst pa_nil)) 
    (pss_cons (ps_for PassesOwn.never rfl (pi_range1 (by rfl) B.zrange (pa_cons (pv 1) pa_nil)) (pg_name (i := 4) sc__law_tie_checks.nd rfl (by first | exact Or.inl rfl | exact Or.inr rfl)) 
      (pss_cons (ps_set (i := 5) sc__law_tie_checks.nd rfl (by first | exact Or.inl rfl | exact Or.inr rfl) (pe_cal c__law_draw (hr.mono (by decide)) (by rfl) (pa_cons (pv 0) (pa_cons (pv 2) pa_nil)))) 
      (pss_cons (ps_set (i := 6) sc__law_tie_checks.nd rfl (by first | exact Or.inl rfl | exact Or.inr rfl) (pe_op op_mod (pe_callTy call_int1 (by rfl) B.zint (by decide +kernel) (pa_cons (pe_op op_add (pe_op op_add (pv 5) pe_int) (pe_cal c__law_draw (hr.mono (by decide)) (by rfl) (pa_cons (pv 0) (pa_cons (pe_op op_sub (pv 2) pe_int) pa_nil)))) pa_nil)) (pv 2))) 
      (pss_one (ps_expr (pe_bm PySem.F.plainAttrs_list PySem.F.slot_list_append PySem.F.type_list_append mt_append (pv 3) (pa_cons (pe_tup (pa_cons (pv 5) (pa_cons (pv 6) pa_nil))) pa_nil))))))) 
    (pss_cons (ps_setLc (i := 7) rfl sc__law_tie_checks.nd rfl rfl (sw_true rfl rfl rfl (by decide +kernel)) (pi_range1 (by rfl) B.zrange (pa_cons (pv 2) pa_nil)) (blkOk_by (own := [("_law_post", 8)]) (N := ["_law_hand_here", "_law_bits", "_law_posts", "_law_ends", "_law_bit", "_law_low", "_law_high", "_law_rows", "_law_post", "_law_row"]) (sc := (defScope s__law_tie_checks)) (by decide +kernel)) (fun _ _ _ _ _ => (pg_name (i := 8) sc__law_tie_checks.nd rfl (by first | exact Or.inl rfl | exact Or.inr rfl))) (fun _ _ _ _ _ => pts_nil) (fun _ _ _ _ _ => (pe_callTy (kTuple K rfl) (by rfl) B.ztuple (by decide +kernel) (pa_cons (pe_lc rfl sc__law_tie_checks.nd (pi_range1 (by rfl) B.zrange (pa_cons (pv 1) pa_nil)) (blkOk_by (own := [("_law_bit", 4)]) (N := ["_law_hand_here", "_law_bits", "_law_posts", "_law_ends", "_law_bit", "_law_low", "_law_high", "_law_rows", "_law_post", "_law_row"]) (sc := (relS _ (defScope s__law_tie_checks))) (by decide +kernel)) (fun _ _ _ _ _ => (pg_name (i := 4) sc__law_tie_checks.nd rfl (by first | exact Or.inl rfl | exact Or.inr rfl))) (fun _ _ _ _ _ => (pts_one (pt_cmpR (kIn K rfl) (pv 8) (pe_ix (kIxL K rfl) (pv 3) (pv 4) (fun _ _ => rfl)) (by rfl)))) (fun _ _ _ _ _ => (pv 4))) pa_nil)))) 
    (pss_one (ps_ret (pe_lc rfl sc__law_tie_checks.nd (pi_list (pv 7)) (blkOk_by (own := [("_law_row", 9)]) (N := ["_law_hand_here", "_law_bits", "_law_posts", "_law_ends", "_law_bit", "_law_low", "_law_high", "_law_rows", "_law_post", "_law_row"]) (sc := (defScope s__law_tie_checks)) (by decide +kernel)) (fun _ _ _ _ _ => (pg_name (i := 9) sc__law_tie_checks.nd rfl (by first | exact Or.inl rfl | exact Or.inr rfl))) (fun _ _ _ _ _ => (pts_one (pt_cmpR op_gt (pe_callB (kLen K rfl) (by rfl) B.zlen (by decide +kernel) (pa_cons (pv 9) pa_nil)) pe_int (nomark _)))) (fun _ _ _ _ _ => (pv 9)))))))), ?_⟩
    refine ⟨Nat.zero_le _, fun el hel => ?_⟩
    refine ⟨_, rfl, (n : Int), rfl, by omega, by omega, for_range (lo := 0) (fun i σ H' => ∃ (xs : List V) (ends : List (List Nat)) (o1 o2 o3 : Option V),
      σ = [some (.ref ha), some (.int (n : Int)), some (.int (po : Int)), some (.ref el), o1, o2, o3, none, none, none] ∧ H' el = some (.lst xs) ∧ ITs H' xs ends ∧ ends.length = i ∧ Ex H H')
      ⟨[], [], _, _, _, rfl, upd_same, .nil, rfl, Ex.new hel⟩ ?_ ?_⟩
    · rintro i σ H1 hi ⟨xs, ends, o1, o2, o3, rfl, hxs, hts, hl, e⟩
      refine ⟨_, rfl, _, rfl, ha, _, rfl, by omega, by omega, hh.ex e, fun a H2 a0 a1 e2 => ?_⟩
      refine ⟨_, rfl, _, _, rfl, rfl, _, rfl, _, rfl, _, _, rfl, rfl, ha, _, rfl, by omega, by omega, hh.ex (e.trans e2), fun b H3 b0 b1 e3 => ?_⟩
      refine ⟨_, _, rfl, rfl, .inl ⟨_, rfl, _, rfl, _, _, rfl, rfl, by omega, ?_⟩⟩
      obtain ⟨x, rfl⟩ := Int.eq_ofNat_of_zero_le a0
      obtain ⟨y, hy⟩ := Int.eq_ofNat_of_zero_le (show 0 ≤ ((x : Int) + 1 + b) % (po : Int) from Int.emod_nonneg _ (by omega))
      show gName 6 (V.int (((x : Int) + 1 + b) % (po : Int))) _ _ _
      rw [hy]
      have hxs3 := e3 _ _ (e2 _ _ hxs)
      have e13 := e2.trans e3
      refine ⟨_, rfl, .inl ⟨rfl, _, SqL.of hxs3⟩, _, rfl, _, rfl, by show 2 ≤ sizeLine; decide, fun t ht => ?_⟩
      have e4 : Ex H3 (upd H3 t (.tup [.int (x : Int), .int (y : Int)])) := Ex.new ht
      refine ⟨el, _, _, rfl, rfl, e4 _ _ hxs3, small1000 (by rw [hts.1]; omega), xs ++ [.ref t], ends ++ [[x, y]], _, _, _, rfl, upd_same, ((hts.ex (e13.trans e4)).snoc ⟨t, rfl, upd_same⟩).upd (e4 _ _ hxs3), by rw [List.length_append, hl]; rfl, (e.trans (e13.trans e4)).mut hel⟩
    · rintro σ H1 ⟨xs, ends, o1, o2, o3, rfl, hxs, hts, hl, e⟩
      have hn : ((n : Int)).toNat = n := by omega
      rw [hn] at hl
      -- the rows
      refine ⟨_, rfl, (po : Int), rfl, by omega, by omega, fun D hD => lc_range (lo := 0) (fun i H' => ∃ ys : List V, H' D = some (.lst ys) ∧ ITs H' ys ((List.range i).map (rowOf n ends)) ∧ Ex H1 H')
        ⟨[], upd_same, .nil, Ex.new hD⟩ ?_ ?_⟩
      · rintro i H2 hi ⟨ys, hys, hrs, e2⟩
        refine ⟨rfl, lc_yes ?_⟩
        refine ⟨_, rfl, (n : Int), rfl, by omega, by omega, fun D2 hD2 => lc_range (lo := 0) (fun j H' => H' D2 = some (.lst (iv ((List.range j).filter fun b => decide (i ∈ ends.getD b [])))) ∧ Ex H2 H')
          ⟨upd_same, Ex.new hD2⟩ ?_ ?_⟩
        · rintro j H3 hj ⟨h3, e3⟩
          have hjn : j < n := by omega
          have hej : ends[j]? = some ends[j] := List.getElem?_eq_getElem (by omega)
          obtain ⟨x, hx, hit⟩ := hts.at hej
          have egd : ends.getD j [] = ends[j] := by rw [List.getD_eq_getElem?_getD, hej]; rfl
          obtain ⟨t, rfl, htt⟩ := hit.ex (e2.trans e3)
          have c1 : (0 : Int) + (j : Nat) = ((j : Nat) : Int) := Int.zero_add _
          have c2 : (0 : Int) + (i : Nat) = ((i : Nat) : Int) := Int.zero_add _
          refine ⟨rfl, ?_⟩
          refine ⟨_, rfl, _, rfl, _, rfl, el, _, _, _, rfl, rfl, SqL.of ((e2.trans e3) _ _ hxs), by rw [c1]; exact atI_nat hx, t, _, rfl, .inr (SqT.of htt), rfl, iv_flat _, _, rfl, ?_⟩
          rw [c2]
          rw [if_neg (by decide), inV_iv]
          refine ite2 (fun hm => ?_) (fun hm => ?_)
          · refine ⟨_, rfl, _, h3, ?_, ?_, e3.mut hD2⟩
            · rw [iv_len]
              have := List.length_filter_le (fun b => decide (i ∈ ends.getD b [])) (List.range j)
              rw [List.length_range] at this
              exact small1000 (by omega)
            · rw [upd_same, filter_range_succ, if_pos (by rw [egd]; exact hm), iv_app, c1]
              rfl
          · refine ⟨?_, e3⟩
            rw [filter_range_succ, if_neg (by rw [egd]; exact hm), List.append_nil]
            exact h3
        · rintro H3 ⟨h3, e3⟩
          rw [hn] at h3
          refine ⟨D2, _, rfl, .inl ⟨SqL.of h3, fun t ht => ?_⟩⟩
          have e4 := e3.trans (Ex.new (o := .tup (iv ((List.range n).filter fun b => decide (i ∈ ends.getD b [])))) ht)
          have hl2 : ys.length ≤ 4 := by rw [hrs.1, List.length_map, List.length_range]; omega
          refine ⟨ys, e4 _ _ hys, small1000 (by omega), ys ++ [.ref t], upd_same, ?_, (e2.trans e4).mut hD⟩
          rw [List.range_succ, List.map_append]
          exact ((hrs.ex e4).snoc ⟨t, rfl, upd_same⟩).upd (e4 _ _ hys)
      · rintro H2 ⟨ys, hys, hrs, e2⟩
        have hpo : ((po : Int)).toNat = po := by omega
        rw [hpo] at hrs
        -- those that are not empty
        refine ⟨_, rfl, D, rfl, ⟨_, SqL.of hys⟩, fun D2 hD2 => lc_list (K := K) (a := D) (xs := ys) (fun i H' => ∃ (zs : List V) (cs : List (List Nat)), H' D2 = some (.lst zs) ∧ ITs H' zs cs ∧ cs.length ≤ i ∧ Good n cs ∧ Ex H2 H')
          ⟨[], [], upd_same, .nil, Nat.le_refl _, good_nil, Ex.new hD2⟩ (fun i H' _ ⟨_, _, _, _, _, _, e'⟩ => SqL.of (e' _ _ hys)) ?_ ?_⟩
        · rintro i y H3 hi ⟨zs, cs, hzs, hcs, hlc, hg, e3⟩
          obtain ⟨ns, hns, hit⟩ := hrs.get hi
          obtain ⟨t, rfl, htt⟩ := hit.ex e3
          rw [List.getElem?_map] at hns
          have hi4 : i < po := by
            have := (List.getElem?_eq_some_iff.mp hi).1
            rw [hrs.1, List.length_map, List.length_range] at this
            exact this
          rw [List.getElem?_range hi4] at hns
          cases hns
          refine ⟨rfl, ?_⟩
          refine ⟨_, rfl, t, _, rfl, .inr (SqT.of htt), _, _, rfl, rfl, _, rfl, ?_⟩
          rw [iv_len]
          refine ite2 (fun hm => ?_) (fun hm => ?_)
          · have hm' := of_decide_eq_true hm
            refine ⟨_, rfl, zs, hzs, small1000 (by rw [hcs.1]; omega), zs ++ [.ref t], cs ++ [rowOf n ends i], upd_same, (hcs.snoc ⟨t, rfl, htt⟩).upd hzs, by rw [List.length_append]; simp; omega, good_snoc hg ⟨fun z => ?_, rowOf_asc, fun b hb => rowOf_lt hb⟩, e3.mut hD2⟩
            rw [z] at hm'
            simp at hm'
          · exact ⟨zs, cs, hzs, hcs, by omega, hg, e3⟩
        · rintro H3 ⟨zs, cs, hzs, hcs, hlc, hg, e3⟩
          refine q _ cs H3 (e.trans (e2.trans e3)) ⟨D2, zs, rfl, hzs, hcs⟩ hg ?_
          rw [hrs.1, List.length_map, List.length_range] at hlc
          omega
end
end Kd

namespace Kd
open PySem PySem.Spec PyProof.Rows L2 Evl Km Kr Kb Kc
section
variable {P : Program} {w : World} {K : PySem.W.Frag} {mg : Str → Option Value} {base : Heap} {C fI : Addr}
theorem cut_to (xs : List V) (i : Nat) : cutV xs none (some (i : Int)) = xs.take i := by
  unfold cutV
  rw [HT.sIx_none, HT.sIx_nat, List.drop_zero, Nat.sub_zero]
  rw [List.take_eq_take_iff]
  omega
theorem iv_take (ns : List Nat) (i : Nat) : (iv ns).take i = iv (ns.take i) := by unfold iv; rw [List.map_take]
/-- a list of numbers -/
def spLotOf : Sp := fun vs H Q _ => ∃ (n : Nat) (a : Addr) (ns : List Nat), vs = [.int (n : Int), .ref a] ∧ H a = some (.lst (iv ns)) ∧ LotOk n ns ∧ ns.length ≤ 60 ∧ ∀ (v : V) (H' : Hp), Ex H H' → IT H' v ns → Q v H'
theorem ok_lot_of {f : Addr} {fd : FuncData} (F : Fun K "lot_of" "lot_of" s_lot_of f fd) (B : Bt K mg C fI) (c_is_sequence : Cal P w K mg base "is_sequence" 1 ["thing"] spIsSeq)
    (c_is_whole : Cal P w K mg base "is_whole" 1 ["thing", "low", "high"] spWhole) : FnOk P w K mg base CX0 2 f fd ["bits", "things"] spLotOf := by
  refine F.ok sc_lot_of (fun vs H Q E h => ?_) (fun cdv A outer s H vs Q E hr h => ?_)
  · obtain ⟨n, a, ns, rfl, _⟩ := h
    rfl
  · obtain ⟨n, a, ns, rfl, ha, ho, hl, q⟩ := h
    refine ⟨_, 
    (pss_cons (ps_if (pt_not (pt_val (pe_cal c_is_sequence (hr.mono (by decide)) (by rfl) (pa_cons (pv 1) pa_nil)))) 
      (pss_one (ps_ret pe_non)) pss_nil) 
    (pss_cons (ps_for PassesOwn.never rfl (pi_enumA (by rfl) B.zenumerate (pa_cons (pv 1) pa_nil)) (pg_tup rfl (pgs_cons (pg_name (i := 2) sc_lot_of.nd rfl (by first | exact Or.inl rfl | exact Or.inr rfl)) (pgs_cons (pg_name (i := 3) sc_lot_of.nd rfl (by first | exact Or.inl rfl | exact Or.inr rfl)) pgs_nil))) 
      (pss_one (ps_if (PW.pt (pw_or (pt_not (pt_val (pe_cal c_is_whole (hr.mono (by decide)) (by rfl) (pa_cons (pv 3) (pa_cons pe_int (pa_cons (pe_op op_sub (pv 0) pe_int) pa_nil)))))) (pw_or1 (pt_cmpR (kIn K rfl) (pv 3) (pe_slice sl_list (pv 1) po_none (po_some (pv 2))) (by rfl))))) 
        (pss_one (ps_ret pe_non)) pss_nil))) 
    (pss_one (ps_ret (pe_callTy (kTuple K rfl) (by rfl) B.ztuple (by decide +kernel) (pa_cons (pe_callB cr_sorted (by rfl) B.zsorted (by decide +kernel) (pa_cons (pv 1) pa_nil)) pa_nil)))))), ?_⟩
    refine ⟨_, rfl, _, true, rfl, .lst ha, fun H0 e0 => ⟨_, rfl, iteF ?_⟩⟩
    refine ⟨_, rfl, a, iv ns, rfl, .inl ⟨SqL.of (e0 _ _ ha), for_it walk_enum (fun i σ H' => ∃ o1 o2 : Option V, σ = [some (.int (n : Int)), some (.ref a), o1, o2] ∧ Ex H H')
      ⟨_, _, rfl, e0⟩ (fun i σ H' _ ⟨_, _, _, e⟩ => SqL.of (e _ _ ha)) ?_ ?_⟩⟩
    · rintro i x σ H1 H2 hi ⟨o1, o2, rfl, e⟩ ⟨T, x, y, rfl, hT, rfl, ex, ey⟩
      cases ex
      obtain ⟨b, hb, rfl⟩ := iv_of ey
      have e2 := e.trans (Ex.new (o := .tup [.int ((i : Nat) : Int), .int (b : Int)]) hT)
      refine ⟨T, _, rfl, SqT.of upd_same, rfl, _, _, rfl, _, _, rfl, rfl, ?_⟩
      have hbm := List.mem_of_getElem? hb
      have hbn := ho.2.2 b hbm
      have hw : isW (.int (b : Int)) 0 ((n : Int) - 1) = true := by
        simp only [isW]
        rw [decide_eq_true (by omega), decide_eq_true (by omega)]
        rfl
      refine ⟨_, rfl, _, rfl, _, _, rfl, rfl, _, _, _, rfl, .int _, ?_⟩
      rw [hw]
      refine ⟨_, rfl, iteF ⟨_, rfl, _, rfl, _, rfl, _, rfl, a, _, rfl, SqL.of (e2 _ _ ha), fun p hp => ?_⟩⟩
      rw [cut_to, iv_take]
      refine ⟨p, _, rfl, .inl (SqL.of upd_same), rfl, iv_flat _, _, rfl, ?_⟩
      rw [if_neg (by decide), inV_iv]
      have hnot : ¬ b ∈ ns.take i := fun hm => by
        obtain ⟨j, hj⟩ := List.getElem?_of_mem hm
        have hji : j < i := by
          have := (List.getElem?_eq_some_iff.mp hj).1
          rw [List.length_take] at this
          omega
        rw [List.getElem?_take_of_lt hji] at hj
        have := nd_ix (asc_nodup ho.2.1) hj hb
        omega
      rw [decide_eq_false hnot]
      refine iteF ?_
      exact ⟨_, _, rfl, e2.trans (Ex.new hp)⟩
    · rintro σ H1 ⟨o1, o2, rfl, e⟩
      refine ⟨_, rfl, a, _, rfl, by rw [← iv_ints]; exact SqL.of (e _ _ ha), by rw [List.length_map]; omega, fun ns' p hperm hasc hp => ?_⟩
      obtain ⟨ms, rfl, h1, h2, h3⟩ := sorted_nat hperm hasc (asc_nodup ho.2.1)
      have em : ms = ns := asc_unique h1 ho.2.1 h2
      subst em
      rw [← iv_ints]
      exact ⟨p, _, rfl, .inl ⟨SqL.of upd_same, fun t ht => q _ _ ((e.trans (Ex.new hp)).trans (Ex.new ht)) ⟨t, rfl, upd_same⟩⟩⟩
/-! ### a code is made -/
/-- lists of numbers -/
def ILs (H : Hp) (xs : List V) (nss : List (List Nat)) : Prop := xs.length = nss.length ∧ ∀ (i : Nat) x ns, xs[i]? = some x → nss[i]? = some ns → ∃ a, x = .ref a ∧ H a = some (.lst (iv ns))
theorem ILs.ex {H H' : Hp} {xs : List V} {nss : List (List Nat)} (h : ILs H xs nss) (e : Ex H H') : ILs H' xs nss := ⟨h.1, fun i x ns a b => let ⟨c, d, f⟩ := h.2 i x ns a b; ⟨c, d, e _ _ f⟩⟩
theorem putF_bits (v : V) : putF "bits" v [] = ([("bits", v)] : List (Str × V)) := rfl
theorem putF_checks (v u : V) : putF "checks" u ([("bits", v)] : List (Str × V)) = ([("bits", v), ("checks", u)] : List (Str × V)) := by
  show (if ("bits" : Str) = "checks" then [(("bits" : Str), u)] else (("bits" : Str), v) :: putF "checks" u []) = ([("bits", v), ("checks", u)] : List (Str × V))
  rw [if_neg (by decide +kernel)]
  rfl
def spInit (C : Addr) : Sp := fun vs H Q _ => ∃ (x dx a : Addr) (n : Nat) (xs : List V) (cs : List (List Nat)), vs = [.ref x, .int (n : Int), .ref a] ∧ H x = some (.ins C dx []) ∧ H a = some (.lst xs) ∧ ILs H xs cs ∧ Good n cs ∧ cs.length ≤ 60 ∧ 1 ≤ n ∧ n ≤ 10 ∧
  ∀ H' : Hp, (∀ b o, b ≠ x → H b = some o → H' b = some o) → CodeAt C H' (.ref x) n cs → Q .non H'
theorem len10 {n : Nat} {ns : List Nat} (h : LotOk n ns) : ns.length ≤ n := by
  have := sub_len (asc_nodup h.2.1) (m := List.range n) fun x hx => List.mem_range.mpr (h.2.2 x hx)
  rw [List.length_range] at this
  exact this
theorem ok_init {f : Addr} {fd : FuncData} (F : Fun K "__init__" "Code.__init__" s_Code_init f fd) (B : Bt K mg C fI) (c_is_sequence : Cal P w K mg base "is_sequence" 1 ["thing"] spIsSeq)
    (c_is_whole : Cal P w K mg base "is_whole" 1 ["thing", "low", "high"] spWhole) (c_lot_of : Cal P w K mg base "lot_of" 2 ["bits", "things"] spLotOf) : FnOk P w K mg base CX0 3 f fd ["self", "bits", "checks"] (spInit C) := by
  refine F.ok sc_Code_init (fun vs H Q E h => ?_) (fun cdv A outer s H vs Q E hr h => ?_)
  · obtain ⟨x, dx, a, n, xs, cs, rfl, _⟩ := h
    rfl
  · obtain ⟨x, dx, a, n, xs, cs, rfl, hx, ha, hil, hg, hlen, n1, n10, q⟩ := h
    refine ⟨_, 
    (pss_cons (ps_if (pt_not (pt_val (pe_cal c_is_whole (hr.mono (by decide)) (by rfl) (pa_cons (pv 1) (pa_cons pe_int (pa_cons (pe_num (by rfl) B.cMOST_BITS) pa_nil)))))) 
      (pss_one ps_never) pss_nil) 
    (pss_cons (ps_if (PW.pt (pw_or (pt_not (pt_val (pe_cal c_is_sequence (hr.mono (by decide)) (by rfl) (pa_cons (pv 2) pa_nil)))) (pw_or1 (pt_cmpR op_gt (pe_callB (kLen K rfl) (by rfl) B.zlen (by decide +kernel) (pa_cons (pv 2) pa_nil)) (pe_num (by rfl) B.cMOST_CHECKS) (nomark _))))) 
      (pss_one ps_never) pss_nil) 
    (pss_cons (ps_set (i := 3) sc_Code_init.nd rfl (by first | exact Or.inl rfl | exact Or.inr rfl) (pe_lst pa_nil)) 
    (pss_cons (ps_for PassesOwn.never rfl (pi_enumA (by rfl) B.zenumerate (pa_cons (pv 2) pa_nil)) (pg_tup rfl (pgs_cons (pg_name (i := 4) sc_Code_init.nd rfl (by first | exact Or.inl rfl | exact Or.inr rfl)) (pgs_cons (pg_name (i := 5) sc_Code_init.nd rfl (by first | exact Or.inl rfl | exact Or.inr rfl)) pgs_nil))) 
      (pss_cons (ps_set (i := 6) sc_Code_init.nd rfl (by first | exact Or.inl rfl | exact Or.inr rfl) (pe_cal c_lot_of (hr.mono (by decide)) (by rfl) (pa_cons (pv 1) (pa_cons (pv 5) pa_nil)))) 
      (pss_cons (ps_if (PW.pt (pw_or (pt_cmpR op_isN (pv 6) pe_non (nomark _)) (pw_or1 (pt_cmpR op_eq (pe_callB (kLen K rfl) (by rfl) B.zlen (by decide +kernel) (pa_cons (pv 6) pa_nil)) pe_int (nomark _))))) 
        (pss_one ps_never) pss_nil) 
      (pss_one (ps_expr (pe_bm PySem.F.plainAttrs_list PySem.F.slot_list_append PySem.F.type_list_append mt_append (pv 3) (pa_cons (pv 6) pa_nil))))))) 
    (pss_cons (ps_fld (pv 0) (pv 1) rfl) 
    (pss_one (ps_fld (pv 0) (pe_callTy (kTuple K rfl) (by rfl) B.ztuple (by decide +kernel) (pa_cons (pv 3) pa_nil)) rfl))))))), ?_⟩
    have hw : isW (.int (n : Int)) 1 10 = true := by
      simp only [isW]
      rw [decide_eq_true (by omega), decide_eq_true (by omega)]
      rfl
    refine ⟨_, rfl, _, _, _, rfl, .int _, ?_⟩
    rw [hw]
    refine ⟨_, rfl, iteF ?_⟩
    refine ⟨_, rfl, _, true, rfl, .lst ha, fun H0 e0 => ⟨_, rfl, iteF ⟨_, rfl, a, _, rfl, .inl (SqL.of (e0 _ _ ha)), _, _, rfl, rfl, _, rfl, ?_⟩⟩⟩
    refine ite2 (fun hbig => ?_) (fun _ => ?_)
    · have := of_decide_eq_true hbig
      rw [hil.1] at this
      omega
    refine ⟨Nat.zero_le _, fun rl hrl => ?_⟩
    have hrl0 : H rl = none := fresh_back e0 hrl
    refine ⟨_, rfl, a, xs, rfl, .inl ⟨SqL.of (Ex.new hrl _ _ (e0 _ _ ha)), for_it walk_enum (fun i σ H' => ∃ (ys : List V) (o1 o2 o3 : Option V), σ = [some (.ref x), some (.int (n : Int)), some (.ref a), some (.ref rl), o1, o2, o3] ∧ H' rl = some (.lst ys) ∧ ITs H' ys (cs.take i) ∧ Ex H H')
      ⟨[], _, _, _, rfl, upd_same, by rw [List.take_zero]; exact .nil, e0.trans (Ex.new hrl)⟩ (fun i σ H' _ ⟨_, _, _, _, _, _, _, e⟩ => SqL.of (e _ _ ha)) ?_ ?_⟩⟩
    · rintro i y σ H1 H2 hi ⟨ys, o1, o2, o3, rfl, hys, hts, e⟩ ⟨T, y1, y2, rfl, hT, rfl, ex, ey⟩
      cases ex
      rw [hil.1] at hi
      have hns : cs[i]? = some cs[i] := List.getElem?_eq_getElem hi
      obtain ⟨b, rfl, hb⟩ := hil.2 i y2 _ ey hns
      have ho := good_at hg hns
      have eT : Ex H1 (upd H1 T (.tup [.int ((i : Nat) : Int), .ref b])) := Ex.new hT
      have e2 := e.trans eT
      refine ⟨T, _, rfl, SqT.of upd_same, rfl, _, _, rfl, _, _, rfl, rfl, ?_⟩
      refine ⟨_, rfl, _, rfl, n, b, _, rfl, e2 _ _ hb, ho, Nat.le_trans (len10 ho) (by omega), fun v H3 e3 hv => ?_⟩
      obtain ⟨t, rfl, ht⟩ := hv
      refine ⟨_, rfl, rfl, _, rfl, ?_⟩
      refine ite2 (fun z => absurd (of_decide_eq_true z) (by intro q; cases q)) (fun _ => ?_)
      refine ⟨_, rfl, t, _, rfl, .inr (SqT.of ht), rfl, _, rfl, ?_⟩
      refine ite2 (fun z => ?_) (fun _ => ?_)
      · have z1 := of_decide_eq_true z
        rw [iv_len] at z1
        have z2 : ((cs[i].length : Nat) : Int) = 0 := by injection z1
        exact absurd (List.length_eq_zero_iff.mp (by omega)) ho.1
      · have e13 := eT.trans e3
        refine ⟨_, rfl, .inl ⟨rfl, _, SqL.of (e13 _ _ hys)⟩, _, rfl, rl, _, _, rfl, rfl, e13 _ _ hys, ?_, ys ++ [.ref t], _, _, _, rfl, upd_same, ?_, (e.trans e13).mut hrl0⟩
        · rw [hts.1, List.length_take]
          exact small1000 (by omega)
        · rw [take_snoc hns]
          exact ((hts.ex e13).snoc ⟨t, rfl, ht⟩).upd (e13 _ _ hys)
    · rintro σ H1 ⟨ys, o1, o2, o3, rfl, hys, hts, e⟩
      rw [hil.1, List.take_length] at hts
      refine ⟨_, rfl, _, rfl, x, C, dx, [], rfl, e _ _ hx, B.cl, B.nB, by show 0 < 1000; decide, ?_⟩
      rw [putF_bits]
      have nxr : rl ≠ x := (ne_of (e _ _ hx) hys (by intro z; cases z)).symm
      refine ⟨_, rfl, rl, _, rfl, .inl ⟨SqL.of (by rw [upd_ne nxr]; exact hys), fun t ht => ?_⟩⟩
      have ntx : t ≠ x := fun z => by rw [z, upd_same] at ht; cases ht
      have ht1 : H1 t = none := by rw [upd_ne ntx] at ht; exact ht
      refine ⟨_, rfl, x, C, dx, _, rfl, Eq.trans (upd_ne ntx.symm) upd_same, B.cl, B.nC, by show 1 < 1000; decide, ?_⟩
      rw [putF_checks]
      refine q _ (fun b o hb eb => ?_) ⟨x, dx, t, ys, rfl, upd_same, ?_, ⟨hts.1, fun i y ns hy hns => ?_⟩⟩
      · rw [upd_ne hb, upd_ne (ne_of_none (e _ _ eb) ht1), upd_ne hb]
        exact e _ _ eb
      · rw [upd_ne ntx]
        exact upd_same
      · obtain ⟨b, rfl, hb⟩ := hts.2 i y ns hy hns
        have nbx : b ≠ x := ne_of hb (e _ _ hx) (by intro z; cases z)
        refine ⟨b, rfl, ?_⟩
        rw [upd_ne nbx, upd_ne (ne_of_none hb ht1), upd_ne nbx]
        exact hb
def spMade (C : Addr) : Sp := fun vs H Q _ => ∃ (n : Nat) (v : V) (cs : List (List Nat)), vs = [.int (n : Int), v] ∧ CkL H v cs ∧ Good n cs ∧ cs.length ≤ 8 ∧ 1 ≤ n ∧ n ≤ 8 ∧ ∀ (u : V) (H' : Hp), Ex H H' → CodeAt C H' u n cs → Q u H'
theorem ok_law_made {f fI : Addr} {fd fdI : FuncData} (F : Fun K "_law_made" "_law_made" s__law_made f fd) (B : Bt K mg C fI) (GI : FnOk P w K mg base CX0 3 fI fdI ["self", "bits", "checks"] (spInit C)) (bI : Binds K fdI ["self", "bits", "checks"] []) :
    FnOk P w K mg base CX0 5 f fd ["_law_bits", "_law_checks"] (spMade C) := by
  refine F.ok sc__law_made (fun vs H Q E h => ?_) (fun cdv A outer s H vs Q E hr h => ?_)
  · obtain ⟨n, v, cs, rfl, _⟩ := h
    rfl
  · obtain ⟨n, v, cs, rfl, ⟨p, xs, rfl, hp, hts⟩, hg, hl, n1, n8, q⟩ := h
    refine ⟨_, 
    (pss_one (ps_ret (pe_make B.mkCode GI (hr.mono (by decide)) (by rfl) B.mgCode bI .nil pass0 (pa_cons (pv 0) (pa_cons (pe_lc rfl sc__law_made.nd (pi_list (pv 1)) (blkOk_by (own := [("_law_lot_here", 2)]) (N := ["_law_bits", "_law_checks", "_law_lot_here"]) (sc := (defScope s__law_made)) (by decide +kernel)) (fun _ _ _ _ _ => (pg_name (i := 2) sc__law_made.nd rfl (by first | exact Or.inl rfl | exact Or.inr rfl))) (fun _ _ _ _ _ => pts_nil) (fun _ _ _ _ _ => (pe_callTy (kLst K rfl) (by rfl) B.zlist (by decide +kernel) (pa_cons (pv 2) pa_nil)))) pa_nil))))), ?_⟩
    refine ⟨_, rfl, _, rfl, p, rfl, ⟨_, SqL.of hp⟩, fun D hD => lc_list (K := K) (a := p) (xs := xs) (fun i H' => ∃ ys : List V, H' D = some (.lst ys) ∧ ILs H' ys (cs.take i) ∧ (∀ (j : Nat) (b : Addr), ys[j]? = some (.ref b) → b ≠ D) ∧ Ex H H')
      ⟨[], upd_same, ⟨by simp, fun i x ns a => by simp at a⟩, fun j b a => by simp at a, Ex.new hD⟩ (fun i H' _ ⟨_, _, _, _, e⟩ => SqL.of (e _ _ hp)) ?_ ?_⟩
    · rintro i y H1 hi ⟨ys, hys, his, hne, e⟩
      obtain ⟨ns, hns, hit⟩ := hts.get hi
      obtain ⟨t, rfl, ht⟩ := hit.ex e
      refine ⟨rfl, lc_yes ?_⟩
      refine ⟨_, rfl, t, _, rfl, .inr (SqT.of ht), fun l hll => ?_⟩
      have e1 : Ex H1 (upd H1 l (.lst (iv ns))) := Ex.new hll
      have hyl : ys.length = i := by
        have := (List.getElem?_eq_some_iff.mp hns).1
        rw [his.1, List.length_take]
        omega
      refine ⟨ys, e1 _ _ hys, small1000 (by have := (List.getElem?_eq_some_iff.mp hns).1; omega), ys ++ [.ref l], upd_same, ⟨?_, fun j x ms hx hms => ?_⟩, fun j b hb => ?_, (e.trans e1).mut hD⟩
      · rw [take_snoc hns, List.length_append, List.length_append, his.1]
        rfl
      · rw [take_snoc hns] at hms
        have hlD : l ≠ D := (ne_of_none hys hll).symm
        by_cases hj : j < ys.length
        · rw [List.getElem?_append_left hj] at hx
          rw [List.getElem?_append_left (by rw [← his.1]; exact hj)] at hms
          obtain ⟨b, rfl, hb⟩ := his.2 j x ms hx hms
          refine ⟨b, rfl, ?_⟩
          have hbD : b ≠ D := hne j b hx
          rw [upd_ne hbD]
          exact e1 _ _ hb
        · rw [List.getElem?_append_right (by omega)] at hx
          rw [List.getElem?_append_right (by rw [← his.1]; omega)] at hms
          have ej : j = ys.length := by
            have := (List.getElem?_eq_some_iff.mp hx).1
            simp only [List.length_singleton] at this
            omega
          rw [ej, Nat.sub_self] at hx
          rw [ej, his.1, Nat.sub_self] at hms
          cases hx
          cases hms
          refine ⟨l, rfl, ?_⟩
          rw [upd_ne hlD]
          exact upd_same
      · by_cases hj : j < ys.length
        · rw [List.getElem?_append_left hj] at hb
          exact hne j b hb
        · rw [List.getElem?_append_right (by omega)] at hb
          have ej : j = ys.length := by
            have := (List.getElem?_eq_some_iff.mp hb).1
            simp only [List.length_singleton] at this
            omega
          rw [ej, Nat.sub_self] at hb
          cases hb
          exact (ne_of_none hys hll).symm
    · rintro H1 ⟨ys, hys, his, hne, e⟩
      have hlx := hts.1
      rw [hlx, List.take_length] at his
      intro x dx nx ndx nex
      have s1 : Ex H1 (upd (upd H1 dx (.own x)) x (.ins C dx [])) := fun b o eb => by
        rw [upd_ne (ne_of_none eb nx), upd_ne (ne_of_none eb ndx)]
        exact eb
      refine ⟨x, dx, D, n, ys, cs, rfl, upd_same, s1 _ _ hys, his.ex s1, hg, by omega, n1, by omega, fun H2 hk hc => ⟨rfl, ?_⟩⟩
      refine q _ H2 (fun b o eb => ?_) hc
      exact hk b o (ne_of_none (e _ _ eb) nx) (s1 _ _ (e _ _ eb))
end
end Kd

namespace Kd
open PySem PySem.Spec PyProof.Rows L2 Evl Km Kr Kb Kc
section
variable {P : Program} {w : World} {K : PySem.W.Frag} {mg : Str → Option Value} {base : Heap} {C fI : Addr}
def spLCode : Sp := fun vs H Q _ => ∃ ha : Addr, vs = [.ref ha, .int 1, .int 8, .int 4] ∧ HandAt H ha ∧
  ∀ (n : Nat) (ck : V) (cs : List (List Nat)) (p : Addr) (H' : Hp), Ex H H' → H' p = some (.tup [.int (n : Int), ck]) → CkL H' ck cs → Good n cs → cs.length ≤ 8 → 1 ≤ n → n ≤ 8 → Q (.ref p) H'
theorem ok_law_code {f : Addr} {fd : FuncData} (F : Fun K "_law_code" "_law_code" s__law_code f fd) (B : Bt K mg C fI) (c__law_draw : Cal P w K mg base "_law_draw" 2 ["_law_hand_here", "_law_many"] spDraw)
    (c__law_free_checks : Cal P w K mg base "_law_free_checks" 4 ["_law_hand_here", "_law_bits", "_law_many", "_law_widest"] spFree) (c__law_tie_checks : Cal P w K mg base "_law_tie_checks" 3 ["_law_hand_here", "_law_bits", "_law_posts"] spTie)
    (c__law_ringless_checks : Cal P w K mg base "_law_ringless_checks" 3 ["_law_hand_here", "_law_bits", "_law_widest"] spRingless) : FnOk P w K mg base CX0 5 f fd ["_law_hand_here", "_law_low", "_law_high", "_law_widest"] spLCode := by
  refine F.ok sc__law_code (fun vs H Q E h => ?_) (fun cdv A outer s H vs Q E hr h => ?_)
  · obtain ⟨ha, rfl, _⟩ := h
    rfl
  · obtain ⟨ha, rfl, hh, q⟩ := h
    refine ⟨_, 
    (pss_cons (ps_set (i := 4) sc__law_code.nd rfl (by first | exact Or.inl rfl | exact Or.inr rfl) (pe_op op_add (pv 1) (pe_cal c__law_draw (hr.mono (by decide)) (by rfl) (pa_cons (pv 0) (pa_cons (pe_op op_add (pe_op op_sub (pv 2) (pv 1)) pe_int) pa_nil))))) 
    (pss_cons (ps_set (i := 5) sc__law_code.nd rfl (by first | exact Or.inl rfl | exact Or.inr rfl) (pe_cal c__law_draw (hr.mono (by decide)) (by rfl) (pa_cons (pv 0) (pa_cons pe_int pa_nil)))) 
    (pss_cons (ps_if (pt_cmpR op_eq (pv 5) pe_int (nomark _)) 
      (pss_one (ps_ret (pe_tup (pa_cons (pv 4) (pa_cons (pe_cal c__law_ringless_checks (hr.mono (by decide)) (by rfl) (pa_cons (pv 0) (pa_cons (pv 4) (pa_cons (pv 3) pa_nil)))) pa_nil))))) pss_nil) 
    (pss_cons (ps_if (PW.pt (pw_and (pt_cmpR op_lt (pv 5) pe_int (nomark _)) (pw_and1 (pt_cmpR op_gt (pv 4) pe_int (nomark _))))) 
      (pss_one (ps_ret (pe_tup (pa_cons (pv 4) (pa_cons (pe_cal c__law_tie_checks (hr.mono (by decide)) (by rfl) (pa_cons (pv 0) (pa_cons (pv 4) (pa_cons (pe_op op_add pe_int (pe_cal c__law_draw (hr.mono (by decide)) (by rfl) (pa_cons (pv 0) (pa_cons pe_int pa_nil)))) pa_nil)))) pa_nil))))) pss_nil) 
    (pss_one (ps_ret (pe_tup (pa_cons (pv 4) (pa_cons (pe_cal c__law_free_checks (hr.mono (by decide)) (by rfl) (pa_cons (pv 0) (pa_cons (pv 4) (pa_cons (pe_ifExp (pt_cmpR op_eq (pv 5) pe_int (nomark _)) (pe_cal c__law_draw (hr.mono (by decide)) (by rfl) (pa_cons (pv 0) (pa_cons pe_int pa_nil))) (pe_op op_add pe_int (pe_cal c__law_draw (hr.mono (by decide)) (by rfl) (pa_cons (pv 0) (pa_cons pe_int pa_nil))))) (pa_cons (pv 3) pa_nil))))) pa_nil))))))))), ?_⟩
    refine ⟨_, rfl, _, rfl, _, rfl, _, rfl, _, _, rfl, rfl, _, _, rfl, rfl, ha, _, rfl, by decide, by decide, hh, fun b H1 b0 b1 e1 => ?_⟩
    refine ⟨_, _, rfl, rfl, ?_⟩
    show gName 4 (V.int (1 + b)) _ _ _
    have b8 : b < 8 := b1
    obtain ⟨n, hn⟩ := Int.eq_ofNat_of_zero_le (show 0 ≤ 1 + b by omega)
    rw [hn]
    have n1 : 1 ≤ n := by omega
    have n8 : n ≤ 8 := by omega
    clear hn b8 b1 b0
    refine ⟨_, rfl, ha, 8, rfl, by decide, by decide, hh.ex e1, fun pk H2 pk0 pk1 e2 => ?_⟩
    have e12 := e1.trans e2
    -- the end, whatever checks were drawn
    have fin : ∀ (v : V) (cs : List (List Nat)) (H3 : Hp), Ex H2 H3 → CkL H3 v cs → Good n cs → cs.length ≤ 8 → [V.int (n : Int), v].length ≤ sizeLine ∧ ∀ p, H3 p = none → Q (.ref p) (upd H3 p (.tup [.int (n : Int), v])) := fun v cs H3 e3 hv hg hl =>
      ⟨by show 2 ≤ sizeLine; decide, fun p hp => q n v cs p _ ((e12.trans e3).trans (Ex.new hp)) upd_same (hv.ex (Ex.new hp)) hg hl n1 n8⟩
    refine ⟨_, rfl, rfl, _, rfl, ?_⟩
    refine ite2 (fun _ => ?_) (fun _ => ?_)
    · exact ⟨_, rfl, _, rfl, _, rfl, _, rfl, ha, n, rfl, n1, n8, hh.ex e12, fun v cs H3 e3 hv hg hl => fin v cs H3 e3 hv hg hl⟩
    · refine ⟨_, rfl, _, _, rfl, rfl, _, rfl, ?_⟩
      have free : ∀ (many : Int) (H3 : Hp), 0 ≤ many → many ≤ 5 → Ex H2 H3 → spFree [.ref ha, .int (n : Int), .int many, .int 4] H3 (fun v H4 => [V.int (n : Int), v].length ≤ sizeLine ∧ ∀ p, H4 p = none → Q (.ref p) (upd H4 p (.tup [.int (n : Int), v]))) E0 := fun many H3 m0 m1 e3 =>
        ⟨ha, n, many, rfl, n1, n8, m0, m1, hh.ex (e12.trans e3), fun v cs H4 e4 hv hg hl => fin v cs H4 (e3.trans e4) hv hg hl⟩
      refine ite2 (fun _ => ?_) (fun _ => ?_)
      · refine ⟨_, rfl, _, _, rfl, rfl, _, rfl, ?_⟩
        refine ite2 (fun hb => ?_) (fun _ => ?_)
        · refine ⟨_, rfl, _, rfl, _, rfl, _, rfl, ha, 3, rfl, by decide, by decide, hh.ex e12, fun d H3 d0 d1 e3 => ?_⟩
          refine ⟨_, _, rfl, rfl, ?_⟩
          obtain ⟨po, hpo⟩ := Int.eq_ofNat_of_zero_le (show 0 ≤ 2 + d by omega)
          exact ⟨ha, n, po, by rw [← hpo]; rfl, n1, n8, by omega, by omega, hh.ex (e12.trans e3), fun v cs H4 e4 hv hg hl => fin v cs H4 (e3.trans e4) hv hg hl⟩
        · refine ⟨_, rfl, _, rfl, _, rfl, _, rfl, rfl, _, rfl, ?_⟩
          refine ite2 (fun _ => ?_) (fun _ => ?_)
          · exact ⟨_, rfl, ha, 5, rfl, by decide, by decide, hh.ex e12, fun d H3 d0 d1 e3 => ⟨_, rfl, free d H3 d0 (by omega) e3⟩⟩
          · exact ⟨_, rfl, ha, 3, rfl, by decide, by decide, hh.ex e12, fun d H3 d0 d1 e3 => ⟨_, _, rfl, rfl, _, rfl, free (2 + d) H3 (by omega) (by omega) e3⟩⟩
      · refine ⟨_, rfl, _, rfl, _, rfl, _, rfl, rfl, _, rfl, ?_⟩
        refine ite2 (fun _ => ?_) (fun _ => ?_)
        · exact ⟨_, rfl, ha, 5, rfl, by decide, by decide, hh.ex e12, fun d H3 d0 d1 e3 => ⟨_, rfl, free d H3 d0 (by omega) e3⟩⟩
        · exact ⟨_, rfl, ha, 3, rfl, by decide, by decide, hh.ex e12, fun d H3 d0 d1 e3 => ⟨_, _, rfl, rfl, _, rfl, free (2 + d) H3 (by omega) (by omega) e3⟩⟩
theorem ok_law_wholes {f : Addr} {fd : FuncData} (F : Fun K "_law_wholes" "_law_wholes" s__law_wholes f fd) (B : Bt K mg C fI) (c__law_whole : Cal P w K mg base "_law_whole" 1 ["_law_thing"] spLWhole) :
    FnOk P w K mg base CX0 2 f fd ["_law_thing", "_law_many"] spWholes := by
  refine F.ok sc__law_wholes (fun vs H Q E h => ?_) (fun cdv A outer s H vs Q E hr h => ?_)
  · obtain ⟨x, ns, rfl, _⟩ := h
    rfl
  · obtain ⟨x, ns, rfl, ⟨t, rfl, ht⟩, hl, q⟩ := h
    refine ⟨_, 
    (pss_cons (ps_if (PW.pt (pw_or (pt_not (pt_val (pe_callB (kIsi K rfl) (by rfl) B.zisinstance (by decide +kernel) (pa_cons (pv 0) (pa_cons (pe_bltn (v := .ty "tuple") (by rfl) B.ztuple (by decide +kernel) rfl) pa_nil))))) (pw_or1 (pt_cmpR op_ne (pe_callB (kLen K rfl) (by rfl) B.zlen (by decide +kernel) (pa_cons (pv 0) pa_nil)) (pv 1) (nomark _))))) 
      (pss_one (ps_ret pe_bl)) pss_nil) 
    (pss_one (ps_ret (pe_callB (cr_all rfl) (by rfl) B.zall (by decide +kernel) (pa_cons (pe_lc rfl sc__law_wholes.nd (pi_tup (pv 0)) (blkOk_by (own := [("_law_part", 2)]) (N := ["_law_thing", "_law_many", "_law_part"]) (sc := (defScope s__law_wholes)) (by decide +kernel)) (fun _ _ _ _ _ => (pg_name (i := 2) sc__law_wholes.nd rfl (by first | exact Or.inl rfl | exact Or.inr rfl))) (fun _ _ _ _ _ => pts_nil) (fun _ _ _ _ _ => (pe_cal c__law_whole (hr.mono (by decide)) (by rfl) (pa_cons (pv 2) pa_nil)))) pa_nil))))), ?_⟩
    refine ⟨_, rfl, _, _, _, _, true, rfl, .ty "tuple", .base (.tup ht), kit_ty (by decide +kernel), true, rfl, iteF ⟨_, rfl, t, _, rfl, .inr (SqT.of ht), _, rfl, rfl, _, rfl, ?_⟩⟩
    rw [iv_len]
    refine ite2 (fun z => ?_) (fun _ => ?_)
    · simp at z
    refine ⟨_, rfl, t, rfl, ⟨_, SqT.of ht⟩, fun D hD => lc_tup (K := K) (a := t) (xs := iv ns) (fun i H' => H' D = some (.lst ((List.replicate i true).map V.bl)) ∧ Ex H H')
      ⟨upd_same, Ex.new hD⟩ (fun i H' _ ⟨_, e⟩ => SqT.of (e _ _ ht)) ?_ ?_⟩
    · rintro i y H1 hi ⟨h1, e⟩
      obtain ⟨b, hb, rfl⟩ := iv_of hi
      have hib := (List.getElem?_eq_some_iff.mp hb).1
      refine ⟨rfl, lc_yes ?_⟩
      refine ⟨_, rfl, _, rfl, .int _, _, h1, by rw [List.length_map, List.length_replicate]; exact small1000 (by omega), ?_, e.mut hD⟩
      rw [upd_same, List.replicate_succ', List.map_append]
      rfl
    · rintro H1 ⟨h1, e⟩
      refine ⟨D, _, rfl, SqL.of h1, ?_⟩
      have ea : ∀ k : Nat, (List.replicate k true).all id = true := fun k => by
        induction k with
        | zero => rfl
        | succ k ih => rw [List.replicate_succ, List.all_cons, ih]; rfl
      rw [ea]
      exact q H1 e
end
end Kd

namespace Kd
open PySem PySem.Spec PyProof.Rows L2 Evl Km Kr Kb Kc
section
variable {P : Program} {w : World} {K : PySem.W.Frag} {mg : Str → Option Value} {base : Heap} {C fI : Addr}
theorem cf_bits (n : Nat) (t : Addr) : (cf n t).lookup ("bits" : Str) = some (.int (n : Int)) := rfl
theorem cf_checks (n : Nat) (t : Addr) : (cf n t).lookup ("checks" : Str) = some (.ref t) := by
  unfold cf
  rw [List.lookup_cons]
  have e : (("checks" : Str) == ("bits" : Str)) = false := by decide +kernel
  rw [e]
  rfl
/-- a tuple of tuples of numbers -/
def TTs (H : Hp) (u : V) (nss : List (List Nat)) : Prop := ∃ (t : Addr) (xs : List V), u = .ref t ∧ H t = some (.tup xs) ∧ ITs H xs nss
theorem TTs.ex {H H' : Hp} {u : V} {nss : List (List Nat)} (h : TTs H u nss) (e : Ex H H') : TTs H' u nss := let ⟨t, xs, a, b, c⟩ := h; ⟨t, xs, a, e _ _ b, c.ex e⟩
theorem iv_rg (n : Nat) : rgV 0 (n : Int) = iv (List.range n) := by
  unfold rgV iv
  have e : ((n : Int) - 0).toNat = n := by omega
  rw [e]
  exact List.map_congr_left fun i _ => by rw [Int.zero_add]
theorem filter_range_succ2 {i : Nat} {p : Nat → Bool} : (List.range (i + 1)).filter p = (List.range i).filter p ++ (if p i = true then [i] else []) := by
  rw [List.range_succ, List.filter_append]
  congr 1
  cases h : p i <;> simp [h]
theorem map_take_snoc {α β : Type} {g : α → β} {l : List α} {i : Nat} {x : α} (h : l[i]? = some x) : (l.take (i + 1)).map g = (l.take i).map g ++ [g x] := by
  rw [take_snoc h, List.map_append]
  rfl
def spPieces (C : Addr) : Sp := fun vs H Q _ => ∃ (v : V) (n : Nat) (cs : List (List Nat)), vs = [v] ∧ CodeAt C H v n cs ∧ Good n cs ∧ cs.length ≤ 60 ∧ n ≤ 10 ∧ ∀ (u : V) (H' : Hp), Ex H H' → TTs H' u (pieces n cs) → Q u H'
theorem ok_code_pieces {f : Addr} {fd : FuncData} (F : Fun K "code_pieces" "code_pieces" s_code_pieces f fd) (B : Bt K mg C fI) : FnOk P w K mg base CX0 1 f fd ["code"] (spPieces C) := by
  refine F.ok sc_code_pieces (fun vs H Q E h => ?_) (fun cdv A outer s H vs Q E hr h => ?_)
  · obtain ⟨v, n, cs, rfl, _⟩ := h
    rfl
  · obtain ⟨v, n, cs, rfl, ⟨p, dx, t, xs, rfl, hp, ht, hts⟩, hg, hl, hn, q⟩ := h
    refine ⟨_, 
    (pss_cons (ps_set (i := 1) sc_code_pieces.nd rfl (by first | exact Or.inl rfl | exact Or.inr rfl) (pe_listRg rfl (by rfl) B.zlist (prg_1 (by rfl) B.zrange (kFld K rfl (pv 0) rfl)))) 
    (pss_cons (ps_for PassesOwn.never rfl (pi_tup (kFld K rfl (pv 0) rfl)) (pg_name (i := 2) sc_code_pieces.nd rfl (by first | exact Or.inl rfl | exact Or.inr rfl)) 
      (pss_cons (ps_set (i := 3) sc_code_pieces.nd rfl (by first | exact Or.inl rfl | exact Or.inr rfl) (pe_lc rfl sc_code_pieces.nd (pi_tup (pv 2)) (blkOk_by (own := [("bit", 5)]) (N := ["code", "label", "lot", "names", "least", "bit", "name"]) (sc := (defScope s_code_pieces)) (by decide +kernel)) (fun _ _ _ _ _ => (pg_name (i := 5) sc_code_pieces.nd rfl (by first | exact Or.inl rfl | exact Or.inr rfl))) (fun _ _ _ _ _ => pts_nil) (fun _ _ _ _ _ => (pe_ix (kIxL K rfl) (pv 1) (pv 5) (fun _ _ => rfl))))) 
      (pss_cons (ps_set (i := 4) sc_code_pieces.nd rfl (by first | exact Or.inl rfl | exact Or.inr rfl) (pe_callB (cr_min rfl) (by rfl) B.zmin (by decide +kernel) (pa_cons (pv 3) pa_nil))) 
      (pss_one (ps_set (i := 1) sc_code_pieces.nd rfl (by first | exact Or.inl rfl | exact Or.inr rfl) (pe_lc rfl sc_code_pieces.nd (pi_list (pv 1)) (blkOk_by (own := [("name", 6)]) (N := ["code", "label", "lot", "names", "least", "bit", "name"]) (sc := (defScope s_code_pieces)) (by decide +kernel)) (fun _ _ _ _ _ => (pg_name (i := 6) sc_code_pieces.nd rfl (by first | exact Or.inl rfl | exact Or.inr rfl))) (fun _ _ _ _ _ => pts_nil) (fun _ _ _ _ _ => (pe_ifExp (pt_cmpR (kIn K rfl) (pv 6) (pv 3) (by rfl)) (pv 4) (pv 6))))))))) 
    (pss_one (ps_ret (pe_callTy (kTuple K rfl) (by rfl) B.ztuple (by decide +kernel) (pa_cons (pe_lc rfl sc_code_pieces.nd (pi_list (pe_callB (cr_sortedSet rfl) (by rfl) B.zsorted (by decide +kernel) (pa_cons (pe_callTy (cr_setL rfl) (by rfl) B.zset (by decide +kernel) (pa_cons (pv 1) pa_nil)) pa_nil))) (blkOk_by (own := [("name", 6)]) (N := ["code", "label", "lot", "names", "least", "bit", "name"]) (sc := (defScope s_code_pieces)) (by decide +kernel)) (fun _ _ _ _ _ => (pg_name (i := 6) sc_code_pieces.nd rfl (by first | exact Or.inl rfl | exact Or.inr rfl))) (fun _ _ _ _ _ => pts_nil) (fun _ _ _ _ _ => (pe_callTy (kTuple K rfl) (by rfl) B.ztuple (by decide +kernel) (pa_cons (pe_lc rfl sc_code_pieces.nd (pi_range1 (by rfl) B.zrange (pa_cons (kFld K rfl (pv 0) rfl) pa_nil)) (blkOk_by (own := [("bit", 5)]) (N := ["code", "label", "lot", "names", "least", "bit", "name"]) (sc := (relS _ (defScope s_code_pieces))) (by decide +kernel)) (fun _ _ _ _ _ => (pg_name (i := 5) sc_code_pieces.nd rfl (by first | exact Or.inl rfl | exact Or.inr rfl))) (fun _ _ _ _ _ => (pts_one (pt_cmpR op_eq (pe_ix (kIxL K rfl) (pv 1) (pv 5) (fun _ _ => rfl)) (pv 6) (nomark _)))) (fun _ _ _ _ _ => (pv 5))) pa_nil)))) pa_nil)))))), ?_⟩
    refine ⟨_, rfl, p, C, dx, _, _, rfl, hp, B.cl, B.nB, cf_bits n t, _, rfl, .of_le (by omega) (by omega) (by omega) (by omega), fun ll0 hll0 => ?_⟩
    rw [iv_rg]
    refine ⟨_, rfl, p, C, dx, _, _, rfl, (Ex.new hll0) _ _ hp, B.cl, B.nC, cf_checks n t, t, rfl, ⟨_, SqT.of ((Ex.new hll0) _ _ ht)⟩,
      for_tup (K := K) (a := t) (xs := xs) (fun i σ H' => ∃ (ll : Addr) (o2 o3 o4 : Option V), σ = [some (.ref p), some (.ref ll), o2, o3, o4, none, none] ∧ H' ll = some (.lst (iv (labs n (cs.take i)))) ∧ Ex H H')
      ⟨ll0, _, _, _, rfl, by rw [List.take_zero]; exact upd_same, Ex.new hll0⟩ (fun i σ H' _ ⟨_, _, _, _, _, _, e⟩ => SqT.of (e _ _ ht)) ?_ ?_⟩
    · rintro i y σ H1 hi ⟨ll, o2, o3, o4, rfl, hll, e⟩
      obtain ⟨c, hc, hit⟩ := hts.get hi
      obtain ⟨ct, rfl, hct⟩ := hit.ex e
      have hcm := List.mem_of_getElem? hc
      have hci := (List.getElem?_eq_some_iff.mp hc).1
      obtain ⟨vl, _⟩ := labs_ok hg i (by omega)
      have hcl : c.length ≤ n := by
        have := sub_len (asc_nodup (hg.asc c hcm)) (m := List.range n) fun x hx => List.mem_range.mpr (hg.lt c hcm x hx)
        rw [List.length_range] at this
        exact this
      generalize hL : labs n (cs.take i) = L at *
      -- names
      refine ⟨_, rfl, ct, rfl, ⟨_, SqT.of hct⟩, fun D hD => lc_tup (K := K) (a := ct) (xs := iv c) (fun j H' => H' D = some (.lst (iv ((c.take j).map (lb L)))) ∧ Ex H1 H')
        ⟨by rw [List.take_zero]; exact upd_same, Ex.new hD⟩ (fun j H' _ ⟨_, e'⟩ => SqT.of (e' _ _ hct)) ?_ ?_⟩
      · rintro j x H2 hj ⟨h2, e2⟩
        obtain ⟨b, hb, rfl⟩ := iv_of hj
        have hbn := hg.lt c hcm b (List.mem_of_getElem? hb)
        have hjl := (List.getElem?_eq_some_iff.mp hb).1
        refine ⟨rfl, lc_yes ?_⟩
        refine ⟨_, rfl, _, rfl, ll, _, _, _, rfl, rfl, SqL.of (e2 _ _ hll), atI_nat (iv_get (lb_get (by rw [vl.len]; exact hbn))), _, h2, ?_, ?_, e2.mut hD⟩
        · rw [iv_len, List.length_map, List.length_take]
          exact small1000 (by omega)
        · rw [upd_same, map_take_snoc hb, iv_app]
          rfl
      · rintro H2 ⟨h2, e2⟩
        rw [iv_len, List.take_length] at h2
        have h2n : H2 D = some (.lst (iv (nm L c))) := h2
        -- least
        refine ⟨_, rfl, D, (nm L c).map fun n : Nat => (n : Int), rfl, by rw [← iv_ints]; exact SqL.of h2n, ?_, fun m hm hle => ?_⟩
        · rw [List.length_map]
          exact List.length_pos_iff.mpr (nm_ne (hg.ne c hcm))
        obtain ⟨r, hr1, rfl⟩ := List.mem_map.mp hm
        have er : mn (nm L c) = r := mn_eq hr1 fun y hy => by
          have := hle _ (List.mem_map.mpr ⟨y, hy, rfl⟩)
          omega
        -- label
        refine ⟨_, rfl, ll, rfl, ⟨_, SqL.of (e2 _ _ hll)⟩, fun D2 hD2 => lc_list (K := K) (a := ll) (xs := iv L) (fun j H' => H' D2 = some (.lst (iv ((L.take j).map fun x => if x ∈ nm L c then r else x))) ∧ Ex H2 H')
          ⟨by rw [List.take_zero]; exact upd_same, Ex.new hD2⟩ (fun j H' _ ⟨_, e'⟩ => SqL.of ((e2.trans e') _ _ hll)) ?_ ?_⟩
        · rintro j x H3 hj ⟨h3, e3⟩
          obtain ⟨b, hb, rfl⟩ := iv_of hj
          have hjl := (List.getElem?_eq_some_iff.mp hb).1
          refine ⟨rfl, lc_yes ?_⟩
          have hlen : (iv ((L.take j).map fun x => if x ∈ nm L c then r else x)).length < sizeLine := by
            rw [iv_len, List.length_map, List.length_take]
            have := vl.len
            exact small1000 (by omega)
          refine ⟨_, rfl, _, rfl, D, _, rfl, .inl (SqL.of (e3 _ _ h2n)), rfl, iv_flat _, _, rfl, ?_⟩
          rw [if_neg (by decide), inV_iv]
          refine ite2 (fun hin => ?_) (fun hin => ?_)
          · refine ⟨_, rfl, _, h3, hlen, ?_, e3.mut hD2⟩
            rw [upd_same, map_take_snoc hb, iv_app, if_pos (of_decide_eq_true hin)]
            rfl
          · refine ⟨_, rfl, _, h3, hlen, ?_, e3.mut hD2⟩
            rw [upd_same, map_take_snoc hb, iv_app, if_neg (fun z => hin (decide_eq_true z))]
            rfl
        · rintro H3 ⟨h3, e3⟩
          rw [iv_len, List.take_length] at h3
          refine ⟨D2, _, _, _, rfl, ?_, e.trans (e2.trans e3)⟩
          rw [take_snoc hc, labs_snoc, hL, er]
          exact h3
    · rintro σ H1 ⟨ll, o2, o3, o4, rfl, hll, e⟩
      rw [hts.1, List.take_length] at hll
      obtain ⟨vl, _⟩ := labs_all hg
      generalize hL : labs n cs = L at *
      have hLn : (L.map fun n : Nat => (n : Int)).length = n := by rw [List.length_map, vl.len]
      -- the labels, each once, ascending
      refine ⟨_, rfl, ll, L.map fun n : Nat => (n : Int), rfl, by rw [← iv_ints]; exact SqL.of hll, by rw [hLn]; omega, fun sp cn hsp hcn => ?_⟩
      refine ⟨sp, _, cn, rfl, upd_same, by rw [hLn] at hcn; omega, fun ns sq hasc hmem hlen hsq => ?_⟩
      have ens : ns = (reps n L).map fun n : Nat => (n : Int) := set_nat hasc (fun k => by rw [hmem, decide_eq_true_eq]) filter_asc (mem_label vl)
      subst ens
      rw [← iv_ints]
      have e2 := (Ex.new (o := SetO w sp (fun j => decide (j ∈ L.map fun n : Nat => (n : Int))) cn) hsp).trans (Ex.new (o := .lst (iv (reps n L))) hsq)
      refine ⟨sq, rfl, ⟨_, SqL.of upd_same⟩, fun D hD => lc_list (K := K) (a := sq) (xs := iv (reps n L)) (fun i H' => ∃ ys : List V, H' D = some (.lst ys) ∧ ITs H' ys (((reps n L).take i).map (piece n L)) ∧ Ex (upd (upd H1 sp (SetO w sp (fun j => decide (j ∈ L.map fun n : Nat => (n : Int))) cn)) sq (.lst (iv (reps n L)))) H')
        ⟨[], upd_same, by rw [List.take_zero]; exact .nil, Ex.new hD⟩ (fun i H' _ ⟨_, _, _, e'⟩ => SqL.of (e' _ _ upd_same)) ?_ ?_⟩
      · rintro i x H2 hi ⟨ys, hys, hrs, e3⟩
        obtain ⟨r, hr1, rfl⟩ := iv_of hi
        have hil := (List.getElem?_eq_some_iff.mp hr1).1
        have e13 := e.trans (e2.trans e3)
        refine ⟨rfl, lc_yes ?_⟩
        refine ⟨_, rfl, p, C, dx, _, _, rfl, e13 _ _ hp, B.cl, B.nB, cf_bits n t, (n : Int), rfl, by omega, by omega, fun D2 hD2 => lc_range (lo := 0) (fun j H' => H' D2 = some (.lst (iv ((List.range j).filter fun b => lb L b == r))) ∧ Ex H2 H')
          ⟨upd_same, Ex.new hD2⟩ ?_ ?_⟩
        · rintro j H3 hj ⟨h3, e4⟩
          have hjn : j < n := by omega
          have c1 : (0 : Int) + (j : Nat) = ((j : Nat) : Int) := Int.zero_add _
          refine ⟨rfl, ?_⟩
          refine ⟨_, rfl, _, rfl, ll, _, _, _, rfl, rfl, SqL.of ((e2.trans (e3.trans e4)) _ _ hll), by rw [c1]; exact atI_nat (iv_get (lb_get (by rw [vl.len]; exact hjn))), _, rfl, rfl, _, rfl, ?_⟩
          refine ite2 (fun hm => ?_) (fun hm => ?_)
          · have hm1 : lb L j = r := by
              have := of_decide_eq_true hm
              injection this with this
              omega
            refine ⟨_, rfl, _, h3, ?_, ?_, e4.mut hD2⟩
            · rw [iv_len]
              have := List.length_filter_le (fun b => lb L b == r) (List.range j)
              rw [List.length_range] at this
              exact small1000 (by omega)
            · rw [upd_same, filter_range_succ2, if_pos (beq_iff_eq.mpr hm1), iv_app, c1]
              rfl
          · have hm1 : ¬ lb L j = r := fun z => hm (decide_eq_true (by rw [z]))
            refine ⟨?_, e4⟩
            rw [filter_range_succ2, if_neg (by rw [beq_iff_eq]; exact hm1), List.append_nil]
            exact h3
        · rintro H3 ⟨h3, e4⟩
          have hn' : ((n : Int)).toNat = n := by omega
          rw [hn'] at h3
          refine ⟨D2, _, rfl, .inl ⟨SqL.of h3, fun tt htt => ?_⟩⟩
          have e5 := e4.trans (Ex.new (o := .tup (iv ((List.range n).filter fun b => lb L b == r))) htt)
          refine ⟨ys, e5 _ _ hys, ?_, ys ++ [.ref tt], upd_same, ?_, (e3.trans e5).mut hD⟩
          · rw [hrs.1, List.length_map, List.length_take]
            have : (reps n L).length ≤ n := by
              unfold reps
              have := List.length_filter_le (fun b => lb L b == b) (List.range n)
              rw [List.length_range] at this
              exact this
            exact small1000 (by omega)
          · rw [map_take_snoc hr1]
            exact ((hrs.ex e5).snoc ⟨tt, rfl, upd_same⟩).upd (e5 _ _ hys)
      · rintro H2 ⟨ys, hys, hrs, e3⟩
        rw [iv_len, List.take_length] at hrs
        refine ⟨D, _, rfl, .inl ⟨SqL.of hys, fun tt htt => ?_⟩⟩
        have e4 := Ex.new (o := .tup ys) htt
        refine q _ _ (e.trans (e2.trans (e3.trans e4))) ⟨tt, ys, rfl, upd_same, ?_⟩
        unfold pieces
        rw [hL]
        exact hrs.ex e4
end
end Kd

namespace Kd
open PySem PySem.Spec PyProof.Rows L2 Evl Km Kr Kb Kc
section
variable {P : Program} {w : World} {K : PySem.W.Frag} {mg : Str → Option Value} {base : Heap} {C fI : Addr}
/-! ### the dict of paths -/
theorem it_upd2 {H : Hp} {x : V} {ns : List Nat} {l : Addr} {u o : HO} (h : IT H x ns) (hl : H l = some u) (hu : ∀ xs, u ≠ .tup xs) : IT (upd H l o) x ns := by
  obtain ⟨a, q, r⟩ := h
  exact ⟨a, q, by rw [upd_ne (ne_of r hl (fun z => hu _ z.symm))]; exact r⟩
def DR (H : Hp) : List (Key × V) → Ps → Prop
  | [], [] => True
  | kv :: kvs, p :: ps => kv.1 = Sum.inl (p.1 : Int) ∧ IT H kv.2 p.2 ∧ DR H kvs ps
  | _, _ => False
theorem DR.map {H H' : Hp} (f : ∀ x ns, IT H x ns → IT H' x ns) : ∀ {kvs : List (Key × V)} {ps : Ps}, DR H kvs ps → DR H' kvs ps
  | [], [], _ => trivial
  | _ :: _, _ :: _, h => ⟨h.1, f _ _ h.2.1, DR.map f h.2.2⟩
theorem DR.ex {H H' : Hp} {kvs : List (Key × V)} {ps : Ps} (h : DR H kvs ps) (e : Ex H H') : DR H' kvs ps := h.map fun _ _ q => q.ex e
theorem DR.len {H : Hp} : ∀ {kvs : List (Key × V)} {ps : Ps}, DR H kvs ps → kvs.length = ps.length
  | [], [], _ => rfl
  | _ :: _, _ :: _, h => congrArg (· + 1) (DR.len h.2.2)
theorem DR.snoc {H : Hp} {v : V} {o : Nat} {r : List Nat} (hv : IT H v r) : ∀ {kvs : List (Key × V)} {ps : Ps}, DR H kvs ps → DR H (kvs ++ [(Sum.inl (o : Int), v)]) (ps ++ [(o, r)])
  | [], [], _ => ⟨rfl, hv, trivial⟩
  | _ :: _, _ :: _, h => ⟨h.1, h.2.1, DR.snoc hv h.2.2⟩
theorem inl_ne {a b : Nat} (h : a ≠ b) : ¬ (Sum.inl (a : Int) : Key) = Sum.inl (b : Int) := fun z => h (by have := Sum.inl.inj z; omega)
theorem DR.none {H : Hp} {b : Nat} : ∀ {kvs : List (Key × V)} {ps : Ps}, DR H kvs ps → b ∉ keys ps → valV kvs (Sum.inl (b : Int)) = Option.none
  | [], [], _, _ => rfl
  | kv :: kvs, p :: ps, h, hn => by
    have h1 : p.1 ≠ b := fun z => hn (List.mem_cons.mpr (.inl z.symm))
    rw [valV_neg (by rw [h.1]; exact inl_ne h1)]
    exact DR.none h.2.2 fun z => hn (List.mem_cons_of_mem _ z)
theorem DR.some {H : Hp} {b : Nat} {r : List Nat} : ∀ {kvs : List (Key × V)} {ps : Ps}, DR H kvs ps → (keys ps).Nodup → (b, r) ∈ ps → ∃ v, valV kvs (Sum.inl (b : Int)) = Option.some v ∧ IT H v r
  | [], [], _, _, hm => absurd hm (by simp)
  | kv :: kvs, p :: ps, h, hd, hm => by
    have hd' : p.1 ∉ keys ps ∧ (keys ps).Nodup := List.nodup_cons.mp hd
    rcases List.mem_cons.mp hm with z | hm
    · subst z
      exact ⟨kv.2, valV_pos h.1, h.2.1⟩
    · have h1 : p.1 ≠ b := fun z => hd'.1 (z ▸ mem_keys hm)
      obtain ⟨v, a, c⟩ := DR.some h.2.2 hd'.2 hm
      exact ⟨v, by rw [valV_neg (by rw [h.1]; exact inl_ne h1)]; exact a, c⟩
theorem DR.has {H : Hp} {b : Nat} {kvs : List (Key × V)} {ps : Ps} (h : DR H kvs ps) (hd : (keys ps).Nodup) : (valV kvs (Sum.inl (b : Int))).isSome = decide (b ∈ keys ps) := by
  by_cases hm : b ∈ keys ps
  · obtain ⟨p, hp, rfl⟩ := List.mem_map.mp hm
    obtain ⟨v, e, _⟩ := h.some (r := p.2) hd hp
    rw [e, decide_eq_true hm]
    rfl
  · rw [h.none hm, decide_eq_false hm]
    rfl
theorem keys_le {n k s : Nat} {cs : List (List Nat)} {op : Option Nat} {ps : Ps} (h : Bk n cs k s op ps) : ps.length ≤ n := by
  have a := sub_len h.nd (m := List.range n) fun x hx => by
    obtain ⟨p, hp, rfl⟩ := List.mem_map.mp hx
    exact List.mem_range.mpr (h.lt p hp)
  unfold keys at a
  rw [List.length_map, List.length_range] at a
  exact a
theorem path_le {n k s : Nat} {cs : List (List Nat)} {op op' : Option Nat} {ps : Ps} {r bs ks : List Nat} {b : Nat} (h : Bk n cs k s op ps) (p : Pw cs k s ps op' r bs ks b) : r.length ≤ 2 * n := by
  have a := sub_len (List.nodup_append.mp p.nb).1 (m := List.range n) fun x hx => by
    obtain ⟨q, hq, rfl⟩ := List.mem_map.mp (p.old x hx)
    exact List.mem_range.mpr (h.lt q hq)
  rw [List.length_range] at a
  have := p.pth.length.1
  omega
/-- r + (..) of tuples of numbers -/
theorem cat_it {K : PySem.W.Frag} {H : Hp} {x y : V} {r q : List Nat} {Q : VK} (hx : IT H x r) (hy : IT H y q) (hl : r.length + q.length ≤ 1000) (hq : q ≠ []) (k : ∀ (u : V) (H' : Hp), Ex H H' → IT H' u (r ++ q) → Q u H') : rCatA K x y H Q := by
  obtain ⟨a, rfl, ha⟩ := hx
  obtain ⟨b, rfl, hb⟩ := hy
  refine ⟨a, b, iv r, iv q, rfl, rfl, SqT.of ha, SqT.of hb, by rw [iv_len, iv_len]; exact Nat.le_of_lt (small1000 hl), fun z => ?_, fun _ z => ?_, fun _ _ p hp => ?_⟩
  · have : r = [] := List.map_eq_nil_iff.mp z
    subst this
    exact k _ H (Ex.refl H) ⟨b, rfl, hb⟩
  · exact absurd (List.map_eq_nil_iff.mp z) hq
  · refine k _ _ (Ex.new hp) ⟨p, rfl, ?_⟩
    rw [upd_same, iv_app]
/-! ### path_between -/
def PathFull (n : Nat) (cs : List (List Nat)) (k s : Nat) (r : List Nat) (g : Nat) : Prop := ∃ bs ks, Pth cs k s r bs ks g ∧ (bs ++ [g]).Nodup ∧ ks.Nodup ∧ ∀ b, b ∈ bs → b < n
def spPath (C : Addr) : Sp := fun vs H Q _ => ∃ (v : V) (n k s g : Nat) (cs : List (List Nat)), vs = [v, .int (k : Int), .int (s : Int), .int (g : Int)] ∧ CodeAt C H v n cs ∧ Good n cs ∧ n ≤ 10 ∧ k ≤ cs.length ∧ cs.length ≤ 60 ∧ s < n ∧
  (∀ S : Nat → Prop, Cl (cs.take k) S → S s → S g) ∧ ∀ (u : V) (H' : Hp) (r : List Nat), Ex H H' → IT H' u (r ++ [g]) → PathFull n cs k s r g → r.length ≤ 20 → Q u H'
/-- the same within the loop over the checks, at the check j of the bit b -/
def Fr2 (cs : List (List Nat)) (k : Nat) (ps : Ps) (rest fur : List Nat) (b j : Nat) : Prop := ∀ z, z ∈ keys ps → z ∈ rest ∨ z ∈ fur ∨ Xj cs ps k z ∨ (z = b ∧ Xj cs ps j b)
theorem Fr2.add {cs : List (List Nat)} {k b j o : Nat} {ps : Ps} {rest fur r : List Nat} (h : Fr2 cs k ps rest fur b j) : Fr2 cs k (ps ++ [(o, r)]) rest (fur ++ [o]) b j := fun z hz => by
  rw [keys_app] at hz
  rcases List.mem_append.mp hz with hz | hz
  · rcases h z hz with q | q | q | ⟨q, x⟩
    · exact .inl q
    · exact .inr (.inl (List.mem_append_left _ q))
    · exact .inr (.inr (.inl q.mono))
    · exact .inr (.inr (.inr ⟨q, x.mono⟩))
  · have : z = o := by simpa [keys] using hz
    exact .inr (.inl (List.mem_append_right _ (by simp [this])))
theorem Fr2.step {cs : List (List Nat)} {k b j : Nat} {ps : Ps} {rest fur : List Nat} (h : Fr2 cs k ps rest fur b j) (d : ∀ l, cs[j]? = some l → b ∈ l → Dn cs ps j) : Fr2 cs k ps rest fur b (j + 1) := fun z hz => by
  rcases h z hz with q | q | q | ⟨q, x⟩
  · exact .inl q
  · exact .inr (.inl q)
  · exact .inr (.inr (.inl q))
  · refine .inr (.inr (.inr ⟨q, fun c hc l hl hb => ?_⟩))
    rcases Nat.lt_or_ge c j with y | y
    · exact x c y l hl hb
    · have : c = j := by omega
      subst this
      exact d l hl hb
structure Hs (H H1 : Hp) (pd wl fl : Addr) (ps : Ps) (wave fur : List Nat) : Prop where
  d : ∃ kvs, H1 pd = some (.dK kvs) ∧ DR H1 kvs ps
  w : H1 wl = some (.lst (iv wave))
  f : H1 fl = some (.lst (iv fur))
  ne : wl ≠ fl
  fd : H pd = none
  ff : H fl = none
  e : Ex H H1
theorem ok_path_between {f : Addr} {fd : FuncData} (F : Fun K "path_between" "path_between" s_path_between f fd) (B : Bt K mg C fI) : FnOk P w K mg base CX0 1 f fd ["code", "many", "start", "goal"] (spPath C) := by
  refine F.ok sc_path_between (fun vs H Q E h => ?_) (fun cdv A outer s H vs Q E hr h => ?_)
  · obtain ⟨v, n, k, s, g, cs, rfl, _⟩ := h
    rfl
  · obtain ⟨v, n, k, st, g, cs, rfl, ⟨p, dx, t, xs, rfl, hp, ht, hts⟩, hg, hn, hk, hcl, hst, hgen, q⟩ := h
    refine ⟨_, 
    (pss_cons (ps_set (i := 4) sc_path_between.nd rfl (by first | exact Or.inl rfl | exact Or.inr rfl) (pe_disp (pps_cons (pv 2) (pe_tup pa_nil) pps_nil) (by rfl) (by rfl) (fun z => by cases z) (by decide))) 
    (pss_cons (ps_set (i := 5) sc_path_between.nd rfl (by first | exact Or.inl rfl | exact Or.inr rfl) (pe_lst (pa_cons (pv 2) pa_nil))) 
    (pss_cons (ps_while PassesOwn.never (PW.pt (pw_and (pt_cmp (pc_dnotin (hu_of hr) (pv 3) (pv 4))) (pw_and1 (pt_cmpR op_gt (pe_callB (kLen K rfl) (by rfl) B.zlen (by decide +kernel) (pa_cons (pv 5) pa_nil)) pe_int (nomark _))))) 
      (pss_cons (ps_set (i := 6) sc_path_between.nd rfl (by first | exact Or.inl rfl | exact Or.inr rfl) (pe_lst pa_nil)) 
      (pss_cons (ps_for PassesOwn.never rfl (pi_list (pv 5)) (pg_name (i := 7) sc_path_between.nd rfl (by first | exact Or.inl rfl | exact Or.inr rfl)) 
        (pss_one (ps_for PassesOwn.never rfl (pi_range1 (by rfl) B.zrange (pa_cons (pv 1) pa_nil)) (pg_name (i := 8) sc_path_between.nd rfl (by first | exact Or.inl rfl | exact Or.inr rfl)) 
          (pss_one (ps_if (pt_cmpR (kIn K rfl) (pv 7) (pe_ix (kIxT K rfl) (kFld K rfl (pv 0) rfl) (pv 8) (fun _ _ => rfl)) (by rfl)) 
            (pss_one (ps_for PassesOwn.never rfl (pi_tup (pe_ix (kIxT K rfl) (kFld K rfl (pv 0) rfl) (pv 8) (fun _ _ => rfl))) (pg_name (i := 9) sc_path_between.nd rfl (by first | exact Or.inl rfl | exact Or.inr rfl)) 
              (pss_one (ps_if (pt_cmp (pc_dnotin (hu_of hr) (pv 9) (pv 4))) 
                (pss_cons (ps_dput (hu_of hr) (pv 4) (pv 9) (pe_op op_catA (pe_dget (hu_of hr) (pv 4) (pv 7) (fun _ _ => rfl)) (pe_tup (pa_cons (pv 7) (pa_cons (pv 8) pa_nil)))) rfl) 
                (pss_one (ps_expr (pe_bm PySem.F.plainAttrs_list PySem.F.slot_list_append PySem.F.type_list_append mt_append (pv 6) (pa_cons (pv 9) pa_nil))))) pss_nil)))) pss_nil))))) 
      (pss_one (ps_set (i := 5) sc_path_between.nd rfl (by first | exact Or.inl rfl | exact Or.inr rfl) (pe_callTy (kLst K rfl) (by rfl) B.zlist (by decide +kernel) (pa_cons (pv 6) pa_nil))))))) 
    (pss_one (ps_ret (pe_op op_catA (pe_dget (hu_of hr) (pv 4) (pv 3) (fun _ _ => rfl)) (pe_tup (pa_cons (pv 3) pa_nil)))))))), ?_⟩
    -- paths, wave
    intro pd hpd
    refine ⟨_, rfl, Nat.zero_le _, fun t0 ht0 => ?_⟩
    have ne0 : pd ≠ t0 := ne_of_none upd_same ht0
    refine ⟨by rw [upd_ne ne0]; exact upd_same, [(Sum.inl (st : Int), .ref t0)], rfl, by show 1 ≤ 15; decide, ?_⟩
    have hH0 : (upd (upd (upd H pd (.dK [])) t0 (.tup [])) pd (.dK (mergeK [] [(Sum.inl (st : Int), V.ref t0)]))) pd = some (.dK [(Sum.inl (st : Int), V.ref t0)]) := upd_same
    have e0 : Ex H (upd (upd (upd H pd (.dK [])) t0 (.tup [])) pd (.dK (mergeK [] [(Sum.inl (st : Int), V.ref t0)]))) := ((Ex.new hpd).trans (Ex.new ht0)).mut hpd
    have hT0 : (upd (upd (upd H pd (.dK [])) t0 (.tup [])) pd (.dK (mergeK [] [(Sum.inl (st : Int), V.ref t0)]))) t0 = some (.tup []) := by
      rw [upd_ne ne0.symm]
      exact upd_same
    generalize (upd (upd (upd H pd (.dK [])) t0 (.tup [])) pd (.dK (mergeK [] [(Sum.inl (st : Int), V.ref t0)]))) = H0 at *
    refine ⟨_, rfl, by show 1 ≤ sizeLine; decide, fun wl0 hwl0 => ?_⟩
    have e01 : Ex H0 (upd H0 wl0 (.lst [.int (st : Int)])) := Ex.new hwl0
    refine ⟨fun m σ H1 => ∃ (wl : Addr) (ps : Ps) (wave : List Nat) (kvs : List (Key × V)) (o6 o7 o8 o9 : Option V), σ = [some (.ref p), some (.int (k : Int)), some (.int (st : Int)), some (.int (g : Int)), some (.ref pd), some (.ref wl), o6, o7, o8, o9] ∧
      H1 pd = some (.dK kvs) ∧ DR H1 kvs ps ∧ H1 wl = some (.lst (iv wave)) ∧ Ex H H1 ∧ Bk n cs k st none ps ∧ Fro cs k ps wave [] ∧ (∀ b, b ∈ wave → b ∈ keys ps) ∧ wave.length ≤ n ∧ m = 2 * (n - ps.length) + wave.length.min 1,
      ⟨_, wl0, [(st, [])], [st], _, _, _, _, _, rfl, e01 _ _ hH0, ⟨rfl, ⟨t0, rfl, e01 _ _ hT0⟩, trivial⟩, upd_same, e0.trans e01, Bk.start hst, fun b hb => .inl hb, fun b hb => hb, by simp; omega, rfl⟩, ?_⟩
    rintro m σ H1 ⟨wl, ps, wave, kvs, o6, o7, o8, o9, rfl, hd, hdr, hw, e, hB, hF, hWk, hwl, hm⟩
    refine ⟨_, rfl, _, rfl, pd, _, rfl, DGet.k (k := Sum.inl (g : Int)) hd, _, rfl, ?_⟩
    rw [hdr.has hB.nd]
    -- the end, once the goal is a key
    have fin : g ∈ keys ps → tRet (tOp (rCatA K) (tDGet (tVar 4) (tVar 3)) (tTup (tCons (tVar 3) tNil))) { nx := fun _ H' => Q .non H', rt := Q } [some (.ref p), some (.int (k : Int)), some (.int (st : Int)), some (.int (g : Int)), some (.ref pd), some (.ref wl), o6, o7, o8, o9] H1 := fun hgk => by
      obtain ⟨⟨g', r⟩, hgr, rfl⟩ := List.mem_map.mp hgk
      obtain ⟨v, hv, hit⟩ := hdr.some hB.nd hgr
      obtain ⟨bs, ks, hpw⟩ := hB.pw _ hgr
      have hrl : r.length ≤ 2 * n := path_le hB hpw
      refine ⟨_, rfl, _, rfl, pd, v, rfl, by rw [← hv]; exact DGet.k (k := Sum.inl (g' : Int)) hd, _, rfl, by show 1 ≤ sizeLine; decide, fun t1 ht1 => ?_⟩
      have e1 := Ex.new (o := .tup [V.int (g' : Int)]) ht1
      refine cat_it (q := [g']) (hit.ex e1) ⟨t1, rfl, upd_same⟩ (by simp; omega) (by simp) fun u H2 e2 hu => ?_
      exact q u H2 r (e.trans (e1.trans e2)) hu ⟨bs, ks, hpw.pth, hpw.nb, hpw.nk, fun b hb => by
        obtain ⟨z, hz, rfl⟩ := List.mem_map.mp (hpw.old b hb)
        exact hB.lt z hz⟩ (by omega)
    by_cases hgk : g ∈ keys ps
    · rw [decide_eq_true hgk]
      refine iteF ?_
      refine iteF ?_
      exact fin hgk
    · rw [decide_eq_false hgk]
      refine iteT ?_
      refine ⟨_, rfl, wl, _, rfl, .inl (SqL.of hw), _, _, rfl, rfl, _, rfl, ?_⟩
      rw [iv_len]
      refine ite2 (fun hpos => ?_) (fun hpos => ?_)
      · have hwpos : 0 < wave.length := by
          have := of_decide_eq_true hpos
          omega
        refine ⟨fun σ' H' => ∃ m', m' < m ∧ ∃ (wl : Addr) (ps : Ps) (wave : List Nat) (kvs : List (Key × V)) (o6 o7 o8 o9 : Option V), σ' = [some (.ref p), some (.int (k : Int)), some (.int (st : Int)), some (.int (g : Int)), some (.ref pd), some (.ref wl), o6, o7, o8, o9] ∧
          H' pd = some (.dK kvs) ∧ DR H' kvs ps ∧ H' wl = some (.lst (iv wave)) ∧ Ex H H' ∧ Bk n cs k st none ps ∧ Fro cs k ps wave [] ∧ (∀ b, b ∈ wave → b ∈ keys ps) ∧ wave.length ≤ n ∧ m' = 2 * (n - ps.length) + wave.length.min 1, fun _ _ z => z, ?_⟩
        refine ⟨Nat.zero_le _, fun fl hfl => ?_⟩
        have nwf : wl ≠ fl := ne_of_none hw hfl
        have ef := Ex.new (o := .lst []) hfl
        have hfl0 : H fl = none := fresh_back e hfl
        -- for bit in wave
        refine ⟨_, rfl, wl, rfl, ⟨_, SqL.of (ef _ _ hw)⟩, for_list (K := K) (a := wl) (xs := iv wave) (fun i σ H' => ∃ (qs : Ps) (fur : List Nat) (o7 o8 o9 : Option V), σ = [some (.ref p), some (.int (k : Int)), some (.int (st : Int)), some (.int (g : Int)), some (.ref pd), some (.ref wl), some (.ref fl), o7, o8, o9] ∧
          Hs H H' pd wl fl qs wave fur ∧ Bk n cs k st none qs ∧ Fro cs k qs (wave.drop i) fur ∧ (∀ b, b ∈ wave → b ∈ keys qs) ∧ (∀ b, b ∈ fur → b ∈ keys qs) ∧ qs.length = ps.length + fur.length)
          ⟨ps, [], _, _, _, rfl, ⟨⟨kvs, ef _ _ hd, hdr.ex ef⟩, ef _ _ hw, upd_same, nwf, hpd, hfl0, e.trans ef⟩, hB, hF, hWk, fun b hb => absurd hb (by simp), rfl⟩ (fun i σ H' _ ⟨_, _, _, _, _, _, hs, _⟩ => SqL.of hs.w) ?_ ?_⟩
        · rintro i x σ H2 hi ⟨qs, fur, o7, o8, o9, rfl, hs, hB2, hF2, hw2, hf2, hl2⟩
          obtain ⟨b, hb, rfl⟩ := iv_of hi
          have hbk := hw2 b (List.mem_of_getElem? hb)
          have hdrop : wave.drop i = b :: wave.drop (i + 1) := by
            obtain ⟨h1, h2⟩ := List.getElem?_eq_some_iff.mp hb
            rw [List.drop_eq_getElem_cons h1, h2]
          -- for number in range(many)
          refine ⟨_, rfl, (k : Int), rfl, by omega, by omega, for_range (lo := 0) (fun j σ H' => ∃ (qs : Ps) (fur : List Nat) (o8 o9 : Option V), σ = [some (.ref p), some (.int (k : Int)), some (.int (st : Int)), some (.int (g : Int)), some (.ref pd), some (.ref wl), some (.ref fl), some (.int (b : Int)), o8, o9] ∧
            Hs H H' pd wl fl qs wave fur ∧ Bk n cs k st none qs ∧ Fr2 cs k qs (wave.drop (i + 1)) fur b j ∧ (∀ b, b ∈ wave → b ∈ keys qs) ∧ (∀ b, b ∈ fur → b ∈ keys qs) ∧ qs.length = ps.length + fur.length)
            ⟨qs, fur, _, _, rfl, hs, hB2, fun b' hb' => ?_, hw2, hf2, hl2⟩ ?_ ?_⟩
          · rcases hF2 b' hb' with z | z | z
            · rw [hdrop] at z
              rcases List.mem_cons.mp z with z | z
              · exact .inr (.inr (.inr ⟨z, fun c hc => absurd hc (Nat.not_lt_zero c)⟩))
              · exact .inl z
            · exact .inr (.inl z)
            · exact .inr (.inr (.inl z))
          · rintro j σ H3 hj ⟨qs, fur, o8, o9, rfl, hs, hB3, hF3, hw3, hf3, hl3⟩
            have hjk : j < k := by omega
            have hbk3 := hw3 b (List.mem_of_getElem? hb)
            have c1 : (0 : Int) + (j : Nat) = ((j : Nat) : Int) := Int.zero_add _
            rw [c1]
            have hl : cs[j]? = some cs[j] := List.getElem?_eq_getElem (by omega)
            generalize cs[j] = l at hl
            have hlm := List.mem_of_getElem? hl
            obtain ⟨cx, hcx, hit⟩ := hts.at hl
            obtain ⟨ct, rfl, hct0⟩ := hit
            have hp3 := hs.e _ _ hp
            have ht3 := hs.e _ _ ht
            have hct := hs.e _ _ hct0
            refine ⟨_, rfl, _, rfl, p, C, dx, _, _, rfl, hp3, B.cl, B.nC, cf_checks n t, _, rfl, t, _, _, _, rfl, rfl, SqT.of ht3, atI_nat hcx, ct, _, rfl, .inr (SqT.of hct), rfl, iv_flat _, _, rfl, ?_⟩
            rw [if_neg (by decide), inV_iv]
            refine ite2 (fun hin => ?_) (fun hin => ?_)
            · have hin := of_decide_eq_true hin
              obtain ⟨⟨b', r⟩, hbr, hbe⟩ := List.mem_map.mp hbk3
              have hbe : b' = b := hbe
              subst hbe
              obtain ⟨bs, ks, hpw⟩ := hB3.pw _ hbr
              have hpw : Pw cs k st qs none r bs ks b' := hpw
              -- for other in code.checks[number]
              refine ⟨_, rfl, p, C, dx, _, _, rfl, hp3, B.cl, B.nC, cf_checks n t, _, rfl, t, _, _, _, rfl, rfl, SqT.of ht3, atI_nat hcx, ct, rfl, ⟨_, SqT.of hct⟩, for_tup (K := K) (a := ct) (xs := iv l) (fun m σ H' => ∃ (qs : Ps) (fur : List Nat) (o9 : Option V), σ = [some (.ref p), some (.int (k : Int)), some (.int (st : Int)), some (.int (g : Int)), some (.ref pd), some (.ref wl), some (.ref fl), some (.int (b' : Int)), some (.int (j : Int)), o9] ∧
                Hs H H' pd wl fl qs wave fur ∧ Bk n cs k st (some j) qs ∧ Fr2 cs k qs (wave.drop (i + 1)) fur b' j ∧ (∀ b, b ∈ wave → b ∈ keys qs) ∧ (∀ b, b ∈ fur → b ∈ keys qs) ∧ qs.length = ps.length + fur.length ∧
                (b', r) ∈ qs ∧ Pw cs k st qs none r bs ks b' ∧ (j ∉ ks ∨ Dn cs qs j) ∧ ∀ o, o ∈ l.take m → o ∈ keys qs)
                ⟨qs, fur, _, rfl, hs, hB3.open_, hF3, hw3, hf3, hl3, hbr, hpw, ?_, fun o ho => absurd ho (by simp)⟩ (fun m σ H' _ ⟨_, _, _, _, hs', _⟩ => SqT.of (hs'.e _ _ hct0)) ?_ ?_⟩
              · by_cases hjd : Dn cs qs j
                · exact .inr hjd
                · refine .inl fun hjks => ?_
                  rcases hpw.fin j hjks with z | z
                  · cases z
                  · exact hjd z
              · rintro m x σ H4 hm4 ⟨qs, fur, o9, rfl, hs, hB4, hF4, hw4, hf4, hl4, hbr, hpw, hjs, htk⟩
                obtain ⟨o, ho, rfl⟩ := iv_of hm4
                have hol := List.mem_of_getElem? ho
                obtain ⟨kvs, hd4, hdr4⟩ := hs.d
                refine ⟨_, rfl, _, rfl, pd, _, rfl, DGet.k (k := Sum.inl (o : Int)) hd4, _, rfl, ?_⟩
                rw [hdr4.has hB4.nd]
                by_cases hok : o ∈ keys qs
                · rw [decide_eq_true hok]
                  refine iteF ?_
                  refine ⟨qs, fur, _, rfl, hs, hB4, hF4, hw4, hf4, hl4, hbr, hpw, hjs, fun z hz => ?_⟩
                  rw [take_snoc ho] at hz
                  rcases List.mem_append.mp hz with hz | hz
                  · exact htk z hz
                  · rw [List.mem_singleton.mp hz]
                    exact hok
                · rw [decide_eq_false hok]
                  refine iteT ?_
                  have hjks : j ∉ ks := by
                    rcases hjs with z | z
                    · exact z
                    · exact absurd (z l hl o hol) hok
                  obtain ⟨v, hv, hvt⟩ := hdr4.some hB4.nd hbr
                  have hrl : r.length ≤ 2 * n := path_le hB4 hpw
                  have hql := keys_le hB4
                  have hon := hg.lt l hlm o hol
                  have hqo := keys_le (hB4.add (mem_keys hbr) hpw hjks hjk hl hin hol hon hok)
                  rw [List.length_append] at hqo
                  refine ⟨_, rfl, _, rfl, pd, v, rfl, by rw [← hv]; exact DGet.k (k := Sum.inl (b' : Int)) hd4, _, rfl, _, rfl, by show 2 ≤ sizeLine; decide, fun t1 ht1 => ?_⟩
                  have e1 := Ex.new (o := .tup [V.int (b' : Int), V.int (j : Int)]) ht1
                  refine cat_it (q := [b', j]) (hvt.ex e1) ⟨t1, rfl, upd_same⟩ (by simp; omega) (by simp) fun u H5 e2 hu => ?_
                  have e12 := e1.trans e2
                  have hd5 := e12 _ _ hd4
                  have hf5 := e12 _ _ hs.f
                  have npf : pd ≠ fl := ne_of hd5 hf5 (by intro z; cases z)
                  refine ⟨_, rfl, _, rfl, pd, _, rfl, DPut.k (k := Sum.inl (o : Int)) hd5 (by rw [hdr4.len]; exact small1000 (by omega)), ?_⟩
                  rw [putK_new u (hdr4.none hok)]
                  have hf6 : (upd H5 pd (.dK (kvs ++ [(Sum.inl (o : Int), u)]))) fl = some (.lst (iv fur)) := by rw [upd_ne npf.symm]; exact hf5
                  refine ⟨_, rfl, .inl ⟨rfl, _, SqL.of hf6⟩, _, rfl, fl, _, _, rfl, rfl, hf6, by rw [iv_len]; exact small1000 (by simp only [List.length_cons, List.length_nil] at hqo; omega), ?_⟩
                  refine ⟨qs ++ [(o, r ++ [b', j])], fur ++ [o], _, rfl, ⟨⟨kvs ++ [(Sum.inl (o : Int), u)], ?_, ?_⟩, ?_, ?_, hs.ne, hs.fd, hs.ff, ?_⟩, hB4.add (mem_keys hbr) hpw hjks hjk hl hin hol hon hok, hF4.add, fun z hz => ?_, fun z hz => ?_, ?_, List.mem_append_left _ hbr, hpw.mono, hjs.imp id Dn.mono, fun z hz => ?_⟩
                  · rw [upd_ne npf]
                    exact upd_same
                  · exact (DR.snoc hu (hdr4.ex e12)).map fun x ns q => it_upd2 (it_upd2 q hd5 (fun _ z => nomatch z)) hf6 (fun _ z => nomatch z)
                  · rw [upd_ne hs.ne, upd_ne (ne_of (e12 _ _ hs.w) hd5 (by intro z; cases z))]
                    exact e12 _ _ hs.w
                  · rw [upd_same, iv_app]
                    rfl
                  · exact ((hs.e.trans e12).mut hs.fd).mut hs.ff
                  · rw [keys_app]
                    exact List.mem_append_left _ (hw4 z hz)
                  · rw [keys_app]
                    rcases List.mem_append.mp hz with hz | hz
                    · exact List.mem_append_left _ (hf4 z hz)
                    · exact List.mem_append_right _ (by simpa [keys] using hz)
                  · simp only [List.length_append, List.length_cons, List.length_nil]
                    omega
                  · rw [keys_app]
                    rw [take_snoc ho] at hz
                    rcases List.mem_append.mp hz with hz | hz
                    · exact List.mem_append_left _ (htk z hz)
                    · exact List.mem_append_right _ (by simpa [keys] using hz)
              · rintro σ H4 ⟨qs, fur, o9, rfl, hs, hB4, hF4, hw4, hf4, hl4, hbr, hpw, hjs, htk⟩
                rw [iv_len, List.take_length] at htk
                have hdj : Dn cs qs j := fun l' hl' o ho => by
                  rw [hl] at hl'
                  cases hl'
                  exact htk o ho
                exact ⟨qs, fur, _, _, rfl, hs, hB4.shut hdj, hF4.step fun l' hl' _ => hdj, hw4, hf4, hl4⟩
            · have hin : b ∉ l := fun z => hin (decide_eq_true z)
              exact ⟨qs, fur, _, _, rfl, hs, hB3, hF3.step fun l' hl' hbl => by
                rw [hl] at hl'
                cases hl'
                exact absurd hbl hin, hw3, hf3, hl3⟩
          · rintro σ H3 ⟨qs, fur, o8, o9, rfl, hs, hB3, hF3, hw3, hf3, hl3⟩
            have hk' : ((k : Int)).toNat = k := by omega
            rw [hk'] at hF3
            refine ⟨qs, fur, _, _, _, rfl, hs, hB3, fun b' hb' => ?_, hw3, hf3, hl3⟩
            rcases hF3 b' hb' with z | z | z | ⟨z, x⟩
            · exact .inl z
            · exact .inr (.inl z)
            · exact .inr (.inr z)
            · exact .inr (.inr (z ▸ x))
        · rintro σ H2 ⟨qs, fur, o7, o8, o9, rfl, hs, hB2, hF2, hw2, hf2, hl2⟩
          obtain ⟨kvs, hd2, hdr2⟩ := hs.d
          have hql := keys_le hB2
          refine ⟨_, rfl, fl, _, rfl, .inl (SqL.of hs.f), fun w2 hw2' => ?_⟩
          have e2 := Ex.new (o := .lst (iv fur)) hw2'
          rw [iv_len, List.drop_length] at hF2
          refine ⟨_, ?_, w2, qs, fur, kvs, _, _, _, _, rfl, e2 _ _ hd2, hdr2.ex e2, upd_same, hs.e.trans e2, hB2, fun b hb => ?_, hf2, by omega, rfl⟩
          · rw [hm, hl2]
            have h1 : wave.length.min 1 = 1 := Nat.min_eq_right hwpos
            rw [h1]
            rcases Nat.eq_zero_or_pos fur.length with z | z
            · rw [z]
              simp
            · have h2 : fur.length.min 1 = 1 := Nat.min_eq_right z
              rw [h2]
              omega
          · rcases hF2 b hb with z | z | z
            · exact absurd z (by simp)
            · exact .inl z
            · exact .inr (.inr z)
      · have hw0 : wave = [] := List.length_eq_zero_iff.mp (by
          have : ¬ (0 < wave.length) := fun z => hpos (decide_eq_true (by omega))
          omega)
        subst hw0
        exact absurd (Fro.goal hF hB hgen) hgk
end
end Kd

namespace Kd
open PySem PySem.Spec PyProof.Rows L2 Evl Km Kr Kb Kc
/-! ### what the judge of rings tells -/
structure FormOk (n m : Nat) (rs : List V) : Prop where
  len : 4 ≤ rs.length ∧ rs.length % 2 = 0
  rng : ∀ (i : Nat) x, rs[i]? = some x → ∃ z : Nat, x = .int (z : Int) ∧ z < if i % 2 = 0 then n else m
  dst : ∀ i j : Nat, j < i → i < rs.length → i % 2 = j % 2 → rs[i]? ≠ rs[j]?
def WireOk (cs : List (List Nat)) (rs : List V) : Prop := ∀ (j b c b' : Nat) (l : List Nat), rs[2 * j]? = some (.int (b : Int)) → rs[2 * j + 1]? = some (.int (c : Int)) → cs[c]? = some l → rs[(2 * j + 2) % rs.length]? = some (.int (b' : Int)) → b ∈ l ∧ b' ∈ l
open Classical in
noncomputable def fault (n : Nat) (cs : List (List Nat)) (rs : List V) : V := if FormOk n cs.length rs then (if WireOk cs rs then .non else .str "wire") else .str "form"
theorem fault_form {n : Nat} {cs : List (List Nat)} {rs : List V} (h : ¬ FormOk n cs.length rs) : fault n cs rs = .str "form" := by
  unfold fault
  rw [if_neg h]
theorem fault_wire {n : Nat} {cs : List (List Nat)} {rs : List V} (h : FormOk n cs.length rs) (h2 : ¬ WireOk cs rs) : fault n cs rs = .str "wire" := by
  unfold fault
  rw [if_pos h, if_neg h2]
theorem fault_non {n : Nat} {cs : List (List Nat)} {rs : List V} (h : FormOk n cs.length rs) (h2 : WireOk cs rs) : fault n cs rs = .non := by
  unfold fault
  rw [if_pos h, if_pos h2]
theorem iv_back {ns : List Nat} {i n : Nat} (h : (iv ns)[i]? = some (.int (n : Int))) : ns[i]? = some n := by
  obtain ⟨m, hm, e⟩ := iv_of h
  have : m = n := by
    injection e with e
    omega
  exact this ▸ hm
theorem ring_none {n : Nat} {cs : List (List Nat)} {R : List Nat} (h : RingOk n cs R) : fault n cs (iv R) = .non := by
  refine fault_non ⟨by rw [iv_len]; exact h.len, fun i x hx => ?_, fun i j hji hi hp he => ?_⟩ fun j b c b' l hb hc hl hb' => ?_
  · obtain ⟨z, hz, rfl⟩ := iv_of hx
    exact ⟨z, rfl, h.rng i z hz⟩
  · rw [iv_len] at hi
    refine h.dst i j hji hi hp ?_
    have hx : R[i]? = some R[i] := List.getElem?_eq_getElem hi
    have h1 := iv_get hx
    rw [he] at h1
    rw [hx]
    exact (iv_back h1).symm
  · rw [iv_len] at hb'
    exact h.wir j b c b' l (iv_back hb) (iv_back hc) hl (iv_back hb')
section
variable {P : Program} {w : World} {K : PySem.W.Frag} {mg : Str → Option Value} {base : Heap} {C fI : Addr}
/-! ### web_ring -/
def spWeb (C : Addr) : Sp := fun vs H Q _ => ∃ (v : V) (n : Nat) (cs : List (List Nat)), vs = [v] ∧ CodeAt C H v n cs ∧ Good n cs ∧ n ≤ 10 ∧ cs.length ≤ 60 ∧
  ∀ (u : V) (H' : Hp), Ex H H' → ((u = .non ∧ ∀ j, j < cs.length → ¬ Dup n cs j) ∨ (∃ (R : List Nat) (j : Nat), IT H' u R ∧ Dup n cs j ∧ RingOk n cs R ∧ R.length ≤ 30)) → Q u H'
theorem ok_web_ring {f : Addr} {fd : FuncData} (F : Fun K "web_ring" "web_ring" s_web_ring f fd) (B : Bt K mg C fI) (c_path_between : Cal P w K mg base "path_between" 1 ["code", "many", "start", "goal"] (spPath C)) : FnOk P w K mg base CX0 2 f fd ["code"] (spWeb C) := by
  refine F.ok sc_web_ring (fun vs H Q E h => ?_) (fun cdv A outer s H vs Q E hr h => ?_)
  · obtain ⟨v, n, cs, rfl, _⟩ := h
    rfl
  · obtain ⟨v, n, cs, rfl, hcode, hg, hn, hcl, q⟩ := h
    obtain ⟨p, dx, t, xs, rfl, hp, ht, hts⟩ := id hcode
    refine ⟨_, 
    (pss_cons (ps_set (i := 1) sc_web_ring.nd rfl (by first | exact Or.inl rfl | exact Or.inr rfl) (pe_listRg rfl (by rfl) B.zlist (prg_1 (by rfl) B.zrange (kFld K rfl (pv 0) rfl)))) 
    (pss_cons (ps_for PassesOwn.never rfl (pi_enumA (by rfl) B.zenumerate (pa_cons (kFld K rfl (pv 0) rfl) pa_nil)) (pg_tup rfl (pgs_cons (pg_name (i := 2) sc_web_ring.nd rfl (by first | exact Or.inl rfl | exact Or.inr rfl)) (pgs_cons (pg_name (i := 3) sc_web_ring.nd rfl (by first | exact Or.inl rfl | exact Or.inr rfl)) pgs_nil))) 
      (pss_cons (ps_for PassesOwn.never rfl (pi_enumA (by rfl) B.zenumerate (pa_cons (pv 3) pa_nil)) (pg_tup rfl (pgs_cons (pg_name (i := 5) sc_web_ring.nd rfl (by first | exact Or.inl rfl | exact Or.inr rfl)) (pgs_cons (pg_name (i := 6) sc_web_ring.nd rfl (by first | exact Or.inl rfl | exact Or.inr rfl)) pgs_nil))) 
        (pss_one (ps_for PassesOwn.never rfl (pi_tup (pe_slice sl_tupA (pv 3) po_none (po_some (pv 5)))) (pg_name (i := 7) sc_web_ring.nd rfl (by first | exact Or.inl rfl | exact Or.inr rfl)) 
          (pss_one (ps_if (pt_cmpR op_eq (pe_ix (kIxL K rfl) (pv 1) (pv 6) (fun _ _ => rfl)) (pe_ix (kIxL K rfl) (pv 1) (pv 7) (fun _ _ => rfl)) (nomark _)) 
            (pss_one (ps_ret (pe_op op_catA (pe_cal c_path_between (hr.mono (by decide)) (by rfl) (pa_cons (pv 0) (pa_cons (pv 2) (pa_cons (pv 7) (pa_cons (pv 6) pa_nil))))) (pe_tup (pa_cons (pv 2) pa_nil))))) pss_nil))))) 
      (pss_cons (ps_set (i := 4) sc_web_ring.nd rfl (by first | exact Or.inl rfl | exact Or.inr rfl) (pe_lc rfl sc_web_ring.nd (pi_tup (pv 3)) (blkOk_by (own := [("bit", 6)]) (N := ["code", "label", "number", "lot", "names", "place", "bit", "other", "name"]) (sc := (defScope s_web_ring)) (by decide +kernel)) (fun _ _ _ _ _ => (pg_name (i := 6) sc_web_ring.nd rfl (by first | exact Or.inl rfl | exact Or.inr rfl))) (fun _ _ _ _ _ => pts_nil) (fun _ _ _ _ _ => (pe_ix (kIxL K rfl) (pv 1) (pv 6) (fun _ _ => rfl))))) 
      (pss_one (ps_set (i := 1) sc_web_ring.nd rfl (by first | exact Or.inl rfl | exact Or.inr rfl) (pe_lc rfl sc_web_ring.nd (pi_list (pv 1)) (blkOk_by (own := [("name", 8)]) (N := ["code", "label", "number", "lot", "names", "place", "bit", "other", "name"]) (sc := (defScope s_web_ring)) (by decide +kernel)) (fun _ _ _ _ _ => (pg_name (i := 8) sc_web_ring.nd rfl (by first | exact Or.inl rfl | exact Or.inr rfl))) (fun _ _ _ _ _ => pts_nil) (fun _ _ _ _ _ => (pe_ifExp (pt_cmpR (kIn K rfl) (pv 8) (pv 4) (by rfl)) (pe_ix (kIxL K rfl) (pv 4) pe_int (fun _ _ => rfl)) (pv 8))))))))) 
    (pss_one (ps_ret pe_non)))), ?_⟩
    refine ⟨_, rfl, p, C, dx, _, _, rfl, hp, B.cl, B.nB, cf_bits n t, _, rfl, .of_le (by omega) (by omega) (by omega) (by omega), fun ll0 hll0 => ?_⟩
    rw [iv_rg]
    have el := Ex.new (o := .lst (iv (List.range n))) hll0
    refine ⟨_, rfl, p, C, dx, _, _, rfl, el _ _ hp, B.cl, B.nC, cf_checks n t, t, xs, rfl, .inr ⟨SqT.of (el _ _ ht), for_it walk_enumT (fun i σ H' => ∃ (ll : Addr) (L : List Nat) (o2 o3 o4 o5 o6 o7 : Option V), σ = [some (.ref p), some (.ref ll), o2, o3, o4, o5, o6, o7, none] ∧
      H' ll = some (.lst (iv L)) ∧ Vl n (cs.take i) L ∧ (∀ j, j < i → ¬ Dup n cs j) ∧ Ex H H')
      ⟨ll0, List.range n, _, _, _, _, _, _, rfl, upd_same, by rw [List.take_zero]; exact Vl.start n, fun j hj => absurd hj (Nat.not_lt_zero j), el⟩ (fun i σ H' _ ⟨_, _, _, _, _, _, _, _, _, _, _, _, e⟩ => SqT.of (e _ _ ht)) ?_ ?_⟩⟩
    · rintro i x σ H1 H2 hi ⟨ll, L, o2, o3, o4, o5, o6, o7, rfl, hll, vl, hnd, e⟩ ⟨T, y1, y2, rfl, hT, rfl, ex, ey⟩
      cases ex
      obtain ⟨c, hc, hit⟩ := hts.get ey
      obtain ⟨ct, rfl, hct0⟩ := hit
      have hci := (List.getElem?_eq_some_iff.mp hc).1
      have hcm := List.mem_of_getElem? hc
      have hclt := hg.lt c hcm
      have hcn : c.length ≤ n := by
        have := sub_len (asc_nodup (hg.asc c hcm)) (m := List.range n) fun x hx => List.mem_range.mpr (hclt x hx)
        rw [List.length_range] at this
        exact this
      have eT := e.trans (Ex.new (o := .tup [.int ((i : Nat) : Int), .ref ct]) hT)
      have hllT := (Ex.new (o := .tup [.int ((i : Nat) : Int), .ref ct]) hT) _ _ hll
      obtain ⟨vlk, _⟩ := labs_ok hg i (by omega)
      refine ⟨T, _, rfl, SqT.of upd_same, rfl, _, _, rfl, _, _, rfl, rfl, ?_⟩
      generalize upd H1 T (.tup [.int ((i : Nat) : Int), .ref ct]) = H2 at *
      -- for place, bit in enumerate(lot)
      refine ⟨_, rfl, ct, iv c, rfl, .inr ⟨SqT.of (eT _ _ hct0), for_it walk_enumT (fun a σ H' => ∃ o5 o6 o7 : Option V, σ = [some (.ref p), some (.ref ll), some (.int ((i : Nat) : Int)), some (.ref ct), o4, o5, o6, o7, none] ∧ (nm L (c.take a)).Nodup ∧ Ex H2 H')
        ⟨_, _, _, rfl, by rw [List.take_zero]; exact List.nodup_nil, Ex.refl _⟩ (fun a σ H' _ ⟨_, _, _, _, _, e'⟩ => SqT.of ((eT.trans e') _ _ hct0)) ?_ ?_⟩⟩
      · rintro a x σ H3 H4 ha ⟨o5, o6, o7, rfl, hnda, e3⟩ ⟨T2, z1, z2, rfl, hT2, rfl, ex2, ey2⟩
        cases ex2
        obtain ⟨b, hb, rfl⟩ := iv_of ey2
        have hbc := List.mem_of_getElem? hb
        have hbn := hclt b hbc
        have hal := (List.getElem?_eq_some_iff.mp hb).1
        have e4 := e3.trans (Ex.new (o := .tup [.int ((a : Nat) : Int), .int (b : Int)]) hT2)
        refine ⟨T2, _, rfl, SqT.of upd_same, rfl, _, _, rfl, _, _, rfl, rfl, ?_⟩
        generalize upd H3 T2 (.tup [.int ((a : Nat) : Int), .int (b : Int)]) = H4 at *
        -- for other in lot[:place]
        refine ⟨_, rfl, _, rfl, _, rfl, ct, _, rfl, SqT.of ((eT.trans e4) _ _ hct0), fun z => ?_, fun _ sp hsp => ?_⟩
        · have z2 := z.2
          rw [HT.sIx_nat, iv_len] at z2
          omega
        have ecut : cutV (iv c) none (some (a : Int)) = iv (c.take a) := by
          unfold cutV
          rw [HT.sIx_none, HT.sIx_nat, List.drop_zero, Nat.sub_zero, iv_len, Nat.min_eq_left (by omega)]
          unfold iv
          rw [List.map_take]
        rw [ecut]
        have e5 := e4.trans (Ex.new (o := .tup (iv (c.take a))) hsp)
        refine ⟨sp, rfl, ⟨_, SqT.of upd_same⟩, for_tup (K := K) (a := sp) (xs := iv (c.take a)) (fun m σ H' => ∃ o7 : Option V, σ = [some (.ref p), some (.ref ll), some (.int ((i : Nat) : Int)), some (.ref ct), o4, some (.int ((a : Nat) : Int)), some (.int (b : Int)), o7, none] ∧
          (∀ y, y ∈ (c.take a).take m → lb L y ≠ lb L b) ∧ Ex (upd H4 sp (.tup (iv (c.take a)))) H')
          ⟨_, rfl, fun y hy => absurd hy (by simp), Ex.refl _⟩ (fun m σ H' _ ⟨_, _, _, e'⟩ => SqT.of (e' _ _ upd_same)) ?_ ?_⟩
        · rintro m x σ H5 hm ⟨o7, rfl, hns, e6⟩
          obtain ⟨o, ho, rfl⟩ := iv_of hm
          have hma : m < a := by
            have := (List.getElem?_eq_some_iff.mp ho).1
            rw [List.length_take] at this
            omega
          have hoc : c[m]? = some o := by rw [List.getElem?_take_of_lt hma] at ho; exact ho
          have hon := hclt o (List.mem_of_getElem? hoc)
          have e7 := e5.trans e6
          have hll5 := e7 _ _ hllT
          refine ⟨_, rfl, _, rfl, ll, _, _, _, rfl, rfl, SqL.of hll5, atI_nat (iv_get (lb_get (by rw [vl.len]; exact hbn))), _, rfl, _, rfl, ll, _, _, _, rfl, rfl, SqL.of hll5, atI_nat (iv_get (lb_get (by rw [vl.len]; exact hon))), rfl, _, rfl, ?_⟩
          refine ite2 (fun heq => ?_) (fun hneq => ?_)
          · have heq : lb L b = lb L o := by
              have := of_decide_eq_true heq
              injection this with this
              omega
            have hdup : Dup n cs i := ⟨c, hc, fun nd => by
              have nd2 := nodup_label vlk vl hclt nd
              have g1 : (nm L c)[a]? = some (lb L b) := by unfold nm; rw [List.getElem?_map, hb]; rfl
              have g2 : (nm L c)[m]? = some (lb L b) := by unfold nm; rw [List.getElem?_map, hoc, heq]; rfl
              have := nodup_get nd2 g1 g2
              omega⟩
            have hne : o ≠ b := fun z => by
              have := nodup_get (asc_nodup (hg.asc c hcm)) (z ▸ hoc) hb
              omega
            refine ⟨_, rfl, _, rfl, _, rfl, _, rfl, .ref p, n, i, o, b, cs, rfl, hcode.ex (eT.trans e7), hg, hn, by omega, hcl, hon, fun S hS hSo => vl.gen S hS o b hon hbn heq.symm hSo, fun u H6 r e8 hu hpf hrl => ?_⟩
            refine ⟨_, rfl, by show 1 ≤ sizeLine; decide, fun t1 ht1 => ?_⟩
            have e9 := Ex.new (o := .tup [V.int ((i : Nat) : Int)]) ht1
            refine cat_it (q := [i]) (hu.ex e9) ⟨t1, rfl, upd_same⟩ (by simp; omega) (by simp) fun u2 H7 e10 hu2 => ?_
            obtain ⟨bs, ks, hpth, hb1, hk1, hlt⟩ := hpf
            exact q u2 H7 (eT.trans (e7.trans (e8.trans (e9.trans e10)))) (.inr ⟨r ++ [b] ++ [i], i, hu2, hdup, ring_of hpth hb1 hk1 hlt hbn hne hc (List.mem_of_getElem? hoc) hbc, by simp; omega⟩)
          · have hneq : lb L o ≠ lb L b := fun z => hneq (decide_eq_true (by rw [z]))
            refine ⟨_, rfl, fun y hy => ?_, e6⟩
            rw [take_snoc ho] at hy
            rcases List.mem_append.mp hy with hy | hy
            · exact hns y hy
            · rw [List.mem_singleton.mp hy]
              exact hneq
        · rintro σ H5 ⟨o7, rfl, hns, e6⟩
          rw [iv_len, List.take_length] at hns
          refine ⟨_, _, _, rfl, ?_, e5.trans e6⟩
          unfold nm at *
          rw [take_snoc hb, List.map_append]
          refine List.nodup_append.mpr ⟨hnda, by simp, fun x hx y hy z => ?_⟩
          obtain ⟨o, ho, rfl⟩ := List.mem_map.mp hx
          have : y = lb L b := by simpa using hy
          exact hns o ho (z.trans this)
      · rintro σ H3 ⟨o5, o6, o7, rfl, hndc, e3⟩
        rw [iv_len, List.take_length] at hndc
        have hct := (eT.trans e3) _ _ hct0
        have hll3 := e3 _ _ hllT
        -- names
        refine ⟨_, rfl, ct, rfl, ⟨_, SqT.of hct⟩, fun D hD => lc_tup (K := K) (a := ct) (xs := iv c) (fun j H' => H' D = some (.lst (iv ((c.take j).map (lb L)))) ∧ Ex H3 H')
          ⟨by rw [List.take_zero]; exact upd_same, Ex.new hD⟩ (fun j H' _ ⟨_, e'⟩ => SqT.of (e' _ _ hct)) ?_ ?_⟩
        · rintro j x H4 hj ⟨h4, e4⟩
          obtain ⟨b, hb, rfl⟩ := iv_of hj
          have hbn := hclt b (List.mem_of_getElem? hb)
          have hjl := (List.getElem?_eq_some_iff.mp hb).1
          refine ⟨rfl, lc_yes ?_⟩
          refine ⟨_, rfl, _, rfl, ll, _, _, _, rfl, rfl, SqL.of (e4 _ _ hll3), atI_nat (iv_get (lb_get (by rw [vl.len]; exact hbn))), _, h4, ?_, ?_, e4.mut hD⟩
          · rw [iv_len, List.length_map, List.length_take]
            exact small1000 (by omega)
          · rw [upd_same, map_take_snoc hb, iv_app]
            rfl
        · rintro H4 ⟨h4, e4⟩
          rw [iv_len, List.take_length] at h4
          have h4n : H4 D = some (.lst (iv (nm L c))) := h4
          obtain ⟨r0, hr0⟩ : ∃ r0, (nm L c)[0]? = some r0 := by
            have : 0 < (nm L c).length := List.length_pos_iff.mpr (nm_ne (hg.ne c hcm))
            exact ⟨_, List.getElem?_eq_getElem this⟩
          -- label
          refine ⟨_, rfl, ll, rfl, ⟨_, SqL.of (e4 _ _ hll3)⟩, fun D2 hD2 => lc_list (K := K) (a := ll) (xs := iv L) (fun j H' => H' D2 = some (.lst (iv ((L.take j).map fun x => if x ∈ nm L c then r0 else x))) ∧ Ex H4 H')
            ⟨by rw [List.take_zero]; exact upd_same, Ex.new hD2⟩ (fun j H' _ ⟨_, e'⟩ => SqL.of ((e4.trans e') _ _ hll3)) ?_ ?_⟩
          · rintro j x H5 hj ⟨h5, e5⟩
            obtain ⟨b, hb, rfl⟩ := iv_of hj
            have hjl := (List.getElem?_eq_some_iff.mp hb).1
            refine ⟨rfl, lc_yes ?_⟩
            have hlen : (iv ((L.take j).map fun x => if x ∈ nm L c then r0 else x)).length < sizeLine := by
              rw [iv_len, List.length_map, List.length_take]
              have := vl.len
              exact small1000 (by omega)
            refine ⟨_, rfl, _, rfl, D, _, rfl, .inl (SqL.of (e5 _ _ h4n)), rfl, iv_flat _, _, rfl, ?_⟩
            rw [if_neg (by decide), inV_iv]
            refine ite2 (fun hin => ?_) (fun hin => ?_)
            · refine ⟨_, rfl, D, _, 0, _, rfl, rfl, SqL.of (e5 _ _ h4n), atI_nat (j := 0) (iv_get hr0), _, h5, hlen, ?_, e5.mut hD2⟩
              rw [upd_same, map_take_snoc hb, iv_app, if_pos (of_decide_eq_true hin)]
              rfl
            · refine ⟨_, rfl, _, h5, hlen, ?_, e5.mut hD2⟩
              rw [upd_same, map_take_snoc hb, iv_app, if_neg (fun z => hin (decide_eq_true z))]
              rfl
          · rintro H5 ⟨h5, e5⟩
            rw [iv_len, List.take_length] at h5
            refine ⟨D2, mrg L c r0, _, _, _, _, _, _, rfl, h5, ?_, fun j hj => ?_, eT.trans (e3.trans (e4.trans e5))⟩
            · rw [take_snoc hc]
              exact vl.step hclt (List.mem_of_getElem? hr0)
            · rcases Nat.lt_or_ge j i with z | z
              · exact hnd j z
              · have : j = i := by omega
                subst this
                rintro ⟨c', hc', hn'⟩
                rw [hc] at hc'
                cases hc'
                exact hn' (nodup_label vl vlk hclt hndc)
    · rintro σ H1 ⟨ll, L, o2, o3, o4, o5, o6, o7, rfl, hll, vl, hnd, e⟩
      rw [hts.1] at hnd
      exact q .non H1 e (.inl ⟨rfl, hnd⟩)
end
end Kd

namespace Kd
open PySem PySem.Spec PyProof.Rows L2 Evl Km Kr Kb Kc
theorem two_pos : (0 : Int) < 2 := by decide
theorem fits_long {x : Int} (h0 : -(2 ^ 62) ≤ x) (h1 : x < 2 ^ 62) : Builtin.Range.rangeFitsLong x = true := by
  unfold Builtin.Range.rangeFitsLong
  simp
  omega
theorem rg2 (i j : Nat) (hi : i ≤ 1000) (hj : j ≤ 1000) : RgC (i : Int) (j : Int) 2 ((j + 1 - i) / 2) := by
  have e : Builtin.Range.rangeSize (i : Int) (j : Int) 2 = (((j + 1 - i) / 2 : Nat) : Int) := by
    unfold Builtin.Range.rangeSize
    rw [if_pos (by decide)]
    by_cases h : i < j
    · rw [if_pos (by omega)]
      omega
    · rw [if_neg (by omega)]
      omega
  refine ⟨by decide, by decide, ?_, e⟩
  unfold Builtin.Range.small
  rw [e, fits_long (by omega) (by omega), fits_long (by omega) (by omega), fits_long (by omega) (by omega), fits_long (by omega) (by omega), if_pos (by decide), fits_long (by omega) (by omega)]
  simp
section
variable {P : Program} {w : World} {K : PySem.W.Frag} {mg : Str → Option Value} {base : Heap} {C fI : Addr}
/-- a loop over enumerate of a list or a tuple that stands -/
def EnumR (J : It) (g : TG) (tb : TS) (D : Ends) (σ : L2.St) (H : Hp) : Prop :=
  ∃ W : Nat → Nat → L2.St → Hp → Prop, (∃ m, W 0 m σ H) ∧ ∀ i m σ H, W i m σ H →
    (J.stop i H ∧ D.nx σ H) ∨ (J.go i H ∧ ∃ N : L2.St → Hp → Prop, (∀ σ' H', N σ' H' → ∃ m', m' < m ∧ W (i + 1) m' σ' H') ∧ ∀ x H', J.yld i H x H' → g x σ H' fun σ2 H2 => tb { D with nx := N, ct := N, bk := D.nx } σ2 H2)
theorem enum_any {a : Addr} {xs : List V} {g : TG} {tb : TS} {D : Ends} {σ : L2.St} {H : Hp} (h : SqL K H a xs ∨ SqT K H a xs) (Pv : Nat → L2.St → Hp → Prop) (h0 : Pv 0 σ H) (hG : ∀ i σ' H', i ≤ xs.length → Pv i σ' H' → Ex H H')
    (hs : ∀ (i : Nat) (x : V) (T : Addr) σ' H', xs[i]? = some x → H' T = none → Pv i σ' H' → g (.ref T) σ' (upd H' T (.tup [.int (i : Nat), x])) fun σ2 H2 => tb { D with nx := Pv (i + 1), ct := Pv (i + 1), bk := D.nx } σ2 H2)
    (hd : ∀ σ' H', Pv xs.length σ' H' → D.nx σ' H') : (SqL K H a xs ∧ EnumR (Ite K a) g tb D σ H) ∨ (SqT K H a xs ∧ EnumR (IteT K a) g tb D σ H) := by
  rcases h with h | h
  · refine .inl ⟨h, for_it walk_enum Pv h0 (fun i σ' H' hi p => ex_l (hG i σ' H' hi p) h) ?_ hd⟩
    rintro i x σ' H1 H2 hi p ⟨T, y1, y2, rfl, hT, rfl, ex, ey⟩
    cases ex
    exact hs i y2 T σ' H1 ey hT p
  · refine .inr ⟨h, for_it walk_enumT Pv h0 (fun i σ' H' hi p => ex_t (hG i σ' H' hi p) h) ?_ hd⟩
    rintro i x σ' H1 H2 hi p ⟨T, y1, y2, rfl, hT, rfl, ex, ey⟩
    cases ex
    exact hs i y2 T σ' H1 ey hT p
theorem seq_ex {H H' : Hp} {a : Addr} {xs : List V} (e : Ex H H') (h : SqL K H a xs ∨ SqT K H a xs) : SqL K H' a xs ∨ SqT K H' a xs := h.imp (ex_l e) (ex_t e)
/-- the first i things are whole, in their bounds, unlike at like parity: told by numbers -/
structure Pre (n m : Nat) (rs : List V) (i : Nat) (zs : List Nat) : Prop where
  eq : rs.take i = iv zs
  rng : ∀ (j z : Nat), zs[j]? = some z → z < if j % 2 = 0 then n else m
theorem Pre.len {n m i : Nat} {rs : List V} {zs : List Nat} (h : Pre n m rs i zs) (hi : i ≤ rs.length) : zs.length = i := by
  have := congrArg List.length h.eq
  rw [iv_len, List.length_take] at this
  omega
def Dst (zs : List Nat) : Prop := ∀ i j : Nat, j < i → i < zs.length → i % 2 = j % 2 → zs[i]? ≠ zs[j]?
theorem Pre.next {n m i z : Nat} {rs : List V} {zs : List Nat} (h : Pre n m rs i zs) (hi : rs[i]? = some (.int (z : Int))) (hz : z < if i % 2 = 0 then n else m) : Pre n m rs (i + 1) (zs ++ [z]) := by
  have hl := h.len (Nat.le_of_lt (List.getElem?_eq_some_iff.mp hi).1)
  refine ⟨by rw [take_snoc hi, h.eq, iv_app]; rfl, fun j y hj => ?_⟩
  rw [get_snoc] at hj
  by_cases h1 : j < zs.length
  · rw [if_pos h1] at hj
    exact h.rng j y hj
  · rw [if_neg h1] at hj
    by_cases h2 : j = zs.length
    · rw [if_pos h2] at hj
      cases hj
      rw [h2, hl]
      exact hz
    · rw [if_neg h2] at hj
      cases hj
theorem Dst.next {zs : List Nat} {z : Nat} (h : Dst zs) (hn : ∀ j, j < zs.length → zs.length % 2 = j % 2 → zs[j]? ≠ some z) : Dst (zs ++ [z]) := fun i j hji hi hp he => by
  rw [List.length_append, List.length_singleton] at hi
  rw [get_snoc, get_snoc] at he
  by_cases h1 : i < zs.length
  · rw [if_pos h1, if_pos (by omega)] at he
    exact h i j hji h1 hp he
  · rw [if_neg h1, if_pos (by omega), if_pos (by omega)] at he
    have : i = zs.length := by omega
    exact hn j (by omega) (by omega) he.symm
/-- all is well: the form -/
theorem form_of {n m : Nat} {rs : List V} {zs : List Nat} (h : Pre n m rs rs.length zs) (hd : Dst zs) (h4 : 4 ≤ rs.length) (h2 : rs.length % 2 = 0) : FormOk n m rs := by
  have e := h.eq
  rw [List.take_length] at e
  have hl := h.len (Nat.le_refl _)
  refine ⟨⟨h4, h2⟩, fun i x hx => ?_, fun i j hji hi hp he => ?_⟩
  · rw [e] at hx
    obtain ⟨z, hz, rfl⟩ := iv_of hx
    exact ⟨z, rfl, h.rng i z hz⟩
  · rw [e] at he
    rw [← hl] at hi
    have hx : zs[i]? = some zs[i] := List.getElem?_eq_getElem hi
    have g1 := iv_get hx
    rw [he] at g1
    exact hd i j hji hi hp (hx.trans (iv_back g1).symm)
def spRing (C : Addr) : Sp := fun vs H Q _ => ∃ (v x : V) (n : Nat) (cs : List (List Nat)), vs = [v, x] ∧ CodeAt C H v n cs ∧ Good n cs ∧ n ≤ 10 ∧ cs.length ≤ 60 ∧
  ((Sq H x false ∧ ∀ H', Ex H H' → Q (.str "form") H') ∨ ∃ (a : Addr) (rs : List V), x = .ref a ∧ (H a = some (.lst rs) ∨ H a = some (.tup rs)) ∧ (∀ y, y ∈ rs → Sc y) ∧ rs.length ≤ 100 ∧ ∀ H', Ex H H' → Q (fault n cs rs) H')
theorem isW_true {x : V} {m : Nat} {hi : Int} (h : isW x 0 hi = true) (hm : hi = (m : Int) - 1) : ∃ z : Nat, x = .int (z : Int) ∧ z < m := by
  cases x with
  | int i =>
    simp only [isW] at h
    simp at h
    exact ⟨i.toNat, by congr 1; omega, by omega⟩
  | _ => simp [isW] at h
theorem isW_of {z m : Nat} {hi : Int} (h : z < m) (hm : hi = (m : Int) - 1) : isW (.int (z : Int)) 0 hi = true := by
  simp only [isW]
  rw [decide_eq_true (by omega), decide_eq_true (by omega)]
  rfl
theorem ok_ring_fault {f : Addr} {fd : FuncData} (F : Fun K "ring_fault" "ring_fault" s_ring_fault f fd) (B : Bt K mg C fI) (c_is_sequence : Cal P w K mg base "is_sequence" 1 ["thing"] spIsSeq)
    (c_is_whole : Cal P w K mg base "is_whole" 1 ["thing", "low", "high"] spWhole) : FnOk P w K mg base CX0 2 f fd ["code", "ring"] (spRing C) := by
  refine F.ok sc_ring_fault (fun vs H Q E h => ?_) (fun cdv A outer s H vs Q E hr h => ?_)
  · obtain ⟨v, x, n, cs, rfl, _⟩ := h
    rfl
  · obtain ⟨v, x, n, cs, rfl, hcode, hg, hn, hcl, q⟩ := h
    obtain ⟨p, dx, t, xs, rfl, hp, ht, hts⟩ := id hcode
    refine ⟨_, 
    (pss_cons (ps_if (PW.pt (pw_or (pt_not (pt_val (pe_cal c_is_sequence (hr.mono (by decide)) (by rfl) (pa_cons (pv 1) pa_nil)))) (pw_or (pt_cmpR op_lt (pe_callB (kLen K rfl) (by rfl) B.zlen (by decide +kernel) (pa_cons (pv 1) pa_nil)) pe_int (nomark _)) (pw_or1 (pt_cmpR op_eq (pe_op op_mod (pe_callB (kLen K rfl) (by rfl) B.zlen (by decide +kernel) (pa_cons (pv 1) pa_nil)) pe_int) pe_int (nomark _)))))) 
      (pss_one (ps_ret pe_str)) pss_nil) 
    (pss_cons (ps_for PassesOwn.never rfl (pi_enumA (by rfl) B.zenumerate (pa_cons (pv 1) pa_nil)) (pg_tup rfl (pgs_cons (pg_name (i := 2) sc_ring_fault.nd rfl (by first | exact Or.inl rfl | exact Or.inr rfl)) (pgs_cons (pg_name (i := 3) sc_ring_fault.nd rfl (by first | exact Or.inl rfl | exact Or.inr rfl)) pgs_nil))) 
      (pss_cons (ps_set (i := 4) sc_ring_fault.nd rfl (by first | exact Or.inl rfl | exact Or.inr rfl) (pe_ifExp (pt_cmpR op_eq (pe_op op_mod (pv 2) pe_int) pe_int (nomark _)) (pe_op op_sub (kFld K rfl (pv 0) rfl) pe_int) (pe_op op_sub (pe_callB (kLen K rfl) (by rfl) B.zlen (by decide +kernel) (pa_cons (kFld K rfl (pv 0) rfl) pa_nil)) pe_int))) 
      (pss_cons (ps_if (pt_not (pt_val (pe_cal c_is_whole (hr.mono (by decide)) (by rfl) (pa_cons (pv 3) (pa_cons pe_int (pa_cons (pv 4) pa_nil)))))) 
        (pss_one (ps_ret pe_str)) pss_nil) 
      (pss_one (ps_if (pt_cmpR (kIn K rfl) (pv 3) (pe_lc rfl sc_ring_fault.nd (pi_range3 (by rfl) B.zrange (pa_cons (pe_op op_mod (pv 2) pe_int) (pa_cons (pv 2) (pa_cons pe_int pa_nil)))) (blkOk_by (own := [("at", 5)]) (N := ["code", "ring", "place", "thing", "most", "at", "lot"]) (sc := (defScope s_ring_fault)) (by decide +kernel)) (fun _ _ _ _ _ => (pg_name (i := 5) sc_ring_fault.nd rfl (by first | exact Or.inl rfl | exact Or.inr rfl))) (fun _ _ _ _ _ => pts_nil) (fun _ _ _ _ _ => (pe_ix (kIxLT K rfl) (pv 1) (pv 5) (fun _ _ => rfl)))) (by rfl)) 
        (pss_one (ps_ret pe_str)) pss_nil))))) 
    (pss_cons (ps_for PassesOwn.never rfl (pi_range3 (by rfl) B.zrange (pa_cons pe_int (pa_cons (pe_callB (kLen K rfl) (by rfl) B.zlen (by decide +kernel) (pa_cons (pv 1) pa_nil)) (pa_cons pe_int pa_nil)))) (pg_name (i := 2) sc_ring_fault.nd rfl (by first | exact Or.inl rfl | exact Or.inr rfl)) 
      (pss_cons (ps_set (i := 6) sc_ring_fault.nd rfl (by first | exact Or.inl rfl | exact Or.inr rfl) (pe_ix (kIxT K rfl) (kFld K rfl (pv 0) rfl) (pe_ix (kIxLT K rfl) (pv 1) (pv 2) (fun _ _ => rfl)) (fun _ _ => rfl))) 
      (pss_one (ps_if (PW.pt (pw_or (pt_cmpR (kNotIn K rfl) (pe_ix (kIxLT K rfl) (pv 1) (pe_op op_sub (pv 2) pe_int) (fun _ _ => rfl)) (pv 6) (by rfl)) (pw_or1 (pt_cmpR (kNotIn K rfl) (pe_ix (kIxLT K rfl) (pv 1) (pe_op op_mod (pe_op op_add (pv 2) pe_int) (pe_callB (kLen K rfl) (by rfl) B.zlen (by decide +kernel) (pa_cons (pv 1) pa_nil))) (fun _ _ => rfl)) (pv 6) (by rfl))))) 
        (pss_one (ps_ret pe_str)) pss_nil)))) 
    (pss_one (ps_ret pe_non))))), ?_⟩
    rcases q with ⟨hsq, q⟩ | ⟨a, rs, rfl, ha, hsc, hlen, q⟩
    · exact ⟨_, rfl, _, false, rfl, hsq, fun H1 e1 => ⟨_, rfl, iteT (q H1 e1)⟩⟩
    · have hsq : Sq H (.ref a) true := by
        rcases ha with h | h
        · exact .lst h
        · exact .tup h
      have hseq : SqL K H a rs ∨ SqT K H a rs := ha.imp SqL.of SqT.of
      have bad : ∀ H1, Ex H H1 → ¬ FormOk n cs.length rs → Q (.str "form") H1 := fun H1 e1 hno => by
        have := q H1 e1
        rw [fault_form hno] at this
        exact this
      refine ⟨_, rfl, _, true, rfl, hsq, fun H1 e1 => ⟨_, rfl, iteF ⟨_, rfl, a, _, rfl, seq_ex e1 hseq, _, _, rfl, rfl, _, rfl, ?_⟩⟩⟩
      refine ite2 (fun h4 => ?_) (fun h4 => ?_)
      · refine iteT (bad H1 e1 fun z => ?_)
        have h4 := of_decide_eq_true h4
        have := z.len.1
        omega
      have h4 : 4 ≤ rs.length := by
        have : ¬ ((rs.length : Int) < 4) := fun z => h4 (decide_eq_true z)
        omega
      refine ⟨_, rfl, a, _, rfl, seq_ex e1 hseq, _, _, rfl, rfl, two_pos, rfl, _, rfl, ?_⟩
      refine ite2 (fun hodd => ?_) (fun hodd => ?_)
      · refine bad H1 e1 fun z => ?_
        have h2 := of_decide_eq_true hodd
        injection h2 with h2
        have := z.len.2
        omega
      have heven : rs.length % 2 = 0 := by
        have : ¬ (V.int ((rs.length : Int) % 2) = V.int 1) := fun z => hodd (decide_eq_true z)
        rcases Nat.mod_two_eq_zero_or_one rs.length with z | z
        · exact z
        · exact absurd (by congr 1; omega) this
      -- the things, one by one
      refine ⟨_, rfl, a, rs, rfl, enum_any (K := K) (seq_ex e1 hseq) (fun i σ H' => ∃ (zs : List Nat) (o2 o3 o4 : Option V), σ = [some (.ref p), some (.ref a), o2, o3, o4, none, none] ∧ Pre n cs.length rs i zs ∧ Dst zs ∧ Ex H1 H')
        ⟨[], _, _, _, rfl, ⟨rfl, fun j z hj => by simp at hj⟩, fun i j _ hi => absurd hi (Nat.not_lt_zero i), Ex.refl _⟩ (fun i σ H' _ ⟨_, _, _, _, _, _, _, e⟩ => e) ?_ ?_⟩
      · rintro i x T σ H2 hi hT ⟨zs, o2, o3, o4, rfl, hpre, hdst, e2⟩
        have hil := (List.getElem?_eq_some_iff.mp hi).1
        have hzl := hpre.len (Nat.le_of_lt hil)
        have e3 := e2.trans (Ex.new (o := .tup [.int ((i : Nat) : Int), x]) hT)
        refine ⟨T, _, rfl, SqT.of upd_same, rfl, _, _, rfl, _, _, rfl, rfl, ?_⟩
        generalize upd H2 T (.tup [.int ((i : Nat) : Int), x]) = H3 at *
        have e03 := e1.trans e3
        -- most
        refine q_asg (v := .int (((if i % 2 = 0 then n else cs.length : Nat) : Int) - 1)) ?_ fun H4 e4 => ?_
        · intro H4 e4 Q' k'
          have e04 := e03.trans e4
          refine ⟨_, rfl, _, _, rfl, rfl, two_pos, rfl, _, rfl, ?_⟩
          have back := k' H4 (Ex.refl _)
          refine ite2 (fun h0 => ?_) (fun h0 => ?_)
          · have h0 := of_decide_eq_true h0
            injection h0 with h0
            rw [if_pos (by omega)] at back
            exact ⟨_, rfl, p, C, dx, _, _, rfl, e04 _ _ hp, B.cl, B.nB, cf_bits n t, _, _, rfl, rfl, back⟩
          · have h0 : ¬ (V.int ((i : Int) % 2) = V.int 0) := fun z => h0 (decide_eq_true z)
            rw [if_neg (fun z => h0 (by congr 1; omega))] at back
            refine ⟨_, rfl, p, C, dx, _, _, rfl, e04 _ _ hp, B.cl, B.nC, cf_checks n t, t, _, rfl, .inr (SqT.of (e04 _ _ ht)), _, _, rfl, rfl, ?_⟩
            rw [hts.1]
            exact back
        -- is it whole, and in its bounds
        have e14 := e3.trans e4
        have e04 := e1.trans e14
        refine ⟨_, rfl, _, rfl, x, 0, _, rfl, hsc x (List.mem_of_getElem? hi), ?_⟩
        by_cases hw : isW x 0 (((if i % 2 = 0 then n else cs.length : Nat) : Int) - 1) = true
        · obtain ⟨z, rfl, hz⟩ := isW_true hw rfl
          rw [hw]
          refine ⟨_, rfl, iteF ?_⟩
          -- is it met before
          refine ⟨_, rfl, _, rfl, _, _, rfl, rfl, two_pos, _, rfl, (i : Int) % 2, (i : Int), 2, i / 2, rfl, ?_, fun D hD => lc_it walk_rangeC (fun j H' => H' D = some (.lst (iv ((List.range j).map fun m => lb zs (i % 2 + 2 * m)))) ∧ Ex H4 H') ⟨upd_same, Ex.new hD⟩ (fun _ _ _ _ => trivial) ?_ ?_⟩
          · have h1 := rg2 (i % 2) i (by omega) (by omega)
            have h2 : (i + 1 - i % 2) / 2 = i / 2 := by omega
            rw [h2] at h1
            have h3 : ((i % 2 : Nat) : Int) = (i : Int) % 2 := by omega
            rw [h3] at h1
            exact h1
          · rintro j y H5 H6 hj ⟨h5, e5⟩ ⟨rfl, rfl⟩
            have hlt : i % 2 + 2 * j < zs.length := by omega
            have c1 : (i : Int) % 2 + ((j : Nat) : Int) * 2 = ((i % 2 + 2 * j : Nat) : Int) := by omega
            have hget : rs[i % 2 + 2 * j]? = some (.int ((lb zs (i % 2 + 2 * j) : Nat) : Int)) := by
              have g1 := iv_get (lb_get hlt)
              rw [← hpre.eq, List.getElem?_take_of_lt (by omega)] at g1
              exact g1
            refine ⟨rfl, lc_yes ?_⟩
            refine ⟨_, rfl, _, rfl, ?_⟩
            have fin : ∃ acc, H6 D = some (.lst acc) ∧ acc.length < sizeLine ∧ (upd H6 D (.lst (acc ++ [V.int ((lb zs (i % 2 + 2 * j) : Nat) : Int)]))) D = some (.lst (iv ((List.range (j + 1)).map fun m => lb zs (i % 2 + 2 * m)))) ∧ Ex H4 (upd H6 D (.lst (acc ++ [V.int ((lb zs (i % 2 + 2 * j) : Nat) : Int)]))) := by
              refine ⟨_, h5, ?_, ?_, e5.mut hD⟩
              · rw [iv_len, List.length_map, List.length_range]
                exact small1000 (by omega)
              · rw [upd_same, List.range_succ, List.map_append, iv_app]
                rfl
            rcases seq_ex (e04.trans e5) hseq with hq | hq
            · exact .inl ⟨a, rs, _, _, rfl, rfl, hq, by rw [c1]; exact atI_nat hget, fin⟩
            · exact .inr ⟨a, rs, _, _, rfl, rfl, hq, by rw [c1]; exact atI_nat hget, fin⟩
          · rintro H5 ⟨h5, e5⟩
            refine ⟨D, _, rfl, .inl (SqL.of h5), rfl, iv_flat _, _, rfl, ?_⟩
            rw [if_neg Bool.false_ne_true, inV_iv]
            refine ite2 (fun hin => ?_) (fun hin => ?_)
            · have hin := of_decide_eq_true hin
              obtain ⟨m, hm, he⟩ := List.mem_map.mp hin
              have hm := List.mem_range.mp hm
              refine bad H5 (e04.trans e5) fun fo => ?_
              have hlt : i % 2 + 2 * m < zs.length := by omega
              refine fo.dst i (i % 2 + 2 * m) (by omega) hil (by omega) ?_
              rw [hi]
              have g1 := iv_get (lb_get hlt)
              rw [← hpre.eq, List.getElem?_take_of_lt (by omega), he] at g1
              exact g1.symm
            · have hin : ¬ z ∈ (List.range (i / 2)).map fun m => lb zs (i % 2 + 2 * m) := fun y => hin (decide_eq_true y)
              refine ⟨zs ++ [z], _, _, _, rfl, hpre.next hi hz, hdst.next fun j hj hp2 he => hin ?_, e14.trans e5⟩
              rw [hzl] at hj hp2
              refine List.mem_map.mpr ⟨j / 2, List.mem_range.mpr (by omega), ?_⟩
              have h6 : i % 2 + 2 * (j / 2) = j := by omega
              rw [h6]
              have g1 := lb_get (L := zs) (b := j) (by omega)
              rw [he] at g1
              exact (Option.some.inj g1).symm
        · have hw' : isW x 0 (((if i % 2 = 0 then n else cs.length : Nat) : Int) - 1) = false := by
            cases h : isW x 0 (((if i % 2 = 0 then n else cs.length : Nat) : Int) - 1) with
            | true => exact absurd h hw
            | false => rfl
          rw [hw']
          refine ⟨_, rfl, iteT (bad H4 e04 fun fo => ?_)⟩
          obtain ⟨z, rfl, hz⟩ := fo.rng i x hi
          exact hw (isW_of hz rfl)
      · rintro σ H2 ⟨zs, o2, o3, o4, rfl, hpre, hdst, e2⟩
        have hform := form_of hpre hdst h4 heven
        have hzl := hpre.len (Nat.le_refl _)
        have hrs : rs = iv zs := by
          have := hpre.eq
          rw [List.take_length] at this
          exact this
        have e02 := e1.trans e2
        have good : WireOk cs rs → ∀ H3, Ex H2 H3 → Q .non H3 := fun hw H3 e3 => by
          have := q H3 (e02.trans e3)
          rw [fault_non hform hw] at this
          exact this
        have wire : ¬ WireOk cs rs → ∀ H3, Ex H2 H3 → Q (.str "wire") H3 := fun hw H3 e3 => by
          have := q H3 (e02.trans e3)
          rw [fault_wire hform hw] at this
          exact this
        -- the checks, one by one
        refine ⟨_, rfl, a, _, rfl, seq_ex e02 hseq, 1, _, 2, _, rfl, rg2 1 rs.length (by omega) (by omega), for_it walk_rangeC (fun j σ H' => ∃ (o2 o6 : Option V), σ = [some (.ref p), some (.ref a), o2, o3, o4, none, o6] ∧ (∀ (m b c b' : Nat) (l : List Nat), m < j → zs[2 * m]? = some b → zs[2 * m + 1]? = some c → cs[c]? = some l → zs[(2 * m + 2) % zs.length]? = some b' → b ∈ l ∧ b' ∈ l) ∧ Ex H2 H')
          ⟨_, _, rfl, fun m b c b' l hm => absurd hm (Nat.not_lt_zero m), Ex.refl _⟩ (fun _ _ _ _ _ => trivial) ?_ ?_⟩
        · rintro j y σ H3 H4 hj ⟨o2, o6, rfl, hok, e3⟩ ⟨rfl, rfl⟩
          have hjl : 2 * j + 1 < zs.length := by omega
          have hb := lb_get (L := zs) (b := 2 * j) (by omega)
          have hc := lb_get hjl
          have hclt := hpre.rng _ _ hc
          rw [if_neg (by omega)] at hclt
          have hmod : (2 * j + 2) % zs.length < zs.length := Nat.mod_lt _ (by omega)
          have hb' := lb_get hmod
          generalize lb zs (2 * j) = b at hb
          generalize lb zs (2 * j + 1) = c at hc hclt
          generalize lb zs ((2 * j + 2) % zs.length) = b' at hb'
          have hl : cs[c]? = some cs[c] := List.getElem?_eq_getElem hclt
          generalize cs[c] = l at hl
          obtain ⟨cx, hcx, hit⟩ := hts.at hl
          obtain ⟨ct, rfl, hct0⟩ := hit
          have e03 := e02.trans e3
          have hq := seq_ex e03 hseq
          have c1 : (1 : Int) + ((j : Nat) : Int) * 2 = ((2 * j + 1 : Nat) : Int) := by omega
          have rb : rs[2 * j]? = some (.int (b : Int)) := by rw [hrs]; exact iv_get hb
          have rc : rs[2 * j + 1]? = some (.int (c : Int)) := by rw [hrs]; exact iv_get hc
          have rb' : rs[(2 * j + 2) % zs.length]? = some (.int (b' : Int)) := by rw [hrs]; exact iv_get hb'
          have ixs : ∀ {i : Int} {m : Nat} {y : V} {Q' : VK}, i = (m : Int) → rs[m]? = some y → Q' y H4 → rIxL K (.ref a) (.int i) H4 Q' ∨ rIxT K (.ref a) (.int i) H4 Q' := fun {i m y Q'} hi hm k' => by
            subst hi
            exact hq.imp (fun z => ⟨a, rs, _, _, rfl, rfl, z, atI_nat hm, k'⟩) fun z => ⟨a, rs, _, _, rfl, rfl, z, atI_nat hm, k'⟩
          refine ⟨_, rfl, p, C, dx, _, _, rfl, e03 _ _ hp, B.cl, B.nC, cf_checks n t, _, rfl, _, rfl, ixs c1 rc ?_⟩
          refine ⟨t, _, _, _, rfl, rfl, SqT.of (e03 _ _ ht), atI_nat hcx, ?_⟩
          refine ⟨_, rfl, _, rfl, _, _, rfl, rfl, ixs (m := 2 * j) (by omega) rb ?_⟩
          refine ⟨_, rfl, ct, _, rfl, .inr (SqT.of (e03 _ _ hct0)), rfl, iv_flat _, _, rfl, ?_⟩
          rw [if_pos rfl, inV_iv]
          by_cases hm1 : b ∈ l
          · rw [decide_eq_true hm1]
            refine iteF ?_
            refine ⟨_, rfl, _, rfl, _, _, rfl, rfl, _, rfl, a, _, rfl, hq, _, _, rfl, rfl, by omega, ixs (m := (2 * j + 2) % zs.length) (by
              show ((1 : Int) + (j : Nat) * 2 + 1) % (rs.length : Int) = _
              rw [hzl, show ((1 : Int) + (j : Nat) * 2 + 1) = ((2 * j + 2 : Nat) : Int) by omega, ← Int.natCast_emod]) rb' ?_⟩
            refine ⟨_, rfl, ct, _, rfl, .inr (SqT.of (e03 _ _ hct0)), rfl, iv_flat _, _, rfl, ?_⟩
            rw [if_pos rfl, inV_iv]
            by_cases hm2 : b' ∈ l
            · rw [decide_eq_true hm2]
              refine iteF ?_
              refine ⟨_, _, rfl, fun m b2 c2 b2' l2 hm g1 g2 g3 g4 => ?_, e3⟩
              rcases Nat.lt_or_ge m j with z | z
              · exact hok m b2 c2 b2' l2 z g1 g2 g3 g4
              · have : m = j := by omega
                subst this
                rw [hb] at g1
                rw [hc] at g2
                rw [hb'] at g4
                cases g1
                cases g2
                cases g4
                rw [hl] at g3
                cases g3
                exact ⟨hm1, hm2⟩
            · rw [decide_eq_false hm2]
              refine iteT ?_
              exact wire (fun hw => hm2 (hw j b c b' l rb rc hl (by rw [← hzl]; exact rb')).2) _ e3
          · rw [decide_eq_false hm1]
            refine iteT ?_
            exact wire (fun hw => hm1 (hw j b c b' l rb rc hl (by rw [← hzl]; exact rb')).1) _ e3
        · rintro σ H3 ⟨o2, o6, rfl, hok, e3⟩
          refine good (fun j b c b' l g1 g2 g3 g4 => ?_) H3 e3
          rw [hrs] at g1 g2 g4
          rw [iv_len] at g4
          have hjl := (List.getElem?_eq_some_iff.mp (iv_back g2)).1
          exact hok j b c b' l (by omega) (iv_back g1) (iv_back g2) g3 (iv_back g4)
end
end Kd

namespace Kd
open PySem PySem.Spec PyProof.Rows L2 Evl Km Kr Kb Kc
section
variable {P : Program} {w : World} {K : PySem.W.Frag} {mg : Str → Option Value} {base : Heap} {C fI : Addr}
theorem isI_true {x : V} (h : isI x = true) : ∃ z : Int, x = .int z := by
  cases x with
  | int z => exact ⟨z, rfl⟩
  | _ => simp [isI] at h
theorem dst_of {zs : List Nat} (h : ∀ k j x : Nat, j < k → k < zs.length / 2 → (zs[2 * j]? = some x → zs[2 * k]? ≠ some x) ∧ (zs[2 * j + 1]? = some x → zs[2 * k + 1]? ≠ some x)) (he : zs.length % 2 = 0) : Dst zs := fun i j hji hi hp e => by
  have hx : zs[i]? = some zs[i] := List.getElem?_eq_getElem hi
  generalize zs[i] = x at hx
  rw [hx] at e
  by_cases h0 : i % 2 = 0
  · have h1 : 2 * (i / 2) = i := by omega
    have h2 : 2 * (j / 2) = j := by omega
    have q := (h (i / 2) (j / 2) x (by omega) (by omega)).1
    rw [h1, h2] at q
    exact q e.symm hx
  · have h1 : 2 * (i / 2) + 1 = i := by omega
    have h2 : 2 * (j / 2) + 1 = j := by omega
    have q := (h (i / 2) (j / 2) x (by omega) (by omega)).2
    rw [h1, h2] at q
    exact q e.symm hx
def spFault : Sp := fun vs H Q _ => ∃ (n : Nat) (ck : V) (cs : List (List Nat)) (a : Addr) (rs : List V), vs = [.int (n : Int), ck, .ref a] ∧ CkL H ck cs ∧ n ≤ 10 ∧ cs.length ≤ 60 ∧
  H a = some (.lst rs) ∧ (∀ y, y ∈ rs → Sc y) ∧ rs.length ≤ 100 ∧ ∀ H', Ex H H' → Q (fault n cs rs) H'
theorem ok_law_fault {f : Addr} {fd : FuncData} (F : Fun K "_law_fault" "_law_fault" s__law_fault f fd) (B : Bt K mg C fI) (c__law_whole : Cal P w K mg base "_law_whole" 1 ["_law_thing"] spLWhole) :
    FnOk P w K mg base CX0 2 f fd ["_law_bits", "_law_checks", "_law_ring"] spFault := by
  refine F.ok sc__law_fault (fun vs H Q E h => ?_) (fun cdv A outer s H vs Q E hr h => ?_)
  · obtain ⟨n, ck, cs, a, rs, rfl, _⟩ := h
    rfl
  · obtain ⟨n, ck, cs, a, rs, rfl, ⟨p, xs, rfl, hp, hts⟩, hn, hcl, ha, hsc, hlen, q⟩ := h
    refine ⟨_, 
    (pss_cons (ps_if (PW.pt (pw_or (pt_cmpR op_lt (pe_callB (kLen K rfl) (by rfl) B.zlen (by decide +kernel) (pa_cons (pv 2) pa_nil)) pe_int (nomark _)) (pw_or1 (pt_cmpR op_eq (pe_op op_mod (pe_callTy call_int1 (by rfl) B.zint (by decide +kernel) (pa_cons (pe_callB (kLen K rfl) (by rfl) B.zlen (by decide +kernel) (pa_cons (pv 2) pa_nil)) pa_nil)) pe_int) pe_int (nomark _))))) 
      (pss_one (ps_ret pe_str)) pss_nil) 
    (pss_cons (ps_for PassesOwn.never rfl (pi_enumA (by rfl) B.zenumerate (pa_cons (pv 2) pa_nil)) (pg_tup rfl (pgs_cons (pg_name (i := 3) sc__law_fault.nd rfl (by first | exact Or.inl rfl | exact Or.inr rfl)) (pgs_cons (pg_name (i := 4) sc__law_fault.nd rfl (by first | exact Or.inl rfl | exact Or.inr rfl)) pgs_nil))) 
      (pss_cons (ps_set (i := 5) sc__law_fault.nd rfl (by first | exact Or.inl rfl | exact Or.inr rfl) (pe_ifExp (pt_cmpR op_eq (pe_op op_mod (pe_callTy call_int1 (by rfl) B.zint (by decide +kernel) (pa_cons (pv 3) pa_nil)) pe_int) pe_int (nomark _)) (pv 0) (pe_callB (kLen K rfl) (by rfl) B.zlen (by decide +kernel) (pa_cons (pv 1) pa_nil)))) 
      (pss_one (ps_if (PW.pt (pw_or (pt_not (pt_val (pe_cal c__law_whole (hr.mono (by decide)) (by rfl) (pa_cons (pv 4) pa_nil)))) (pw_or (pt_cmpR op_lt (pv 4) pe_int (nomark _)) (pw_or1 (pt_cmpR op_ge (pv 4) (pv 5) (nomark _)))))) 
        (pss_one (ps_ret pe_str)) pss_nil)))) 
    (pss_cons (ps_set (i := 6) sc__law_fault.nd rfl (by first | exact Or.inl rfl | exact Or.inr rfl) (pe_op op_fdiv (pe_callB (kLen K rfl) (by rfl) B.zlen (by decide +kernel) (pa_cons (pv 2) pa_nil)) pe_int)) 
    (pss_cons (ps_for PassesOwn.never rfl (pi_range1 (by rfl) B.zrange (pa_cons (pv 6) pa_nil)) (pg_name (i := 7) sc__law_fault.nd rfl (by first | exact Or.inl rfl | exact Or.inr rfl)) 
      (pss_one (ps_for PassesOwn.never rfl (pi_range1 (by rfl) B.zrange (pa_cons (pv 7) pa_nil)) (pg_name (i := 8) sc__law_fault.nd rfl (by first | exact Or.inl rfl | exact Or.inr rfl)) 
        (pss_one (ps_if (PW.pt (pw_or (pt_cmpR op_eq (pe_ix (kIxL K rfl) (pv 2) (pe_op op_mul pe_int (pv 8)) (fun _ _ => rfl)) (pe_ix (kIxL K rfl) (pv 2) (pe_op op_mul pe_int (pv 7)) (fun _ _ => rfl)) (nomark _)) (pw_or1 (pt_cmpR op_eq (pe_ix (kIxL K rfl) (pv 2) (pe_op op_add (pe_op op_mul pe_int (pv 8)) pe_int) (fun _ _ => rfl)) (pe_ix (kIxL K rfl) (pv 2) (pe_op op_add (pe_op op_mul pe_int (pv 7)) pe_int) (fun _ _ => rfl)) (nomark _))))) 
          (pss_one (ps_ret pe_str)) pss_nil))))) 
    (pss_cons (ps_for PassesOwn.never rfl (pi_range1 (by rfl) B.zrange (pa_cons (pv 6) pa_nil)) (pg_name (i := 7) sc__law_fault.nd rfl (by first | exact Or.inl rfl | exact Or.inr rfl)) 
      (pss_cons (ps_set (i := 9) sc__law_fault.nd rfl (by first | exact Or.inl rfl | exact Or.inr rfl) (pe_ix (kIxL K rfl) (pv 1) (pe_ix (kIxL K rfl) (pv 2) (pe_op op_add (pe_op op_mul pe_int (pv 7)) pe_int) (fun _ _ => rfl)) (fun _ _ => rfl))) 
      (pss_one (ps_if (PW.pt (pw_or (pt_cmpR (kNotIn K rfl) (pe_ix (kIxL K rfl) (pv 2) (pe_op op_mul pe_int (pv 7)) (fun _ _ => rfl)) (pv 9) (by rfl)) (pw_or1 (pt_cmpR (kNotIn K rfl) (pe_ix (kIxL K rfl) (pv 2) (pe_op op_mod (pe_callTy call_int1 (by rfl) B.zint (by decide +kernel) (pa_cons (pe_op op_add (pe_op op_mul pe_int (pv 7)) pe_int) pa_nil)) (pe_callB (kLen K rfl) (by rfl) B.zlen (by decide +kernel) (pa_cons (pv 2) pa_nil))) (fun _ _ => rfl)) (pv 9) (by rfl))))) 
        (pss_one (ps_ret pe_str)) pss_nil)))) 
    (pss_one (ps_ret pe_non))))))), ?_⟩
    have bad : ∀ H1, Ex H H1 → ¬ FormOk n cs.length rs → Q (.str "form") H1 := fun H1 e1 hno => by
      have := q H1 e1
      rw [fault_form hno] at this
      exact this
    have hsq : ∀ H1, Ex H H1 → SqL K H1 a rs := fun H1 e1 => SqL.of (e1 _ _ ha)
    refine ⟨_, rfl, a, _, rfl, .inl (SqL.of ha), _, _, rfl, rfl, _, rfl, ?_⟩
    refine ite2 (fun h4 => ?_) (fun h4 => ?_)
    · refine iteT (bad H (Ex.refl _) fun z => ?_)
      have h4 := of_decide_eq_true h4
      have := z.len.1
      omega
    have h4 : 4 ≤ rs.length := by
      have : ¬ ((rs.length : Int) < 4) := fun z => h4 (decide_eq_true z)
      omega
    refine ⟨_, rfl, a, _, rfl, .inl (SqL.of ha), .inl ⟨_, rfl, _, _, rfl, rfl, two_pos, rfl, _, rfl, ?_⟩⟩
    refine ite2 (fun hodd => ?_) (fun hodd => ?_)
    · refine bad H (Ex.refl _) fun z => ?_
      have h2 := of_decide_eq_true hodd
      injection h2 with h2
      have := z.len.2
      omega
    have heven : rs.length % 2 = 0 := by
      have : ¬ (V.int ((rs.length : Int) % 2) = V.int 1) := fun z => hodd (decide_eq_true z)
      rcases Nat.mod_two_eq_zero_or_one rs.length with z | z
      · exact z
      · exact absurd (by congr 1; omega) this
    refine ⟨_, rfl, a, rs, rfl, .inl ⟨SqL.of ha, for_it walk_enum (fun i σ H' => ∃ (zs : List Nat) (o3 o4 o5 : Option V), σ = [some (.int (n : Int)), some (.ref p), some (.ref a), o3, o4, o5, none, none, none, none] ∧ Pre n cs.length rs i zs ∧ Ex H H')
      ⟨[], _, _, _, rfl, ⟨rfl, fun j z hj => by simp at hj⟩, Ex.refl _⟩ (fun i σ H' _ ⟨_, _, _, _, _, _, e⟩ => hsq H' e) ?_ ?_⟩⟩
    · rintro i x σ H2 H3' hi ⟨zs, o3, o4, o5, rfl, hpre, e2⟩ ⟨T, y1, y2, rfl, hT, rfl, ex, ey⟩
      cases ex
      have hil := (List.getElem?_eq_some_iff.mp ey).1
      have e3 := e2.trans (Ex.new (o := .tup [.int ((i : Nat) : Int), y2]) hT)
      refine ⟨T, _, rfl, SqT.of upd_same, rfl, _, _, rfl, _, _, rfl, rfl, ?_⟩
      generalize upd H2 T (.tup [.int ((i : Nat) : Int), y2]) = H3 at *
      refine q_asg (v := .int ((if i % 2 = 0 then n else cs.length : Nat) : Int)) ?_ fun H4 e4 => ?_
      · intro H4 e4 Q' k'
        have e04 := e3.trans e4
        refine ⟨_, rfl, .inl ⟨_, rfl, _, _, rfl, rfl, two_pos, rfl, _, rfl, ?_⟩⟩
        have back := k' H4 (Ex.refl _)
        refine ite2 (fun h0 => ?_) (fun h0 => ?_)
        · have h0 := of_decide_eq_true h0
          injection h0 with h0
          rw [if_pos (by omega)] at back
          exact ⟨_, rfl, back⟩
        · have h0 : ¬ (V.int ((i : Int) % 2) = V.int 0) := fun z => h0 (decide_eq_true z)
          rw [if_neg (fun z => h0 (by congr 1; omega))] at back
          refine ⟨_, rfl, p, _, rfl, .inl (SqL.of (e04 _ _ hp)), ?_⟩
          rw [hts.1]
          exact back
      have e04 := e3.trans e4
      refine ⟨_, rfl, y2, rfl, hsc y2 (List.mem_of_getElem? ey), ?_⟩
      by_cases hw : isI y2 = true
      · obtain ⟨z, rfl⟩ := isI_true hw
        rw [hw]
        refine ⟨_, rfl, iteF ?_⟩
        refine ⟨_, rfl, _, _, rfl, rfl, _, rfl, ?_⟩
        refine ite2 (fun h => ?_) (fun h => ?_)
        · have h := of_decide_eq_true h
          refine iteT (bad H4 e04 fun fo => ?_)
          obtain ⟨z', e', _⟩ := fo.rng i _ ey
          injection e' with e'
          omega
        have hz0 : 0 ≤ z := by
          have : ¬ (z < 0) := fun y => h (decide_eq_true y)
          omega
        obtain ⟨z, rfl⟩ := Int.eq_ofNat_of_zero_le hz0
        refine ⟨_, rfl, _, rfl, _, _, rfl, rfl, _, rfl, ?_⟩
        refine ite2 (fun h => ?_) (fun h => ?_)
        · have h := of_decide_eq_true h
          refine bad H4 e04 fun fo => ?_
          obtain ⟨z', e', hz'⟩ := fo.rng i _ ey
          injection e' with e'
          have : z = z' := by omega
          subst this
          have h : (((if i % 2 = 0 then n else cs.length : Nat)) : Int) ≤ (z : Int) := h
          omega
        · have h : ¬ ((((if i % 2 = 0 then n else cs.length : Nat)) : Int) ≤ (z : Int)) := fun y => h (decide_eq_true y)
          exact ⟨zs ++ [z], _, _, _, rfl, hpre.next ey (by omega), e04⟩
      · have hw' : isI y2 = false := by
          cases h : isI y2 with
          | true => exact absurd h hw
          | false => rfl
        rw [hw']
        refine ⟨_, rfl, iteT (bad H4 e04 fun fo => ?_)⟩
        obtain ⟨z, rfl, hz⟩ := fo.rng i y2 ey
        exact hw rfl
    · rintro σ H2 ⟨zs, o3, o4, o5, rfl, hpre, e2⟩
      have hzl := hpre.len (Nat.le_refl _)
      have hrs : rs = iv zs := by
        have := hpre.eq
        rw [List.take_length] at this
        exact this
      refine ⟨_, rfl, a, _, rfl, .inl (hsq H2 e2), _, _, rfl, rfl, ⟨by decide, by decide⟩, ?_⟩
      have hh : (rs.length : Int) / 2 = ((rs.length / 2 : Nat) : Int) := by omega
      show gName 6 (.int ((rs.length : Int) / 2)) _ _ _
      rw [hh]
      have ix : ∀ {i : Int} {m : Nat} {y : V} {H' : Hp} {Q' : VK}, Ex H H' → i = (m : Int) → rs[m]? = some y → Q' y H' → rIxL K (.ref a) (.int i) H' Q' := fun {i m y H' Q'} e hi hm k' => by
        subst hi
        exact ⟨a, rs, _, _, rfl, rfl, hsq H' e, atI_nat hm, k'⟩
      refine ⟨_, rfl, _, rfl, by omega, by omega, for_range (lo := 0) (fun k σ H' => ∃ o7 o8 : Option V, σ = [some (.int (n : Int)), some (.ref p), some (.ref a), o3, o4, o5, some (.int ((rs.length / 2 : Nat) : Int)), o7, o8, none] ∧
        (∀ k' j x : Nat, j < k' → k' < k → (zs[2 * j]? = some x → zs[2 * k']? ≠ some x) ∧ (zs[2 * j + 1]? = some x → zs[2 * k' + 1]? ≠ some x)) ∧ Ex H H')
        ⟨_, _, rfl, fun k' j x _ hk => absurd hk (Nat.not_lt_zero _), e2⟩ ?_ ?_⟩
      · rintro k σ H3 hk ⟨o7, o8, rfl, hdd, e3⟩
        refine ⟨_, rfl, _, rfl, by omega, by omega, for_range (lo := 0) (fun j σ H' => ∃ o8 : Option V, σ = [some (.int (n : Int)), some (.ref p), some (.ref a), o3, o4, o5, some (.int ((rs.length / 2 : Nat) : Int)), some (.int (0 + (k : Int))), o8, none] ∧
          (∀ j' x : Nat, j' < j → (zs[2 * j']? = some x → zs[2 * k]? ≠ some x) ∧ (zs[2 * j' + 1]? = some x → zs[2 * k + 1]? ≠ some x)) ∧ H' = H3)
          ⟨_, rfl, fun j' x hj => absurd hj (Nat.not_lt_zero _), rfl⟩ ?_ ?_⟩
        · rintro j σ H4 hj ⟨o8, rfl, hd, rfl⟩
          have hkl : 2 * k + 1 < zs.length := by omega
          have hjk : j < k := by omega
          have a1 := lb_get (L := zs) (b := 2 * j) (by omega)
          have a2 := lb_get (L := zs) (b := 2 * k) (by omega)
          have b1 := lb_get (L := zs) (b := 2 * j + 1) (by omega)
          have b2 := lb_get (L := zs) (b := 2 * k + 1) (by omega)
          generalize lb zs (2 * j) = x1 at a1
          generalize lb zs (2 * k) = x2 at a2
          generalize lb zs (2 * j + 1) = y1 at b1
          generalize lb zs (2 * k + 1) = y2 at b2
          have ra1 : rs[2 * j]? = some (.int (x1 : Int)) := by rw [hrs]; exact iv_get a1
          have ra2 : rs[2 * k]? = some (.int (x2 : Int)) := by rw [hrs]; exact iv_get a2
          have rb1 : rs[2 * j + 1]? = some (.int (y1 : Int)) := by rw [hrs]; exact iv_get b1
          have rb2 : rs[2 * k + 1]? = some (.int (y2 : Int)) := by rw [hrs]; exact iv_get b2
          refine ⟨_, rfl, _, rfl, _, _, rfl, rfl, .inl (by omega), ix (m := 2 * j) e3 (by omega) ra1 ⟨_, rfl, _, rfl, _, _, rfl, rfl, .inl (by omega), ix (m := 2 * k) e3 (by omega) ra2 ⟨rfl, _, rfl, ?_⟩⟩⟩
          refine ite2 (fun h => ?_) (fun h => ?_)
          · have h := of_decide_eq_true h
            refine iteT (bad H4 e3 fun fo => fo.dst (2 * k) (2 * j) (by omega) (by omega) (by omega) ?_)
            rw [ra1, ra2, h]
          have hx : ¬ (x1 = x2) := fun z => h (decide_eq_true (by rw [z]))
          refine ⟨_, rfl, _, rfl, _, _, rfl, rfl, .inl (by omega), _, _, rfl, rfl, ix (m := 2 * j + 1) e3 (by omega) rb1 ⟨_, rfl, _, rfl, _, _, rfl, rfl, .inl (by omega), _, _, rfl, rfl, ix (m := 2 * k + 1) e3 (by omega) rb2 ⟨rfl, _, rfl, ?_⟩⟩⟩
          refine ite2 (fun h => ?_) (fun h => ?_)
          · have h := of_decide_eq_true h
            refine bad H4 e3 fun fo => fo.dst (2 * k + 1) (2 * j + 1) (by omega) (by omega) (by omega) ?_
            rw [rb1, rb2, h]
          have hy : ¬ (y1 = y2) := fun z => h (decide_eq_true (by rw [z]))
          refine ⟨_, rfl, fun j' x hj' => ?_, rfl⟩
          rcases Nat.lt_or_ge j' j with z | z
          · exact hd j' x z
          · have : j' = j := by omega
            subst this
            rw [a1, a2, b1, b2]
            exact ⟨fun h1 h2 => hx (by cases h1; cases h2; rfl), fun h1 h2 => hy (by cases h1; cases h2; rfl)⟩
        · rintro σ H4 ⟨o8, rfl, hd, rfl⟩
          refine ⟨_, _, rfl, fun k' j x hjk hk' => ?_, e3⟩
          rcases Nat.lt_or_ge k' k with z | z
          · exact hdd k' j x hjk z
          · have : k' = k := by omega
            subst this
            exact hd j x (by omega)
      · rintro σ H3 ⟨o7, o8, rfl, hdd, e3⟩
        have hdst : Dst zs := dst_of (fun k j x hj hk => hdd k j x hj (by omega)) (by omega)
        have hform := form_of hpre hdst h4 heven
        have good : WireOk cs rs → ∀ H4, Ex H H4 → Q .non H4 := fun hw H4 e4 => by
          have := q H4 e4
          rw [fault_non hform hw] at this
          exact this
        have wire : ¬ WireOk cs rs → ∀ H4, Ex H H4 → Q (.str "wire") H4 := fun hw H4 e4 => by
          have := q H4 e4
          rw [fault_wire hform hw] at this
          exact this
        refine ⟨_, rfl, _, rfl, by omega, by omega, for_range (lo := 0) (fun j σ H' => ∃ (o7 o9 : Option V), σ = [some (.int (n : Int)), some (.ref p), some (.ref a), o3, o4, o5, some (.int ((rs.length / 2 : Nat) : Int)), o7, o8, o9] ∧
          (∀ (m b c b' : Nat) (l : List Nat), m < j → zs[2 * m]? = some b → zs[2 * m + 1]? = some c → cs[c]? = some l → zs[(2 * m + 2) % zs.length]? = some b' → b ∈ l ∧ b' ∈ l) ∧ Ex H H')
          ⟨_, _, rfl, fun m b c b' l hm => absurd hm (Nat.not_lt_zero m), e3⟩ ?_ ?_⟩
        · rintro j σ H4 hj ⟨o7, o9, rfl, hok, e4⟩
          have hjl : 2 * j + 1 < zs.length := by omega
          have hb := lb_get (L := zs) (b := 2 * j) (by omega)
          have hc := lb_get hjl
          have hclt := hpre.rng _ _ hc
          rw [if_neg (by omega)] at hclt
          have hmod : (2 * j + 2) % zs.length < zs.length := Nat.mod_lt _ (by omega)
          have hb' := lb_get hmod
          generalize lb zs (2 * j) = b at hb
          generalize lb zs (2 * j + 1) = c at hc hclt
          generalize lb zs ((2 * j + 2) % zs.length) = b' at hb'
          have hl : cs[c]? = some cs[c] := List.getElem?_eq_getElem hclt
          generalize cs[c] = l at hl
          obtain ⟨cx, hcx, hit⟩ := hts.at hl
          obtain ⟨ct, rfl, hct0⟩ := hit
          have rb : rs[2 * j]? = some (.int (b : Int)) := by rw [hrs]; exact iv_get hb
          have rc : rs[2 * j + 1]? = some (.int (c : Int)) := by rw [hrs]; exact iv_get hc
          have rb' : rs[(2 * j + 2) % zs.length]? = some (.int (b' : Int)) := by rw [hrs]; exact iv_get hb'
          refine ⟨_, rfl, _, rfl, _, rfl, _, _, rfl, rfl, .inl (by omega), _, _, rfl, rfl, ix (m := 2 * j + 1) e4 (by omega) rc ?_⟩
          refine ⟨p, _, _, _, rfl, rfl, SqL.of (e4 _ _ hp), atI_nat hcx, ?_⟩
          refine ⟨_, rfl, _, rfl, _, _, rfl, rfl, .inl (by omega), ix (m := 2 * j) e4 (by omega) rb ?_⟩
          refine ⟨_, rfl, ct, _, rfl, .inr (SqT.of (e4 _ _ hct0)), rfl, iv_flat _, _, rfl, ?_⟩
          rw [if_pos rfl, inV_iv]
          by_cases hm1 : b ∈ l
          · rw [decide_eq_true hm1]
            refine iteF ?_
            refine ⟨_, rfl, _, rfl, _, _, rfl, rfl, .inl (by omega), _, _, rfl, rfl, .inl ⟨_, rfl, _, rfl, a, _, rfl, .inl (hsq H4 e4), _, _, rfl, rfl, by omega, ix (m := (2 * j + 2) % zs.length) e4 (by
              rw [hzl, show ((2 : Int) * (0 + (j : Int)) + 2) = ((2 * j + 2 : Nat) : Int) by omega, ← Int.natCast_emod]) rb' ?_⟩⟩
            refine ⟨_, rfl, ct, _, rfl, .inr (SqT.of (e4 _ _ hct0)), rfl, iv_flat _, _, rfl, ?_⟩
            rw [if_pos rfl, inV_iv]
            by_cases hm2 : b' ∈ l
            · rw [decide_eq_true hm2]
              refine iteF ?_
              refine ⟨_, _, rfl, fun m b2 c2 b2' l2 hm g1 g2 g3 g4 => ?_, e4⟩
              rcases Nat.lt_or_ge m j with z | z
              · exact hok m b2 c2 b2' l2 z g1 g2 g3 g4
              · have : m = j := by omega
                subst this
                rw [hb] at g1
                rw [hc] at g2
                rw [hb'] at g4
                cases g1
                cases g2
                cases g4
                rw [hl] at g3
                cases g3
                exact ⟨hm1, hm2⟩
            · rw [decide_eq_false hm2]
              refine iteT ?_
              exact wire (fun hw => hm2 (hw j b c b' l rb rc hl (by rw [← hzl]; exact rb')).2) _ e4
          · rw [decide_eq_false hm1]
            refine iteT ?_
            exact wire (fun hw => hm1 (hw j b c b' l rb rc hl (by rw [← hzl]; exact rb')).1) _ e4
        · rintro σ H4 ⟨o7, o9, rfl, hok, e4⟩
          refine good (fun j b c b' l g1 g2 g3 g4 => ?_) H4 e4
          rw [hrs] at g1 g2 g4
          rw [iv_len] at g4
          have hjl := (List.getElem?_eq_some_iff.mp (iv_back g2)).1
          exact hok j b c b' l (by omega) (iv_back g1) (iv_back g2) g3 (iv_back g4)
def spJudged (C : Addr) : Sp := fun vs H Q _ => ∃ (v : V) (n : Nat) (ck : V) (cs : List (List Nat)) (a : Addr) (rs : List V), vs = [v, .int (n : Int), ck, .ref a] ∧ CodeAt C H v n cs ∧ CkL H ck cs ∧ Good n cs ∧ n ≤ 10 ∧ cs.length ≤ 60 ∧
  H a = some (.lst rs) ∧ (∀ y, y ∈ rs → Sc y) ∧ rs.length ≤ 100 ∧ ∀ H', Ex H H' → Q (.bl true) H'
theorem fault_cases (n : Nat) (cs : List (List Nat)) (rs : List V) : fault n cs rs = .non ∨ fault n cs rs = .str "form" ∨ fault n cs rs = .str "wire" := by
  by_cases h : FormOk n cs.length rs
  · by_cases h2 : WireOk cs rs
    · exact .inl (fault_non h h2)
    · exact .inr (.inr (fault_wire h h2))
  · exact .inr (.inl (fault_form h))
theorem ok_law_judged {f : Addr} {fd : FuncData} (F : Fun K "_law_judged" "_law_judged" s__law_judged f fd) (B : Bt K mg C fI) (c_ring_fault : Cal P w K mg base "ring_fault" 2 ["code", "ring"] (spRing C))
    (c__law_fault : Cal P w K mg base "_law_fault" 2 ["_law_bits", "_law_checks", "_law_ring"] spFault) : FnOk P w K mg base CX0 3 f fd ["_law_code_here", "_law_bits", "_law_checks", "_law_ring"] (spJudged C) := by
  refine F.ok sc__law_judged (fun vs H Q E h => ?_) (fun cdv A outer s H vs Q E hr h => ?_)
  · obtain ⟨v, n, ck, cs, a, rs, rfl, _⟩ := h
    rfl
  · obtain ⟨v, n, ck, cs, a, rs, rfl, hcode, hck, hg, hn, hcl, ha, hsc, hlen, q⟩ := h
    refine ⟨_, 
    (pss_cons (ps_set (i := 4) sc__law_judged.nd rfl (by first | exact Or.inl rfl | exact Or.inr rfl) (pe_cal c_ring_fault (hr.mono (by decide)) (by rfl) (pa_cons (pv 0) (pa_cons (pv 3) pa_nil)))) 
    (pss_cons (ps_set (i := 5) sc__law_judged.nd rfl (by first | exact Or.inl rfl | exact Or.inr rfl) (pe_cal c__law_fault (hr.mono (by decide)) (by rfl) (pa_cons (pv 1) (pa_cons (pv 2) (pa_cons (pe_callTy (kLst K rfl) (by rfl) B.zlist (by decide +kernel) (pa_cons (pv 3) pa_nil)) pa_nil))))) 
    (pss_cons (ps_if (pt_cmpR op_isN (pv 5) pe_non (nomark _)) 
      (pss_one (ps_ret (pe_cmpR op_isN (pv 4) pe_non (nomark _)))) pss_nil) 
    (pss_one (ps_ret (pe_and (pe_callB (kIsi K rfl) (by rfl) B.zisinstance (by decide +kernel) (pa_cons (pv 4) (pa_cons (pe_bltn (v := .ty "str") (by rfl) B.zstr (by decide +kernel) rfl) pa_nil))) (pe_one (pe_cmpR op_eq (pv 4) (pv 5) (nomark _))))))))), ?_⟩
    refine ⟨_, rfl, _, rfl, v, .ref a, n, cs, rfl, hcode, hg, hn, hcl, .inr ⟨a, rs, rfl, .inl ha, hsc, hlen, fun H1 e1 => ?_⟩⟩
    refine ⟨_, rfl, _, rfl, _, rfl, a, rs, rfl, .inl (SqL.of (e1 _ _ ha)), fun l hl => ?_⟩
    have e2 := e1.trans (Ex.new (o := .lst rs) hl)
    refine ⟨n, ck, cs, l, rs, rfl, hck.ex e2, hn, hcl, upd_same, hsc, hlen, fun H3 e3 => ?_⟩
    have e03 := e2.trans e3
    rcases fault_cases n cs rs with h | h | h
    · rw [h]
      refine ⟨_, rfl, rfl, _, rfl, iteT ?_⟩
      exact ⟨_, rfl, rfl, q _ e03⟩
    · rw [h]
      refine ⟨_, rfl, rfl, _, rfl, iteF ?_⟩
      exact ⟨_, rfl, _, _, _, _, true, rfl, .ty "str", .base (.str _), kit_ty (by decide +kernel), true, rfl, iteT ⟨_, rfl, _, rfl, rfl, q _ e03⟩⟩
    · rw [h]
      refine ⟨_, rfl, rfl, _, rfl, iteF ?_⟩
      exact ⟨_, rfl, _, _, _, _, true, rfl, .ty "str", .base (.str _), kit_ty (by decide +kernel), true, rfl, iteT ⟨_, rfl, _, rfl, rfl, q _ e03⟩⟩
end
end Kd

namespace Kd
open PySem PySem.Spec PyProof.Rows L2 Evl Km Kr Kb Kc
section
variable {P : Program} {w : World} {K : PySem.W.Frag} {mg : Str → Option Value} {base : Heap} {C fI : Addr}
/-- plain things in a tuple, in a list -/
def TupS (H : Hp) (v : V) (m : Nat) : Prop := ∃ (a : Addr) (xs : List V), v = .ref a ∧ H a = some (.tup xs) ∧ (∀ x, x ∈ xs → Sc x) ∧ xs.length ≤ m
def LstS (H : Hp) (v : V) (m : Nat) : Prop := ∃ (a : Addr) (xs : List V), v = .ref a ∧ H a = some (.lst xs) ∧ (∀ x, x ∈ xs → Sc x) ∧ xs.length ≤ m
theorem TupS.ex {H H' : Hp} {v : V} {m : Nat} (h : TupS H v m) (e : Ex H H') : TupS H' v m := let ⟨a, xs, p, q, r, s⟩ := h; ⟨a, xs, p, e _ _ q, r, s⟩
theorem LstS.ex {H H' : Hp} {v : V} {m : Nat} (h : LstS H v m) (e : Ex H H') : LstS H' v m := let ⟨a, xs, p, q, r, s⟩ := h; ⟨a, xs, p, e _ _ q, r, s⟩
theorem LstS.mono {H : Hp} {v : V} {m k : Nat} (h : LstS H v m) (e : m ≤ k) : LstS H v k := let ⟨a, xs, p, q, r, s⟩ := h; ⟨a, xs, p, q, r, Nat.le_trans s e⟩
theorem slS {H : Hp} {v : V} {m : Nat} {lo hi : Option Int} {Q : VK} (h : TupS H v m) (k : ∀ u H', Ex H H' → TupS H' u m → Q u H') : rSlA K v lo hi H Q := by
  obtain ⟨a, xs, rfl, ha, hs, hl⟩ := h
  refine ⟨a, xs, rfl, SqT.of ha, fun _ => k _ H (Ex.refl _) ⟨a, xs, rfl, ha, hs, hl⟩, fun _ p hp => k _ _ (Ex.new hp) ⟨p, _, rfl, upd_same, fun x hx => hs x ?_, Nat.le_trans (cutV_length xs lo hi) hl⟩⟩
  unfold cutV at hx
  exact List.mem_of_mem_drop (List.mem_of_mem_take hx)
theorem slS1 {σ : L2.St} {H : Hp} {v : V} {m : Nat} {lo : Option Int} {Q : VK} (h : TupS H v m) (k : ∀ u H', Ex H H' → TupS H' u m → Q u H') : tNoPart σ H fun u H' => rSlA K v lo u H' Q := slS h k
theorem catS {H : Hp} {u v : V} {m k : Nat} {Q : VK} (h : TupS H u m) (h2 : TupS H v k) (hb : m + k ≤ 1000) (q : ∀ z H', Ex H H' → TupS H' z (m + k) → Q z H') : rCatA K u v H Q := by
  obtain ⟨a, xs, rfl, ha, hs, hl⟩ := h
  obtain ⟨b, ys, rfl, hb', hs', hl'⟩ := h2
  refine ⟨a, b, xs, ys, rfl, rfl, SqT.of ha, SqT.of hb', Nat.le_trans (by omega) (Nat.le_of_lt (small1000 (n := m + k) (by omega))), fun _ => q _ H (Ex.refl _) ⟨b, ys, rfl, hb', hs', by omega⟩, fun _ _ => q _ H (Ex.refl _) ⟨a, xs, rfl, ha, hs, by omega⟩,
    fun _ _ p hp => q _ _ (Ex.new hp) ⟨p, _, rfl, upd_same, fun x hx => ?_, by rw [List.length_append]; omega⟩⟩
  rcases List.mem_append.mp hx with hx | hx
  · exact hs x hx
  · exact hs' x hx
/-- a list of lists of plain things -/
def OutOk (H : Hp) (o : Addr) (m : Nat) (ys : List V) : Prop := H o = some (.lst ys) ∧ ∀ y, y ∈ ys → LstS H y m
theorem OutOk.ex {H H' : Hp} {o : Addr} {m : Nat} {ys : List V} (h : OutOk H o m ys) (e : Ex H H') : OutOk H' o m ys := ⟨e _ _ h.1, fun y hy => (h.2 y hy).ex e⟩
theorem LstS.off {H : Hp} {o p : Addr} {m : Nat} {ys : List V} {y : V} {ob : HO} (h : LstS H y m) (ho : H o = some (.lst ys)) (hy : V.ref p ∈ ys) : LstS (upd H o ob) y m := by
  obtain ⟨c, rs, rfl, hc, hs, hl⟩ := h
  refine ⟨c, rs, rfl, ?_, hs, hl⟩
  rw [upd_ne]
  · exact hc
  · intro e
    subst e
    rw [ho] at hc
    cases hc
    exact nomatch hs _ hy
theorem OutOk.snoc {H : Hp} {o : Addr} {m : Nat} {y z : V} {ys : List V} (h : OutOk H o m (z :: ys)) (hy : LstS H y m) : OutOk (upd H o (.lst ((z :: ys) ++ [y]))) o m ((z :: ys) ++ [y]) := by
  obtain ⟨p, _, rfl, _⟩ := h.2 z (List.mem_cons_self ..)
  refine ⟨upd_same, fun u hu => ?_⟩
  rcases List.mem_append.mp hu with hu | hu
  · exact (h.2 u hu).off h.1 (List.mem_cons_self ..)
  · rw [List.mem_singleton.mp hu]
    exact hy.off h.1 (List.mem_cons_self ..)
def spSpoilt : Sp := fun vs H Q _ => ∃ (ha : Addr) (n : Int) (ck v : V) (cs : List (List Nat)) (R : List Nat), vs = [.ref ha, .int n, ck, v] ∧ HandAt H ha ∧ CkL H ck cs ∧ IT H v R ∧ 4 ≤ R.length ∧ R.length ≤ 30 ∧
  ∀ (o : Addr) (ys : List V) (H' : Hp), Ex H H' → OutOk H' o 100 ys → ys.length = 7 → Q (.ref o) H'
theorem ok_law_spoilt_rings {f : Addr} {fd : FuncData} (F : Fun K "_law_spoilt_rings" "_law_spoilt_rings" s__law_spoilt_rings f fd) (B : Bt K mg C fI) (c__law_draw : Cal P w K mg base "_law_draw" 2 ["_law_hand_here", "_law_many"] spDraw) :
    FnOk P w K mg base CX0 3 f fd ["_law_hand_here", "_law_bits", "_law_checks", "_law_ring"] spSpoilt := by
  refine F.ok sc__law_spoilt_rings (fun vs H Q E h => ?_) (fun cdv A outer s H vs Q E hr h => ?_)
  · obtain ⟨ha, n, ck, v, cs, R, rfl, _⟩ := h
    rfl
  · obtain ⟨ha, n, ck, v, cs, R, rfl, hh, hck, ⟨a, rfl, hra⟩, h4, h30, q⟩ := h
    refine ⟨_, 
    (pss_cons (ps_set (i := 4) sc__law_spoilt_rings.nd rfl (by first | exact Or.inl rfl | exact Or.inr rfl) (pe_lst (pa_cons (pe_callTy (kLst K rfl) (by rfl) B.zlist (by decide +kernel) (pa_cons (pe_op op_catA (pe_slice sl_tupA (pv 3) (po_some pe_int) po_none) (pe_slice sl_tupA (pv 3) po_none (po_some pe_int))) pa_nil)) (pa_cons (pe_callTy (kLst K rfl) (by rfl) B.zlist (by decide +kernel) (pa_cons (pe_slice sl_tupA (pv 3) po_none (po_some (pe_un un_neg pe_int))) pa_nil)) (pa_cons (pe_callTy (kLst K rfl) (by rfl) B.zlist (by decide +kernel) (pa_cons (pe_slice sl_tupA (pv 3) po_none (po_some (pe_un un_neg pe_int))) pa_nil)) (pa_cons (pe_lstRev rfl (by rfl) B.zlist (by rfl) B.zreversed (pv 3)) pa_nil)))))) 
    (pss_cons (ps_set (i := 5) sc__law_spoilt_rings.nd rfl (by first | exact Or.inl rfl | exact Or.inr rfl) (pe_callTy (kLst K rfl) (by rfl) B.zlist (by decide +kernel) (pa_cons (pv 3) pa_nil))) 
    (pss_cons (ps_set (i := 6) sc__law_spoilt_rings.nd rfl (by first | exact Or.inl rfl | exact Or.inr rfl) (pe_cal c__law_draw (hr.mono (by decide)) (by rfl) (pa_cons (pv 0) (pa_cons (pe_callB (kLen K rfl) (by rfl) B.zlen (by decide +kernel) (pa_cons (pv 3) pa_nil)) pa_nil)))) 
    (pss_cons (ps_asg (pe_ix (kIxT K rfl) (pe_tup (pa_cons pe_int (pa_cons pe_int (pa_cons (pe_op op_sub (pv 1) pe_int) (pa_cons (pv 1) (pa_cons (pe_un un_neg pe_int) (pa_cons pe_bl (pa_cons pe_non (pa_cons (pe_callB (kLen K rfl) (by rfl) B.zlen (by decide +kernel) (pa_cons (pv 2) pa_nil)) pa_nil))))))))) (pe_cal c__law_draw (hr.mono (by decide)) (by rfl) (pa_cons (pv 0) (pa_cons pe_int pa_nil))) (fun _ _ => rfl)) (pg_sub (pv 5) (pv 6) set_list)) 
    (pss_cons (ps_expr (pe_bm PySem.F.plainAttrs_list PySem.F.slot_list_append PySem.F.type_list_append mt_append (pv 4) (pa_cons (pv 5) pa_nil))) 
    (pss_cons (ps_expr (pe_bm PySem.F.plainAttrs_list PySem.F.slot_list_append PySem.F.type_list_append mt_append (pv 4) (pa_cons (pe_callTy (kLst K rfl) (by rfl) B.zlist (by decide +kernel) (pa_cons (pe_op op_catA (pe_slice sl_tupA (pv 3) (po_some pe_int) po_none) (pe_slice sl_tupA (pv 3) po_none (po_some pe_int))) pa_nil)) pa_nil))) 
    (pss_cons (ps_expr (pe_bm PySem.F.plainAttrs_list PySem.F.slot_list_append PySem.F.type_list_append mt_append (pv 4) (pa_cons (pe_op op_cat (pe_lst (pa_cons (pe_ix (kIxT K rfl) (pv 3) pe_int (fun _ _ => rfl)) pa_nil)) (pe_lstRev rfl (by rfl) B.zlist (by rfl) B.zreversed (pe_slice sl_tupA (pv 3) (po_some pe_int) po_none))) pa_nil))) 
    (pss_one (ps_ret (pv 4)))))))))), ?_⟩
    have hT : TupS H (.ref a) 30 := ⟨a, _, rfl, hra, fun x hx => by
      obtain ⟨z, _, rfl⟩ := List.mem_map.mp hx
      exact .int _, by rw [iv_len]; exact h30⟩
    -- the four
    refine ⟨_, rfl, _, rfl, slS1 hT fun u1 H1 e1 t1 => ⟨_, rfl, _, rfl, slS (hT.ex e1) fun u2 H2 e2 t2 => catS (t1.ex e2) t2 (by decide) fun u3 H3 e3 t3 => ?_⟩⟩
    have e03 := (e1.trans e2).trans e3
    obtain ⟨c1, xs1, rfl, hc1, s1, l1⟩ := t3
    refine ⟨c1, xs1, rfl, .inr (SqT.of hc1), fun p1 hp1 => ?_⟩
    have e4 := e03.trans (Ex.new (o := .lst xs1) hp1)
    have L1 : LstS (upd H3 p1 (.lst xs1)) (.ref p1) 100 := ⟨p1, xs1, rfl, upd_same, s1, by omega⟩
    generalize upd H3 p1 (.lst xs1) = H4 at *
    refine ⟨_, rfl, _, rfl, _, rfl, slS (hT.ex e4) fun u5 H5 e5 t5 => ?_⟩
    obtain ⟨c2, xs2, rfl, hc2, s2, l2⟩ := t5
    refine ⟨c2, xs2, rfl, .inr (SqT.of hc2), fun p2 hp2 => ?_⟩
    have e6 := (e4.trans e5).trans (Ex.new (o := .lst xs2) hp2)
    have L2 : LstS (upd H5 p2 (.lst xs2)) (.ref p2) 100 := ⟨p2, xs2, rfl, upd_same, s2, by omega⟩
    have L1 := L1.ex (e5.trans (Ex.new (o := .lst xs2) hp2))
    generalize upd H5 p2 (.lst xs2) = H6 at *
    refine ⟨_, rfl, _, rfl, _, rfl, slS (hT.ex e6) fun u7 H7 e7 t7 => ?_⟩
    obtain ⟨c3, xs3, rfl, hc3, s3, l3⟩ := t7
    refine ⟨c3, xs3, rfl, .inr (SqT.of hc3), fun p3 hp3 => ?_⟩
    have e8 := (e6.trans e7).trans (Ex.new (o := .lst xs3) hp3)
    have L3 : LstS (upd H7 p3 (.lst xs3)) (.ref p3) 100 := ⟨p3, xs3, rfl, upd_same, s3, by omega⟩
    have L1 := L1.ex (e7.trans (Ex.new (o := .lst xs3) hp3))
    have L2 := L2.ex (e7.trans (Ex.new (o := .lst xs3) hp3))
    generalize upd H7 p3 (.lst xs3) = H8 at *
    refine ⟨_, rfl, a, _, rfl, SqT.of (e8 _ _ hra), fun p4 hp4 => ?_⟩
    have hsR : ∀ x, x ∈ (iv R).reverse → Sc x := fun x hx => by
      obtain ⟨z, _, rfl⟩ := List.mem_map.mp (List.mem_reverse.mp hx)
      exact .int _
    have e9 := e8.trans (Ex.new (o := .lst (iv R).reverse) hp4)
    have L4 : LstS (upd H8 p4 (.lst (iv R).reverse)) (.ref p4) 100 := ⟨p4, _, rfl, upd_same, hsR, by rw [List.length_reverse, iv_len]; omega⟩
    have L1 := L1.ex (Ex.new (o := .lst (iv R).reverse) hp4)
    have L2 := L2.ex (Ex.new (o := .lst (iv R).reverse) hp4)
    have L3 := L3.ex (Ex.new (o := .lst (iv R).reverse) hp4)
    generalize upd H8 p4 (.lst (iv R).reverse) = H9 at *
    refine ⟨by show 4 ≤ sizeLine; decide, fun o ho => ?_⟩
    have no : H o = none := by
      cases h : H o with
      | none => rfl
      | some u => rw [e9 _ _ h] at ho; cases ho
    have en := Ex.new (o := .lst [V.ref p1, .ref p2, .ref p3, .ref p4]) ho
    have e10 := e9.trans en
    have O : OutOk (upd H9 o (.lst [V.ref p1, .ref p2, .ref p3, .ref p4])) o 100 [V.ref p1, .ref p2, .ref p3, .ref p4] := ⟨upd_same, fun y hy => by
      rcases List.mem_cons.mp hy with rfl | hy
      · exact L1.ex en
      rcases List.mem_cons.mp hy with rfl | hy
      · exact L2.ex en
      rcases List.mem_cons.mp hy with rfl | hy
      · exact L3.ex en
      rw [List.mem_singleton.mp hy]
      exact L4.ex en⟩
    generalize upd H9 o (.lst [V.ref p1, .ref p2, .ref p3, .ref p4]) = H10 at *
    -- changed
    refine ⟨_, rfl, a, _, rfl, .inr (SqT.of (e10 _ _ hra)), fun c hc => ?_⟩
    have nc : H c = none := by
      cases h : H c with
      | none => rfl
      | some u => rw [e10 _ _ h] at hc; cases hc
    have e1011 := Ex.new (o := .lst (iv R)) hc
    have ec : (upd H10 c (.lst (iv R))) c = some (.lst (iv R)) := upd_same
    generalize upd H10 c (.lst (iv R)) = H11 at *
    have e11 := e10.trans e1011
    refine ⟨_, rfl, _, rfl, a, _, rfl, .inr (SqT.of (e11 _ _ hra)), ha, _, rfl, ?_, ?_, hh.ex e11, fun at_ H12 at0 at1 e12 => ?_⟩
    · rw [iv_len]; omega
    · rw [iv_len]; omega
    rw [iv_len] at at1
    obtain ⟨j, rfl⟩ := Int.eq_ofNat_of_zero_le at0
    have e12' := e11.trans e12
    -- what is put there
    obtain ⟨cp, cxs, rfl, hcp, hcts⟩ := id hck
    refine ⟨_, rfl, _, _, rfl, rfl, _, rfl, _, rfl, _, rfl, cp, _, rfl, .inl (SqL.of (e12' _ _ hcp)), by show 8 ≤ sizeLine; decide, fun tp htp => ?_⟩
    refine ⟨_, rfl, ha, _, rfl, by decide, by decide, hh.ex (e12'.trans (Ex.new htp)), fun pk H14 pk0 pk1 e14 => ?_⟩
    obtain ⟨k, rfl⟩ := Int.eq_ofNat_of_zero_le pk0
    have hk : k < [V.int 0, .int 1, .int (n - 1), .int n, .int (-1), .bl true, .non, .int (cxs.length : Int)].length := by show k < 8; omega
    have hy := List.getElem?_eq_getElem hk
    have hysc : ∀ y, y ∈ [V.int 0, .int 1, .int (n - 1), .int n, .int (-1), .bl true, .non, .int (cxs.length : Int)] → Sc y := fun y hy => by
      simp only [List.mem_cons, List.not_mem_nil, or_false] at hy
      rcases hy with rfl | rfl | rfl | rfl | rfl | rfl | rfl | rfl <;> first | exact .int _ | exact .bl _ | exact .non
    have hysc := hysc _ (List.mem_of_getElem? hy)
    generalize ([V.int 0, .int 1, .int (n - 1), .int n, .int (-1), .bl true, .non, .int (cxs.length : Int)])[k] = y at hy hysc
    refine ⟨tp, _, _, y, rfl, rfl, SqT.of (e14 _ _ upd_same), atI_nat hy, ?_⟩
    have e1114 := (e12.trans (Ex.new htp)).trans e14
    refine ⟨_, rfl, _, rfl, c, iv R, _, j, rfl, rfl, e1114 _ _ ec, ixN_nat (by rw [iv_len]; omega), ?_⟩
    have e15 := (e11.trans e1114).mut (o := .lst ((iv R).set j y)) nc
    have O := O.ex ((e1011.trans e1114).mut (o := .lst ((iv R).set j y)) hc)
    have L5 : LstS (upd H14 c (.lst ((iv R).set j y))) (.ref c) 100 := ⟨c, _, rfl, upd_same, fun x hx => by
      rcases List.mem_or_eq_of_mem_set hx with hx | rfl
      · obtain ⟨z, _, rfl⟩ := List.mem_map.mp hx
        exact .int _
      · exact hysc, by rw [List.length_set, iv_len]; omega⟩
    generalize upd H14 c (.lst ((iv R).set j y)) = H15 at *
    refine ⟨_, rfl, .inl ⟨rfl, _, SqL.of O.1⟩, _, rfl, o, _, _, rfl, rfl, O.1, small1000 (by simp), ?_⟩
    have e16 := e15.mut (o := .lst ([V.ref p1, .ref p2, .ref p3, .ref p4] ++ [.ref c])) no
    have O := O.snoc L5
    generalize upd H15 o (.lst ([V.ref p1, .ref p2, .ref p3, .ref p4] ++ [.ref c])) = H16 at *
    -- turned by one
    refine ⟨_, rfl, .inl ⟨rfl, _, SqL.of O.1⟩, _, rfl, _, rfl, slS1 (hT.ex e16) fun u1 H17 e17 t1 => ⟨_, rfl, _, rfl, slS ((hT.ex e16).ex e17) fun u2 H18 e18 t2 => catS (t1.ex e18) t2 (by decide) fun u3 H19 e19 t3 => ?_⟩⟩
    have e1619 := (e17.trans e18).trans e19
    obtain ⟨c6, xs6, rfl, hc6, s6, l6⟩ := t3
    refine ⟨c6, xs6, rfl, .inr (SqT.of hc6), fun p6 hp6 => ?_⟩
    have e1620 := e1619.trans (Ex.new (o := .lst xs6) hp6)
    have L6 : LstS (upd H19 p6 (.lst xs6)) (.ref p6) 100 := ⟨p6, xs6, rfl, upd_same, s6, by omega⟩
    have e20 := e16.trans e1620
    have O := O.ex e1620
    generalize upd H19 p6 (.lst xs6) = H20 at *
    refine ⟨o, _, _, rfl, rfl, O.1, small1000 (by simp), ?_⟩
    have e21 := e20.mut (o := .lst (([V.ref p1, .ref p2, .ref p3, .ref p4] ++ [.ref c]) ++ [.ref p6])) no
    have O := OutOk.snoc (z := V.ref p1) (ys := [.ref p2, .ref p3, .ref p4, .ref c]) O L6
    have O : OutOk (upd H20 o (.lst (([V.ref p1, .ref p2, .ref p3, .ref p4] ++ [.ref c]) ++ [.ref p6]))) o 100 (([V.ref p1, .ref p2, .ref p3, .ref p4] ++ [.ref c]) ++ [.ref p6]) := O
    generalize upd H20 o (.lst (([V.ref p1, .ref p2, .ref p3, .ref p4] ++ [.ref c]) ++ [.ref p6])) = H21 at *
    -- the first, and the rest backwards
    have r0 : (iv R)[0]? = some (.int ((lb R 0 : Nat) : Int)) := iv_get (lb_get (by omega))
    refine ⟨_, rfl, .inl ⟨rfl, _, SqL.of O.1⟩, _, rfl, a, _, _, _, rfl, rfl, SqT.of (e21 _ _ hra), atI_nat r0, by show 1 ≤ sizeLine; decide, fun p7 hp7 => ?_⟩
    have e2122 := Ex.new (o := .lst [V.int ((lb R 0 : Nat) : Int)]) hp7
    have ep7 : (upd H21 p7 (.lst [V.int ((lb R 0 : Nat) : Int)])) p7 = some (.lst [V.int ((lb R 0 : Nat) : Int)]) := upd_same
    generalize upd H21 p7 (.lst [V.int ((lb R 0 : Nat) : Int)]) = H22 at *
    refine ⟨_, rfl, _, rfl, slS1 (hT.ex (e21.trans e2122)) fun u8 H23 e23 t8 => ?_⟩
    obtain ⟨c8, xs8, rfl, hc8, s8, l8⟩ := t8
    refine ⟨c8, xs8, rfl, SqT.of hc8, fun p8 hp8 => ?_⟩
    have e2224 := e23.trans (Ex.new (o := .lst xs8.reverse) hp8)
    have ep8 : (upd H23 p8 (.lst xs8.reverse)) p8 = some (.lst xs8.reverse) := upd_same
    generalize upd H23 p8 (.lst xs8.reverse) = H24 at *
    have hl8 : xs8.reverse.length ≤ 30 := by rw [List.length_reverse]; exact l8
    refine ⟨p7, p8, _, _, rfl, rfl, e2224 _ _ ep7, ep8, Nat.le_of_lt (small1000 (by show 1 + xs8.reverse.length ≤ 1000; omega)), fun p9 hp9 => ?_⟩
    have e2125 := (e2122.trans e2224).trans (Ex.new (o := .lst ([V.int ((lb R 0 : Nat) : Int)] ++ xs8.reverse)) hp9)
    have L7 : LstS (upd H24 p9 (.lst ([V.int ((lb R 0 : Nat) : Int)] ++ xs8.reverse))) (.ref p9) 100 := ⟨p9, _, rfl, upd_same, fun x hx => by
      rcases List.mem_append.mp hx with hx | hx
      · rw [List.mem_singleton.mp hx]
        exact .int _
      · exact s8 x (List.mem_reverse.mp hx), by rw [List.length_append]; show 1 + xs8.reverse.length ≤ 100; omega⟩
    generalize upd H24 p9 (.lst ([V.int ((lb R 0 : Nat) : Int)] ++ xs8.reverse)) = H25 at *
    have O := O.ex e2125
    refine ⟨o, _, _, rfl, rfl, O.1, small1000 (by simp), ?_⟩
    have e26 := (e21.trans e2125).mut (o := .lst ((([V.ref p1, .ref p2, .ref p3, .ref p4] ++ [.ref c]) ++ [.ref p6]) ++ [.ref p9])) no
    have O := OutOk.snoc (z := V.ref p1) (ys := [.ref p2, .ref p3, .ref p4, .ref c, .ref p6]) O L7
    exact ⟨_, rfl, q o _ _ e26 O rfl⟩
end
end Kd

namespace Kd
open PySem PySem.Spec PyProof.Rows L2 Evl Km Kr Kb Kc
/-! ### growing a piece, plainly -/
def Shut1 (c pc : List Nat) : Prop := ∀ a, a ∈ c → a ∈ pc → ∀ b, b ∈ c → b ∈ pc
def Gr (cs : List (List Nat)) (t j : Nat) (pc : List Nat) : Prop := t + 2 ≤ pc.length ∨ (t + 1 ≤ pc.length ∧ ∀ c, c ∈ cs.take j → Shut1 c pc) ∨ ∀ c, c ∈ cs → Shut1 c pc
structure Grow (n : Nat) (L : List Nat) (i : Nat) (pc : List Nat) : Prop where
  nd : pc.Nodup
  has : i ∈ pc
  sub : ∀ x, x ∈ pc → x < n ∧ lb L x = i
def more (c pc : List Nat) : List Nat := c.filter fun x => !decide (x ∈ pc)
theorem mem_more {c pc : List Nat} {x : Nat} : x ∈ more c pc ↔ x ∈ c ∧ x ∉ pc := by
  unfold more
  rw [List.mem_filter]
  simp
theorem Grow.len {n i : Nat} {L pc : List Nat} (h : Grow n L i pc) : pc.length ≤ n := by
  have := sub_len h.nd (m := List.range n) fun x hx => List.mem_range.mpr (h.sub x hx).1
  rw [List.length_range] at this
  exact this
theorem Grow.add {n i : Nat} {cs : List (List Nat)} {L pc c : List Nat} (v : Vl n cs L) (h : Grow n L i pc) (hc : c ∈ cs) (hn : c.Nodup) (hm : ∃ a, a ∈ c ∧ a ∈ pc) : Grow n L i (pc ++ more c pc) := by
  obtain ⟨a, ha, hap⟩ := hm
  refine ⟨List.nodup_append.mpr ⟨h.nd, hn.filter _, fun x hx y hy e => ?_⟩, List.mem_append_left _ h.has, fun x hx => ?_⟩
  · subst e
    exact (mem_more.mp hy).2 hx
  · rcases List.mem_append.mp hx with hx | hx
    · exact h.sub x hx
    · have hxc := (mem_more.mp hx).1
      exact ⟨v.ins c hc x hxc, (v.const c hc x hxc a ha).trans (h.sub a hap).2⟩
theorem Gr.yes {cs : List (List Nat)} {t j : Nat} {pc c : List Nat} (h : Gr cs t j pc) (hc : cs[j]? = some c) (hm : ∃ a, a ∈ c ∧ a ∈ pc) : Gr cs t (j + 1) (pc ++ more c pc) := by
  by_cases he : more c pc = []
  · rw [he, List.append_nil]
    have hs : Shut1 c pc := fun a _ _ b hb => by
      by_cases hbp : b ∈ pc
      · exact hbp
      · have : b ∈ more c pc := mem_more.mpr ⟨hb, hbp⟩
        rw [he] at this
        cases this
    rcases h with h | ⟨h1, h2⟩ | h
    · exact .inl h
    · refine .inr (.inl ⟨h1, fun d hd => ?_⟩)
      rw [take_snoc hc] at hd
      rcases List.mem_append.mp hd with hd | hd
      · exact h2 d hd
      · rw [List.mem_singleton.mp hd]
        exact hs
    · exact .inr (.inr h)
  · have hp : 0 < (more c pc).length := List.length_pos_iff.mpr he
    rcases h with h | ⟨h1, _⟩ | h
    · exact .inl (by rw [List.length_append]; omega)
    · exact .inl (by rw [List.length_append]; omega)
    · obtain ⟨a, ha, hap⟩ := hm
      refine absurd ?_ he
      refine List.eq_nil_iff_forall_not_mem.mpr fun b hb => ?_
      exact (mem_more.mp hb).2 (h c (List.mem_of_getElem? hc) a ha hap b (mem_more.mp hb).1)
theorem Gr.no {cs : List (List Nat)} {t j : Nat} {pc c : List Nat} (h : Gr cs t j pc) (hc : cs[j]? = some c) (hm : ¬ ∃ a, a ∈ c ∧ a ∈ pc) : Gr cs t (j + 1) pc := by
  rcases h with h | ⟨h1, h2⟩ | h
  · exact .inl h
  · refine .inr (.inl ⟨h1, fun d hd => ?_⟩)
    rw [take_snoc hc] at hd
    rcases List.mem_append.mp hd with hd | hd
    · exact h2 d hd
    · rw [List.mem_singleton.mp hd]
      exact fun a ha hap => absurd ⟨a, ha, hap⟩ hm
  · exact .inr (.inr h)
theorem Gr.turn {cs : List (List Nat)} {t : Nat} {pc : List Nat} (h : Gr cs t cs.length pc) : Gr cs (t + 1) 0 pc := by
  rcases h with h | ⟨h1, h2⟩ | h
  · exact .inr (.inl ⟨h, fun c hc => by rw [List.take_zero] at hc; cases hc⟩)
  · rw [List.take_length] at h2
    exact .inr (.inr h2)
  · exact .inr (.inr h)
theorem Grow.all {n i : Nat} {cs : List (List Nat)} {L pc : List Nat} (v : Vl n cs L) (h : Grow n L i pc) (g : Gr cs n 0 pc) (x : Nat) : x ∈ pc ↔ x ∈ piece n L i := by
  have hl := h.len
  have hs : ∀ c, c ∈ cs → Shut1 c pc := by
    rcases g with g | ⟨g, _⟩ | g
    · omega
    · omega
    · exact g
  rw [mem_piece]
  refine ⟨fun hx => h.sub x hx, fun ⟨hx, e⟩ => ?_⟩
  have hi := h.sub i h.has
  exact v.gen (· ∈ pc) (fun c hc a ha b hb hap => hs c hc a ha hap b hb) i x hi.1 hx (hi.2.trans e.symm) h.has
/-- is a bit in one of the pieces so far -/
theorem any_pieces {n i : Nat} {L : List Nat} {cs : List (List Nat)} (v : Vl n cs L) (le : Le n L) (hi : i < n) : ((((List.range i).filter fun b => lb L b == b).map fun r => decide (i ∈ piece n L r)).any id) = !decide (lb L i = i) := by
  rw [Bool.eq_iff_iff, List.any_eq_true]
  simp only [List.mem_map, List.mem_filter, List.mem_range, id, beq_iff_eq, Bool.not_eq_true', decide_eq_false_iff_not]
  constructor
  · rintro ⟨_, ⟨r, ⟨hr, _⟩, rfl⟩, h⟩ e
    have := (mem_piece.mp (of_decide_eq_true h)).2
    omega
  · intro h
    have h1 := le i hi
    exact ⟨true, ⟨lb L i, ⟨by omega, v.idem i hi⟩, decide_eq_true (mem_piece.mpr ⟨hi, rfl⟩)⟩, rfl⟩
section
variable {P : Program} {w : World} {K : PySem.W.Frag} {mg : Str → Option Value} {base : Heap} {C fI : Addr}
def spLPieces : Sp := fun vs H Q _ => ∃ (n : Nat) (ck : V) (cs : List (List Nat)), vs = [.int (n : Int), ck] ∧ CkL H ck cs ∧ Good n cs ∧ cs.length ≤ 60 ∧ n ≤ 10 ∧ ∀ (u : V) (H' : Hp), Ex H H' → CkL H' u (pieces n cs) → Q u H'
theorem ok_law_pieces {f : Addr} {fd : FuncData} (F : Fun K "_law_pieces" "_law_pieces" s__law_pieces f fd) (B : Bt K mg C fI) : FnOk P w K mg base CX0 1 f fd ["_law_bits", "_law_checks"] spLPieces := by
  refine F.ok sc__law_pieces (fun vs H Q E h => ?_) (fun cdv A outer s H vs Q E hr h => ?_)
  · obtain ⟨n, ck, cs, rfl, _⟩ := h
    rfl
  · obtain ⟨n, ck, cs, rfl, ⟨ckp, cxs, rfl, hcp, hcts⟩, hg, hcl, hn, q⟩ := h
    refine ⟨_, 
    (pss_cons (ps_set (i := 2) sc__law_pieces.nd rfl (by first | exact Or.inl rfl | exact Or.inr rfl) (pe_lst pa_nil)) 
    (pss_cons (ps_for PassesOwn.never rfl (pi_range1 (by rfl) B.zrange (pa_cons (pv 0) pa_nil)) (pg_name (i := 3) sc__law_pieces.nd rfl (by first | exact Or.inl rfl | exact Or.inr rfl)) 
      (pss_one (ps_if (pt_not (pt_val (pe_callB (cr_any rfl) (by rfl) B.zany (by decide +kernel) (pa_cons (pe_lc rfl sc__law_pieces.nd (pi_list (pv 2)) (blkOk_by (own := [("_law_piece", 4)]) (N := ["_law_bits", "_law_checks", "_law_out", "_law_bit", "_law_piece", "_law_turn", "_law_lot_here", "_law_other"]) (sc := (defScope s__law_pieces)) (by decide +kernel)) (fun _ _ _ _ _ => (pg_name (i := 4) sc__law_pieces.nd rfl (by first | exact Or.inl rfl | exact Or.inr rfl))) (fun _ _ _ _ _ => pts_nil) (fun _ _ _ _ _ => (pe_cmpR (kIn K rfl) (pv 3) (pv 4) (by rfl)))) pa_nil)))) 
        (pss_cons (ps_set (i := 4) sc__law_pieces.nd rfl (by first | exact Or.inl rfl | exact Or.inr rfl) (pe_lst (pa_cons (pv 3) pa_nil))) 
        (pss_cons (ps_for PassesOwn.never rfl (pi_range1 (by rfl) B.zrange (pa_cons (pv 0) pa_nil)) (pg_name (i := 5) sc__law_pieces.nd rfl (by first | exact Or.inl rfl | exact Or.inr rfl)) 
          (pss_one (ps_for PassesOwn.never rfl (pi_list (pv 1)) (pg_name (i := 6) sc__law_pieces.nd rfl (by first | exact Or.inl rfl | exact Or.inr rfl)) 
            (pss_one (ps_if (pt_val (pe_callB (cr_any rfl) (by rfl) B.zany (by decide +kernel) (pa_cons (pe_lc rfl sc__law_pieces.nd (pi_tup (pv 6)) (blkOk_by (own := [("_law_other", 7)]) (N := ["_law_bits", "_law_checks", "_law_out", "_law_bit", "_law_piece", "_law_turn", "_law_lot_here", "_law_other"]) (sc := (defScope s__law_pieces)) (by decide +kernel)) (fun _ _ _ _ _ => (pg_name (i := 7) sc__law_pieces.nd rfl (by first | exact Or.inl rfl | exact Or.inr rfl))) (fun _ _ _ _ _ => pts_nil) (fun _ _ _ _ _ => (pe_cmpR (kIn K rfl) (pv 7) (pv 4) (by rfl)))) pa_nil))) 
              (pss_one (ps_set (i := 4) sc__law_pieces.nd rfl (by first | exact Or.inl rfl | exact Or.inr rfl) (pe_op op_cat (pv 4) (pe_lc rfl sc__law_pieces.nd (pi_tup (pv 6)) (blkOk_by (own := [("_law_other", 7)]) (N := ["_law_bits", "_law_checks", "_law_out", "_law_bit", "_law_piece", "_law_turn", "_law_lot_here", "_law_other"]) (sc := (defScope s__law_pieces)) (by decide +kernel)) (fun _ _ _ _ _ => (pg_name (i := 7) sc__law_pieces.nd rfl (by first | exact Or.inl rfl | exact Or.inr rfl))) (fun _ _ _ _ _ => (pts_one (pt_cmpR (kNotIn K rfl) (pv 7) (pv 4) (by rfl)))) (fun _ _ _ _ _ => (pv 7)))))) pss_nil))))) 
        (pss_one (ps_expr (pe_bm PySem.F.plainAttrs_list PySem.F.slot_list_append PySem.F.type_list_append mt_append (pv 2) (pa_cons (pe_callTy (kTuple K rfl) (by rfl) B.ztuple (by decide +kernel) (pa_cons (pe_callB cr_sorted (by rfl) B.zsorted (by decide +kernel) (pa_cons (pv 4) pa_nil)) pa_nil)) pa_nil)))))) pss_nil))) 
    (pss_one (ps_ret (pv 2))))), ?_⟩
    obtain ⟨vl, le⟩ := labs_all hg
    generalize hL : labs n cs = L at *
    refine ⟨Nat.zero_le _, fun ol hol => ?_⟩
    refine ⟨_, rfl, (n : Int), rfl, by omega, by omega, for_range (lo := 0) (fun i σ H' => ∃ (xs : List V) (o3 o4 o5 o6 : Option V), σ = [some (.int (n : Int)), some (.ref ckp), some (.ref ol), o3, o4, o5, o6, none] ∧
      H' ol = some (.lst xs) ∧ ITs H' xs (((List.range i).filter fun b => lb L b == b).map (piece n L)) ∧ Ex H H')
      ⟨[], _, _, _, _, rfl, upd_same, .nil, Ex.new hol⟩ ?_ ?_⟩
    · rintro i σ H1 hi ⟨xs, o3, o4, o5, o6, rfl, hxs, hts, e⟩
      have hin : i < n := by omega
      have c1 : (0 : Int) + (i : Nat) = ((i : Nat) : Int) := Int.zero_add _
      rw [c1]
      have hF : ((List.range i).filter fun b => lb L b == b).length ≤ i := by
        have := List.length_filter_le (fun b => lb L b == b) (List.range i)
        rw [List.length_range] at this
        exact this
      have hany := any_pieces vl le hin
      have hfil := filter_range_succ2 (i := i) (p := fun b => lb L b == b)
      rw [hfil]
      generalize ((List.range i).filter fun b => lb L b == b) = F' at *
      refine ⟨_, rfl, ol, rfl, ⟨_, SqL.of hxs⟩, fun D hD => lc_list (K := K) (a := ol) (xs := xs) (fun j H' => H' D = some (.lst (((F'.take j).map fun r => decide (i ∈ piece n L r)).map V.bl)) ∧ Ex H1 H')
        ⟨upd_same, Ex.new hD⟩ (fun j H' _ ⟨_, e'⟩ => SqL.of (e' _ _ hxs)) ?_ ?_⟩
      · rintro j x H2 hj ⟨h2, e2⟩
        obtain ⟨ns, hns, hit⟩ := hts.get hj
        obtain ⟨pt, rfl, hpt⟩ := hit
        rw [List.getElem?_map] at hns
        obtain ⟨r, hr1, rfl⟩ := Option.map_eq_some_iff.mp hns
        refine ⟨rfl, lc_yes ?_⟩
        refine ⟨_, rfl, _, rfl, pt, _, rfl, .inr (SqT.of (e2 _ _ hpt)), rfl, iv_flat _, ?_⟩
        rw [if_neg Bool.false_ne_true, inV_iv]
        refine ⟨_, h2, ?_, ?_, e2.mut hD⟩
        · rw [List.length_map, List.length_map, List.length_take]
          exact small1000 (by omega)
        · rw [upd_same, take_snoc hr1, List.map_append, List.map_append]
          rfl
      · rintro H2 ⟨h2, e2⟩
        have hxl := hts.1
        rw [List.length_map] at hxl
        rw [hxl, List.take_length] at h2
        refine ⟨D, _, rfl, SqL.of h2, ?_⟩
        rw [hany]
        by_cases hri : lb L i = i
        · rw [decide_eq_true hri]
          refine ⟨_, rfl, iteT ?_⟩
          rw [if_pos (by rw [beq_iff_eq]; exact hri)]
          have hxs2 := e2 _ _ hxs
          have hts2 := hts.ex e2
          have e12 := e.trans e2
          refine ⟨_, rfl, by show 1 ≤ sizeLine; decide, fun pl hpl => ?_⟩
          have grow0 : Grow n L i [i] := ⟨List.nodup_cons.mpr ⟨by simp, List.nodup_nil⟩, List.mem_singleton.mpr rfl, fun x hx => by rw [List.mem_singleton.mp hx]; exact ⟨hin, hri⟩⟩
          have gr0 : Gr cs 0 0 [i] := .inr (.inl ⟨Nat.le_refl _, fun c hc => by rw [List.take_zero] at hc; cases hc⟩)
          refine ⟨_, rfl, (n : Int), rfl, by omega, by omega, for_range (lo := 0) (fun t σ H' => ∃ (pl : Addr) (pc : List Nat) (o5 o6 : Option V), σ = [some (.int (n : Int)), some (.ref ckp), some (.ref ol), some (.int (i : Int)), some (.ref pl), o5, o6, none] ∧
            H' pl = some (.lst (iv pc)) ∧ Grow n L i pc ∧ Gr cs t 0 pc ∧ Ex H2 H')
            ⟨pl, [i], _, _, rfl, upd_same, grow0, gr0, Ex.new hpl⟩ ?_ ?_⟩
          · rintro t σ H3 ht ⟨pl, pc, o5, o6, rfl, hpl, hgrow, hgr, e3⟩
            refine ⟨_, rfl, ckp, rfl, ⟨_, SqL.of ((e12.trans e3) _ _ hcp)⟩, for_list (K := K) (a := ckp) (xs := cxs) (fun j σ H' => ∃ (pl : Addr) (pc : List Nat) (o6 : Option V), σ = [some (.int (n : Int)), some (.ref ckp), some (.ref ol), some (.int (i : Int)), some (.ref pl), some (.int (0 + (t : Int))), o6, none] ∧
              H' pl = some (.lst (iv pc)) ∧ Grow n L i pc ∧ Gr cs t j pc ∧ Ex H2 H')
              ⟨pl, pc, _, rfl, hpl, hgrow, hgr, e3⟩ (fun j σ H' _ ⟨_, _, _, _, _, _, _, e'⟩ => SqL.of ((e12.trans e') _ _ hcp)) ?_ ?_⟩
            · rintro j y σ H4 hj ⟨pl, pc, o6, rfl, hpl, hgrow, hgr, e4⟩
              obtain ⟨c, hc, hit⟩ := hcts.get hj
              obtain ⟨ct, rfl, hct⟩ := hit
              have hct4 := (e12.trans e4) _ _ hct
              have hcm := List.mem_of_getElem? hc
              have hcnd := asc_nodup (hg.asc c hcm)
              have hcn : c.length ≤ n := by
                have := sub_len hcnd (m := List.range n) fun x hx => List.mem_range.mpr (hg.lt c hcm x hx)
                rw [List.length_range] at this
                exact this
              have hpn := hgrow.len
              refine ⟨_, rfl, ct, rfl, ⟨_, SqT.of hct4⟩, fun D2 hD2 => lc_tup (K := K) (a := ct) (xs := iv c) (fun m H' => H' D2 = some (.lst (((c.take m).map fun x => decide (x ∈ pc)).map V.bl)) ∧ Ex H4 H')
                ⟨upd_same, Ex.new hD2⟩ (fun m H' _ ⟨_, e'⟩ => SqT.of (e' _ _ hct4)) ?_ ?_⟩
              · rintro m x H5 hm ⟨h5, e5⟩
                obtain ⟨b, hb, rfl⟩ := iv_of hm
                refine ⟨rfl, lc_yes ?_⟩
                refine ⟨_, rfl, _, rfl, pl, _, rfl, .inl (SqL.of (e5 _ _ hpl)), rfl, iv_flat _, ?_⟩
                rw [if_neg Bool.false_ne_true, inV_iv]
                refine ⟨_, h5, ?_, ?_, e5.mut hD2⟩
                · rw [List.length_map, List.length_map, List.length_take]
                  exact small1000 (by omega)
                · rw [upd_same, take_snoc hb, List.map_append, List.map_append]
                  rfl
              · rintro H5 ⟨h5, e5⟩
                rw [iv_len, List.take_length] at h5
                refine ⟨D2, _, rfl, SqL.of h5, ?_⟩
                by_cases hm : ∃ a, a ∈ c ∧ a ∈ pc
                · have ea : (c.map fun x => decide (x ∈ pc)).any id = true := by
                    obtain ⟨a, h1, h2⟩ := hm
                    exact List.any_eq_true.mpr ⟨true, List.mem_map.mpr ⟨a, h1, decide_eq_true h2⟩, rfl⟩
                  rw [ea]
                  refine ⟨_, rfl, iteT ?_⟩
                  have hpl5 := e5 _ _ hpl
                  have hct5 := e5 _ _ hct4
                  refine ⟨_, rfl, _, rfl, ct, rfl, ⟨_, SqT.of hct5⟩, fun D3 hD3 => lc_tup (K := K) (a := ct) (xs := iv c) (fun m H' => H' D3 = some (.lst (iv (more (c.take m) pc))) ∧ Ex H5 H')
                    ⟨upd_same, Ex.new hD3⟩ (fun m H' _ ⟨_, e'⟩ => SqT.of (e' _ _ hct5)) ?_ ?_⟩
                  · rintro m x H6 hm ⟨h6, e6⟩
                    obtain ⟨b, hb, rfl⟩ := iv_of hm
                    have emore : more (c.take (m + 1)) pc = more (c.take m) pc ++ (if b ∈ pc then [] else [b]) := by
                      unfold more
                      rw [take_snoc hb, List.filter_append]
                      congr 1
                      by_cases h : b ∈ pc <;> simp [h]
                    have hlm : (more (c.take m) pc).length ≤ n := by
                      unfold more
                      have := List.length_filter_le (fun x => !decide (x ∈ pc)) (c.take m)
                      rw [List.length_take] at this
                      omega
                    refine ⟨rfl, ?_⟩
                    refine ⟨_, rfl, _, rfl, pl, _, rfl, .inl (SqL.of (e6 _ _ hpl5)), rfl, iv_flat _, _, rfl, ?_⟩
                    rw [if_pos rfl, inV_iv]
                    by_cases hbp : b ∈ pc
                    · rw [decide_eq_true hbp]
                      refine iteF ⟨?_, e6⟩
                      rw [emore, if_pos hbp, List.append_nil]
                      exact h6
                    · rw [decide_eq_false hbp]
                      refine iteT ⟨_, rfl, _, h6, ?_, ?_, e6.mut hD3⟩
                      · rw [iv_len]
                        exact small1000 (by omega)
                      · rw [upd_same, emore, if_neg hbp, iv_app]
                        rfl
                  · rintro H6 ⟨h6, e6⟩
                    rw [iv_len, List.take_length] at h6
                    have grow' := hgrow.add vl hcm hcnd hm
                    refine ⟨pl, D3, _, _, rfl, rfl, e6 _ _ hpl5, h6, ?_, fun p hp => ?_⟩
                    · rw [← List.length_append, ← iv_app, iv_len]
                      exact Nat.le_of_lt (small1000 (Nat.le_trans grow'.len (by omega)))
                    · refine ⟨p, pc ++ more c pc, _, rfl, ?_, grow', hgr.yes hc hm, ((e4.trans e5).trans e6).trans (Ex.new hp)⟩
                      rw [upd_same, iv_app]
                · have ea : (c.map fun x => decide (x ∈ pc)).any id = false := by
                    rw [List.any_eq_false]
                    intro b hb
                    obtain ⟨a, h1, rfl⟩ := List.mem_map.mp hb
                    rw [decide_eq_false fun h2 => hm ⟨a, h1, h2⟩]
                    decide
                  rw [ea]
                  refine ⟨_, rfl, iteF ?_⟩
                  exact ⟨pl, pc, _, rfl, e5 _ _ hpl, hgrow, hgr.no hc hm, e4.trans e5⟩
            · rintro σ H4 ⟨pl, pc, o6, rfl, hpl, hgrow, hgr, e4⟩
              rw [hcts.1] at hgr
              exact ⟨pl, pc, _, _, rfl, hpl, hgrow, hgr.turn, e4⟩
          · rintro σ H3 ⟨pl, pc, o5, o6, rfl, hpl, hgrow, hgr, e3⟩
            have hall := hgrow.all vl hgr
            have hpn := hgrow.len
            refine ⟨_, rfl, .inl ⟨rfl, _, SqL.of (e3 _ _ hxs2)⟩, _, rfl, pl, pc.map fun n : Nat => (n : Int), rfl, by rw [← iv_ints]; exact SqL.of hpl, by rw [List.length_map]; omega, fun ns' p hperm hasc hp' => ?_⟩
            obtain ⟨ms, rfl, h1, h2, h3⟩ := sorted_nat hperm hasc hgrow.nd
            have ems : ms = piece n L i := asc_unique h1 filter_asc fun x => (h2 x).trans (hall x)
            subst ems
            rw [← iv_ints]
            refine ⟨p, _, rfl, .inl ⟨SqL.of upd_same, fun t htt => ?_⟩⟩
            have e5 := (Ex.new (o := .lst (iv (piece n L i))) hp').trans (Ex.new (o := .tup (iv (piece n L i))) htt)
            have ep := (e3.trans e5) _ _ hxs2
            have hx5 := (hts2.ex e3).ex e5
            have hxl := hts.1
            rw [List.length_map] at hxl
            refine ⟨ol, _, _, rfl, rfl, ep, small1000 (by omega), xs ++ [.ref t], _, _, _, _, rfl, upd_same, ?_, ((e12.trans e3).trans e5).mut hol⟩
            rw [List.map_append]
            exact (hx5.snoc ⟨t, rfl, upd_same⟩).upd ep
        · rw [decide_eq_false hri]
          refine ⟨_, rfl, iteF ?_⟩
          refine ⟨xs, _, _, _, _, rfl, e2 _ _ hxs, ?_, e.trans e2⟩
          rw [if_neg (by rw [beq_iff_eq]; exact hri), List.append_nil]
          exact hts.ex e2
    · rintro σ H1 ⟨xs, o3, o4, o5, o6, rfl, hxs, hts, e⟩
      refine ⟨_, rfl, q _ H1 e ⟨ol, xs, rfl, hxs, ?_⟩⟩
      unfold pieces
      rw [hL]
      exact hts
end
end Kd

namespace Kd
open PySem PySem.Spec PyProof.Rows L2 Evl Km Kr Kb Kc
section
variable {P : Program} {w : World} {K : PySem.W.Frag} {mg : Str → Option Value} {base : Heap} {C fI : Addr}
theorem rep_all (k : Nat) : (List.replicate k true).all id = true := by
  induction k with
  | zero => rfl
  | succ k ih => rw [List.replicate_succ, List.all_cons, ih]; rfl
theorem lens_sum (cs : List (List Nat)) : (cs.map fun c => (c.length : Int)).sum = (lens cs : Int) := by
  unfold lens
  induction cs with
  | nil => rfl
  | cons c r ih =>
    rw [List.map_cons, List.map_cons, List.sum_cons, List.sum_cons, ih]
    omega
theorem pieces_len (n : Nat) (cs : List (List Nat)) : (pieces n cs).length = (reps n (labs n cs)).length := by unfold pieces; rw [List.length_map]
theorem reps_len (n : Nat) (L : List Nat) : (reps n L).length ≤ n := by
  unfold reps
  have := List.length_filter_le (fun b => lb L b == b) (List.range n)
  rw [List.length_range] at this
  exact this
theorem piece_len {n : Nat} {cs : List (List Nat)} {c : List Nat} (h : c ∈ pieces n cs) : c.length ≤ n := by
  obtain ⟨r, _, rfl⟩ := List.mem_map.mp h
  unfold piece
  have := List.length_filter_le (fun b => lb (labs n cs) b == r) (List.range n)
  rw [List.length_range] at this
  exact this
def spLaw (K : PySem.W.Frag) : Sp := fun vs H Q _ => ∃ (a : Addr) (ns : List Int), vs = [.ref a] ∧ SqL K H a (ns.map V.int) ∧ ns.length ≤ 63 ∧ ∀ H', Q (.bl true) H'
theorem ok_law {f : Addr} {fd : FuncData} (F : Fun K "law" "law" s_law f fd) (B : Bt K mg C fI)
    (c__law_hand : Cal P w K mg base "_law_hand" 1 ["_law_script"] (spHand K))
    (c__law_code : Cal P w K mg base "_law_code" 5 ["_law_hand_here", "_law_low", "_law_high", "_law_widest"] spLCode)
    (c__law_made : Cal P w K mg base "_law_made" 5 ["_law_bits", "_law_checks"] (spMade C))
    (c__law_pieces : Cal P w K mg base "_law_pieces" 1 ["_law_bits", "_law_checks"] spLPieces)
    (c_code_pieces : Cal P w K mg base "code_pieces" 1 ["code"] (spPieces C))
    (c__law_wholes : Cal P w K mg base "_law_wholes" 2 ["_law_thing", "_law_many"] spWholes)
    (c_web_ring : Cal P w K mg base "web_ring" 2 ["code"] (spWeb C))
    (c__law_draw : Cal P w K mg base "_law_draw" 2 ["_law_hand_here", "_law_many"] spDraw)
    (c__law_fault : Cal P w K mg base "_law_fault" 2 ["_law_bits", "_law_checks", "_law_ring"] spFault)
    (c_ring_fault : Cal P w K mg base "ring_fault" 2 ["code", "ring"] (spRing C))
    (c__law_spoilt_rings : Cal P w K mg base "_law_spoilt_rings" 3 ["_law_hand_here", "_law_bits", "_law_checks", "_law_ring"] spSpoilt)
    (c__law_judged : Cal P w K mg base "_law_judged" 3 ["_law_code_here", "_law_bits", "_law_checks", "_law_ring"] (spJudged C)) :
    FnOk P w K mg base CX0 6 f fd ["_law_script"] (spLaw K) := by
  refine F.ok sc_law (fun vs H Q E h => ?_) (fun cdv A outer s H vs Q E hr h => ?_)
  · obtain ⟨a, ns, rfl, _⟩ := h
    rfl
  · obtain ⟨a, ns, rfl, hS, hlen, q⟩ := h
    refine ⟨_, 
    (pss_cons (ps_set (i := 1) sc_law.nd rfl (by first | exact Or.inl rfl | exact Or.inr rfl) (pe_cal c__law_hand (hr.mono (by decide)) (by rfl) (pa_cons (pv 0) pa_nil))) 
    (pss_cons (ps_asg (pe_cal c__law_code (hr.mono (by decide)) (by rfl) (pa_cons (pv 1) (pa_cons pe_int (pa_cons pe_int (pa_cons pe_int pa_nil))))) (pg_tup rfl (pgs_cons (pg_name (i := 2) sc_law.nd rfl (by first | exact Or.inl rfl | exact Or.inr rfl)) (pgs_cons (pg_name (i := 3) sc_law.nd rfl (by first | exact Or.inl rfl | exact Or.inr rfl)) pgs_nil)))) 
    (pss_cons (ps_set (i := 4) sc_law.nd rfl (by first | exact Or.inl rfl | exact Or.inr rfl) (pe_cal c__law_made (hr.mono (by decide)) (by rfl) (pa_cons (pv 2) (pa_cons (pv 3) pa_nil)))) 
    (pss_cons (ps_set (i := 5) sc_law.nd rfl (by first | exact Or.inl rfl | exact Or.inr rfl) (pe_cal c__law_pieces (hr.mono (by decide)) (by rfl) (pa_cons (pv 2) (pa_cons (pv 3) pa_nil)))) 
    (pss_cons (ps_set (i := 6) sc_law.nd rfl (by first | exact Or.inl rfl | exact Or.inr rfl) (pe_cal c_code_pieces (hr.mono (by decide)) (by rfl) (pa_cons (pv 4) pa_nil))) 
    (pss_cons (ps_if (PW.pt (pw_or (pt_not (pt_val (pe_callB (kIsi K rfl) (by rfl) B.zisinstance (by decide +kernel) (pa_cons (pv 6) (pa_cons (pe_bltn (v := .ty "tuple") (by rfl) B.ztuple (by decide +kernel) rfl) pa_nil))))) (pw_or (pt_cmpR (op_neD hr.units) (pe_callTy (kLst K rfl) (by rfl) B.zlist (by decide +kernel) (pa_cons (pv 6) pa_nil)) (pv 5) (nomark _)) (pw_or1 (pt_not (pt_val (pe_callB (cr_all rfl) (by rfl) B.zall (by decide +kernel) (pa_cons (pe_lc rfl sc_law.nd (pi_tup (pv 6)) (blkOk_by (own := [("_law_piece", 7)]) (N := ["_law_script", "_law_hand_here", "_law_bits", "_law_checks", "_law_code_here", "_law_pieces_here", "_law_told", "_law_piece", "_law_links", "_law_lot_here", "_law_ring", "_law_walks", "_law_walk", "_law_thing"]) (sc := (defScope s_law)) (by decide +kernel)) (fun _ _ _ _ _ => (pg_name (i := 7) sc_law.nd rfl (by first | exact Or.inl rfl | exact Or.inr rfl))) (fun _ _ _ _ _ => pts_nil) (fun _ _ _ _ _ => (pe_cal c__law_wholes (hr.mono (by decide)) (by rfl) (pa_cons (pv 7) (pa_cons (pe_callB (kLen K rfl) (by rfl) B.zlen (by decide +kernel) (pa_cons (pv 7) pa_nil)) pa_nil))))) pa_nil)))))))) 
      (pss_one (ps_ret pe_bl)) pss_nil) 
    (pss_cons (ps_set (i := 8) sc_law.nd rfl (by first | exact Or.inl rfl | exact Or.inr rfl) (pe_callB (cr_sum rfl) (by rfl) B.zsum (by decide +kernel) (pa_cons (pe_lc rfl sc_law.nd (pi_list (pv 3)) (blkOk_by (own := [("_law_lot_here", 9)]) (N := ["_law_script", "_law_hand_here", "_law_bits", "_law_checks", "_law_code_here", "_law_pieces_here", "_law_told", "_law_piece", "_law_links", "_law_lot_here", "_law_ring", "_law_walks", "_law_walk", "_law_thing"]) (sc := (defScope s_law)) (by decide +kernel)) (fun _ _ _ _ _ => (pg_name (i := 9) sc_law.nd rfl (by first | exact Or.inl rfl | exact Or.inr rfl))) (fun _ _ _ _ _ => pts_nil) (fun _ _ _ _ _ => (pe_callB (kLen K rfl) (by rfl) B.zlen (by decide +kernel) (pa_cons (pv 9) pa_nil)))) pa_nil))) 
    (pss_cons (ps_set (i := 10) sc_law.nd rfl (by first | exact Or.inl rfl | exact Or.inr rfl) (pe_cal c_web_ring (hr.mono (by decide)) (by rfl) (pa_cons (pv 4) pa_nil))) 
    (pss_cons (ps_if (pt_cmpR op_ne (pe_cmpR op_isN (pv 10) pe_non (nomark _)) (pe_cmpR op_eq (pv 8) (pe_op op_sub (pe_op op_add (pv 2) (pe_callB (kLen K rfl) (by rfl) B.zlen (by decide +kernel) (pa_cons (pv 3) pa_nil))) (pe_callB (kLen K rfl) (by rfl) B.zlen (by decide +kernel) (pa_cons (pv 5) pa_nil))) (nomark _)) (nomark _)) 
      (pss_one (ps_ret pe_bl)) pss_nil) 
    (pss_cons (ps_set (i := 11) sc_law.nd rfl (by first | exact Or.inl rfl | exact Or.inr rfl) (pe_lst (pa_cons (pe_lst (pa_cons (pe_cal c__law_draw (hr.mono (by decide)) (by rfl) (pa_cons (pv 1) (pa_cons (pv 2) pa_nil))) (pa_cons pe_int (pa_cons (pe_cal c__law_draw (hr.mono (by decide)) (by rfl) (pa_cons (pv 1) (pa_cons (pv 2) pa_nil))) (pa_cons pe_int pa_nil))))) (pa_cons (pe_lst pa_nil) (pa_cons (pe_lst (pa_cons pe_int (pa_cons pe_int pa_nil))) pa_nil))))) 
    (pss_cut (ps_if (pt_cmpR op_notN (pv 10) pe_non (nomark _)) 
      (pss_cons (ps_if (PW.pt (pw_or (pt_not (pt_val (pe_callB (kIsi K rfl) (by rfl) B.zisinstance (by decide +kernel) (pa_cons (pv 10) (pa_cons (pe_bltn (v := .ty "tuple") (by rfl) B.ztuple (by decide +kernel) rfl) pa_nil))))) (pw_or (pt_cmpR op_notN (pe_cal c__law_fault (hr.mono (by decide)) (by rfl) (pa_cons (pv 2) (pa_cons (pv 3) (pa_cons (pe_callTy (kLst K rfl) (by rfl) B.zlist (by decide +kernel) (pa_cons (pv 10) pa_nil)) pa_nil)))) pe_non (nomark _)) (pw_or1 (pt_cmpR op_notN (pe_cal c_ring_fault (hr.mono (by decide)) (by rfl) (pa_cons (pv 4) (pa_cons (pv 10) pa_nil))) pe_non (nomark _)))))) 
        (pss_one (ps_ret pe_bl)) pss_nil) 
      (pss_one (ps_set (i := 11) sc_law.nd rfl (by first | exact Or.inl rfl | exact Or.inr rfl) (pe_op op_cat (pv 11) (pe_cal c__law_spoilt_rings (hr.mono (by decide)) (by rfl) (pa_cons (pv 1) (pa_cons (pv 2) (pa_cons (pv 3) (pa_cons (pv 10) pa_nil))))))))) pss_nil) 
    (pss_cons (ps_for PassesOwn.never rfl (pi_list (pv 11)) (pg_name (i := 12) sc_law.nd rfl (by first | exact Or.inl rfl | exact Or.inr rfl)) 
      (pss_one (ps_if (pt_not (pt_val (pe_cal c__law_judged (hr.mono (by decide)) (by rfl) (pa_cons (pv 4) (pa_cons (pv 2) (pa_cons (pv 3) (pa_cons (pv 12) pa_nil))))))) 
        (pss_one (ps_ret pe_bl)) pss_nil))) 
    (pss_cons (ps_for PassesOwn.never rfl (pi_tup (pe_tup (pa_cons pe_non (pa_cons pe_str (pa_cons pe_int pa_nil))))) (pg_name (i := 13) sc_law.nd rfl (by first | exact Or.inl rfl | exact Or.inr rfl)) 
      (pss_one (ps_if (pt_cmpR op_ne (pe_cal c_ring_fault (hr.mono (by decide)) (by rfl) (pa_cons (pv 4) (pa_cons (pv 13) pa_nil))) pe_str (nomark _)) 
        (pss_one (ps_ret pe_bl)) pss_nil))) 
    (pss_one (ps_ret (pe_cmpR (op_eqD hr.units) (pe_cal c_code_pieces (hr.mono (by decide)) (by rfl) (pa_cons (pv 4) pa_nil)) (pv 6) (nomark _))))))))))))))))), ?_⟩
    refine ⟨_, rfl, a, ns, rfl, hS, hlen, fun ha H1 e1 hh => ?_⟩
    refine ⟨_, rfl, ha, rfl, hh, fun n ck cs p H2 e2 hp hck hg hc8 n1 n8 => ?_⟩
    refine ⟨p, _, rfl, SqT.of hp, rfl, _, _, rfl, _, _, rfl, rfl, ?_⟩
    refine ⟨_, rfl, _, rfl, n, ck, cs, rfl, hck, hg, hc8, n1, n8, fun v H3 e3 hcode => ?_⟩
    refine ⟨_, rfl, _, rfl, n, ck, cs, rfl, hck.ex e3, hg, by omega, by omega, fun pv H4 e4 hpv => ?_⟩
    refine ⟨_, rfl, v, n, cs, rfl, hcode.ex e4, hg, by omega, by omega, fun u H5 e5 htt => ?_⟩
    have hh := hh.ex (((e2.trans e3).trans e4).trans e5)
    have hck := hck.ex ((e3.trans e4).trans e5)
    have hcode := hcode.ex (e4.trans e5)
    have hpv := hpv.ex e5
    clear e1 e2 e3 e4 e5 hp hS
    obtain ⟨ut, uxs, rfl, hut, huts⟩ := id htt
    obtain ⟨lp, lxs, rfl, hlp, hlts⟩ := id hpv
    have hplen := pieces_len n cs
    have hrlen := reps_len n (labs n cs)
    -- told is a tuple
    refine ⟨_, rfl, _, _, _, _, true, rfl, .ty "tuple", .base (.tup hut), kit_ty (by decide +kernel), true, rfl, iteF ?_⟩
    -- list(told) is pieces
    refine ⟨_, rfl, ut, uxs, rfl, .inr (SqT.of hut), fun l hl => ?_⟩
    have e6 := Ex.new (o := .lst uxs) hl
    refine ⟨_, rfl, .list ((pieces n cs).map dT), .list ((pieces n cs).map dT), .lst (SqL.of upd_same) (huts.ex e6).dp, .lst (SqL.of (e6 _ _ hlp)) (hlts.ex e6).dp, shaped_list _, shaped_list _, ?_⟩
    rw [refl_list]
    refine ⟨_, rfl, iteF ?_⟩
    have hut6 := e6 _ _ hut
    have huts6 := huts.ex e6
    generalize upd H5 l (.lst uxs) = H6 at *
    have hul := huts.1
    -- all whole
    refine ⟨_, rfl, ut, rfl, ⟨_, SqT.of hut6⟩, fun D hD => lc_tup (K := K) (a := ut) (xs := uxs) (fun i H' => H' D = some (.lst ((List.replicate i true).map V.bl)) ∧ Ex H6 H')
      ⟨upd_same, Ex.new hD⟩ (fun i H' _ ⟨_, e⟩ => SqT.of (e _ _ hut6)) ?_ ?_⟩
    · rintro i y H7 hi ⟨h7, e7⟩
      obtain ⟨c, hc, hit⟩ := huts6.get hi
      have hit := hit.ex e7
      have hcl := piece_len (List.mem_of_getElem? hc)
      have hil := (List.getElem?_eq_some_iff.mp hi).1
      refine ⟨rfl, lc_yes ?_⟩
      obtain ⟨ct, rfl, hct⟩ := id hit
      refine ⟨_, rfl, _, rfl, ct, _, rfl, .inr (SqT.of hct), .ref ct, c, by rw [iv_len]; rfl, hit, by omega, fun H8 e8 => ⟨_, e8 _ _ h7, ?_, ?_, (e7.trans e8).mut hD⟩⟩
      · rw [List.length_map, List.length_replicate]
        exact small1000 (by omega)
      · rw [upd_same, List.replicate_succ', List.map_append]
        rfl
    rintro H7 ⟨h7, e7⟩
    refine ⟨D, _, rfl, SqL.of h7, ?_⟩
    rw [rep_all]
    refine ⟨_, rfl, iteF ?_⟩
    -- links
    have e57 := e6.trans e7
    obtain ⟨ckp, cxs, rfl, hcp, hcts⟩ := id (hck.ex e57)
    have hcxl := hcts.1
    refine ⟨_, rfl, ckp, rfl, ⟨_, SqL.of hcp⟩, fun D2 hD2 => lc_list (K := K) (a := ckp) (xs := cxs) (fun i H' => H' D2 = some (.lst (((cs.take i).map fun c => (c.length : Int)).map V.int)) ∧ Ex H7 H')
      ⟨by rw [List.take_zero]; exact upd_same, Ex.new hD2⟩ (fun i H' _ ⟨_, e⟩ => SqL.of (e _ _ hcp)) ?_ ?_⟩
    · rintro i y H8 hi ⟨h8, e8⟩
      obtain ⟨c, hc, hit⟩ := hcts.get hi
      obtain ⟨ct, rfl, hct⟩ := hit.ex e8
      refine ⟨rfl, lc_yes ?_⟩
      refine ⟨_, rfl, ct, _, rfl, .inr (SqT.of hct), _, h8, ?_, ?_, e8.mut hD2⟩
      · rw [List.length_map, List.length_map, List.length_take]
        exact small1000 (by omega)
      · rw [upd_same, take_snoc hc, iv_len, List.map_append, List.map_append]
        rfl
    rintro H8 ⟨h8, e8⟩
    rw [hcxl, List.take_length] at h8
    refine ⟨D2, _, rfl, SqL.of h8, ?_⟩
    rw [lens_sum]
    have e58 := e57.trans e8
    -- ring
    refine ⟨_, rfl, v, n, cs, rfl, hcode.ex e58, hg, by omega, by omega, fun r H9 e9 hr9 => ?_⟩
    have e59 := e58.trans e9
    have hlxl := hlts.1
    have hck9 : CkL H9 (.ref ckp) cs := ⟨ckp, cxs, rfl, (e8.trans e9) _ _ hcp, hcts.ex (e8.trans e9)⟩
    have key : decide (r = V.non) = decide (V.int (lens cs : Int) = V.int ((n : Int) + (cxs.length : Int) - (lxs.length : Int))) := by
      rcases hr9 with ⟨rfl, hnd⟩ | ⟨R, j, ⟨ra, rfl, _⟩, hdup, _, _⟩
      · have hcnt := count_none hg hnd
        rw [decide_eq_true rfl, decide_eq_true (by congr 1; omega)]
      · have hcnt := count_ring hg hdup
        rw [decide_eq_false (fun z => nomatch z), decide_eq_false (fun z => by injection z with z; omega)]
    refine ⟨_, rfl, rfl, _, rfl, _, rfl, _, rfl, ckp, _, rfl, .inl (SqL.of ((e8.trans e9) _ _ hcp)), _, _, rfl, rfl, _, rfl, lp, _, rfl, .inl (SqL.of (e59 _ _ hlp)), _, _, rfl, rfl, rfl, rfl, _, rfl, ?_⟩
    rw [key, decide_eq_true (rfl : V.bl (decide (V.int (lens cs : Int) = V.int ((n : Int) + (cxs.length : Int) - (lxs.length : Int)))) = V.bl (decide (V.int (lens cs : Int) = V.int ((n : Int) + (cxs.length : Int) - (lxs.length : Int)))))]
    refine iteF ?_
    -- the walks
    refine ⟨_, rfl, _, rfl, ha, (n : Int), rfl, by omega, by omega, hh.ex e59, fun w1 H10 _ _ e10 => ⟨_, rfl, _, rfl, ha, (n : Int), rfl, by omega, by omega, hh.ex (e59.trans e10), fun w2 H11 _ _ e11 => ⟨by show 4 ≤ sizeLine; decide, fun l1 hl1 => ⟨Nat.zero_le _, fun l2 hl2 => ⟨by show 2 ≤ sizeLine; decide, fun l3 hl3 => ⟨by show 3 ≤ sizeLine; decide, fun wl hwl => ?_⟩⟩⟩⟩⟩⟩
    have x1 := Ex.new (o := .lst [V.int w1, .int 0, .int w2, .int 1]) hl1
    have x2 := Ex.new (o := .lst []) hl2
    have x3 := Ex.new (o := .lst [V.int 0, .int 0]) hl3
    have x4 := Ex.new (o := .lst [V.ref l1, .ref l2, .ref l3]) hwl
    have k1 : (upd H11 l1 (.lst [V.int w1, .int 0, .int w2, .int 1])) l1 = some (.lst [V.int w1, .int 0, .int w2, .int 1]) := upd_same
    generalize upd H11 l1 (.lst [V.int w1, .int 0, .int w2, .int 1]) = H12 at *
    have k2 : (upd H12 l2 (.lst [])) l2 = some (.lst []) := upd_same
    generalize upd H12 l2 (.lst []) = H13 at *
    have k3 : (upd H13 l3 (.lst [V.int 0, .int 0])) l3 = some (.lst [V.int 0, .int 0]) := upd_same
    generalize upd H13 l3 (.lst [V.int 0, .int 0]) = H14 at *
    have k4 : (upd H14 wl (.lst [V.ref l1, .ref l2, .ref l3])) wl = some (.lst [V.ref l1, .ref l2, .ref l3]) := upd_same
    generalize upd H14 wl (.lst [V.ref l1, .ref l2, .ref l3]) = H15 at *
    have O : OutOk H15 wl 100 [V.ref l1, .ref l2, .ref l3] := by
      refine ⟨k4, fun y hy => ?_⟩
      simp only [List.mem_cons, List.not_mem_nil, or_false] at hy
      rcases hy with rfl | rfl | rfl
      · refine ⟨l1, _, rfl, ((x2.trans x3).trans x4) _ _ k1, fun x hx => ?_, by show 4 ≤ 100; decide⟩
        simp only [List.mem_cons, List.not_mem_nil, or_false] at hx
        rcases hx with rfl | rfl | rfl | rfl <;> exact .int _
      · exact ⟨l2, _, rfl, (x3.trans x4) _ _ k2, fun x hx => absurd hx (by simp), Nat.zero_le _⟩
      · refine ⟨l3, _, rfl, x4 _ _ k3, fun x hx => ?_, by show 2 ≤ 100; decide⟩
        simp only [List.mem_cons, List.not_mem_nil, or_false] at hx
        rcases hx with rfl | rfl <;> exact .int _
    have e915 := ((((e10.trans e11).trans x1).trans x2).trans x3).trans x4
    clear k1 k2 k3 k4 x1 x2 x3 x4 hl1 hl2 hl3 hwl
    have hcode9 := hcode.ex e59
    have hh9 := hh.ex e59
    have htt9 := htt.ex e59
    clear e59
    refine ⟨fun σ H' => ∃ (wl : Addr) (ys : List V), σ = [some (.ref a), some (.ref ha), some (.int (n : Int)), some (.ref ckp), some v, some (.ref lp), some (.ref ut), none, some (.int (lens cs : Int)), none, some r, some (.ref wl), none, none] ∧ OutOk H' wl 100 ys ∧ Ex H9 H', ?_, ?_⟩
    · refine ⟨_, rfl, rfl, _, rfl, ?_⟩
      rcases hr9 with ⟨rfl, hnd⟩ | ⟨R, j, hIT, hdup, hR, h30⟩
      · exact iteF ⟨wl, _, rfl, O, e915⟩
      · obtain ⟨ra, rfl, hra⟩ := id hIT
        have hnone := ring_none hR
        have hscR : ∀ x, x ∈ iv R → Sc x := fun x hx => by
          obtain ⟨z, _, rfl⟩ := List.mem_map.mp hx
          exact .int _
        have hR100 : (iv R).length ≤ 100 := by rw [iv_len]; omega
        refine iteT ?_
        refine ⟨_, rfl, _, _, _, _, true, rfl, .ty "tuple", .base (.tup (e915 _ _ hra)), kit_ty (by decide +kernel), true, rfl, iteF ?_⟩
        refine ⟨_, rfl, _, rfl, _, rfl, ra, iv R, rfl, .inr (SqT.of (e915 _ _ hra)), fun l hl => ?_⟩
        have e16 := e915.trans (Ex.new (o := .lst (iv R)) hl)
        refine ⟨n, .ref ckp, cs, l, iv R, rfl, hck9.ex e16, by omega, by omega, upd_same, hscR, hR100, fun H17 e17 => ?_⟩
        rw [hnone]
        have e917 := e16.trans e17
        refine ⟨rfl, _, rfl, iteF ?_⟩
        refine ⟨_, rfl, _, rfl, v, .ref ra, n, cs, rfl, hcode9.ex e917, hg, by omega, by omega, .inr ⟨ra, iv R, rfl, .inr (e917 _ _ hra), hscR, hR100, fun H18 e18 => ?_⟩⟩
        rw [hnone]
        have e918 := e917.trans e18
        refine ⟨rfl, _, rfl, iteF ?_⟩
        refine ⟨_, rfl, _, rfl, _, rfl, _, rfl, _, rfl, ha, (n : Int), .ref ckp, .ref ra, cs, R, rfl, hh9.ex e918, hck9.ex e918, hIT.ex e918, hR.len.1, h30, fun o ys H19 e19 hO hy7 => ?_⟩
        have O19 := O.ex ((((Ex.new (o := .lst (iv R)) hl).trans e17).trans e18).trans e19)
        refine ⟨wl, o, _, _, rfl, rfl, O19.1, hO.1, by rw [hy7]; show 10 ≤ sizeLine; decide, fun z hz => ?_⟩
        refine ⟨z, _, rfl, ⟨upd_same, fun y hy => ?_⟩, (e918.trans e19).trans (Ex.new hz)⟩
        rcases List.mem_append.mp hy with hy | hy
        · exact (O19.2 y hy).ex (Ex.new hz)
        · exact (hO.2 y hy).ex (Ex.new hz)
    · rintro σ H16 ⟨wl, ys, rfl, O, e916⟩
      refine ⟨_, rfl, wl, rfl, ⟨_, SqL.of O.1⟩, for_list (K := K) (a := wl) (xs := ys) (fun i σ H' => ∃ o12 : Option V, σ = [some (.ref a), some (.ref ha), some (.int (n : Int)), some (.ref ckp), some v, some (.ref lp), some (.ref ut), none, some (.int (lens cs : Int)), none, some r, some (.ref wl), o12, none] ∧ Ex H16 H')
        ⟨_, rfl, Ex.refl _⟩ (fun i σ H' _ ⟨_, _, e⟩ => SqL.of (e _ _ O.1)) ?_ ?_⟩
      · rintro i x σ H17 hi ⟨o12, rfl, e17⟩
        obtain ⟨c, rs, rfl, hc, hs, hl⟩ := O.2 _ (List.mem_of_getElem? hi)
        have e917 := e916.trans e17
        refine ⟨_, rfl, _, rfl, _, rfl, _, rfl, v, n, .ref ckp, cs, c, rs, rfl, hcode9.ex e917, hck9.ex e917, hg, by omega, by omega, e17 _ _ hc, hs, hl, fun H18 e18 => ⟨_, rfl, iteF ?_⟩⟩
        exact ⟨_, rfl, e17.trans e18⟩
      · rintro σ H17 ⟨o12, rfl, e17⟩
        refine ⟨by show 3 ≤ sizeLine; decide, fun tp htp => ?_⟩
        have e18 := (e916.trans e17).trans (Ex.new (o := .tup [.non, .str "0011", .int 7]) htp)
        have ktp : (upd H17 tp (.tup [.non, .str "0011", .int 7])) tp = some (.tup [.non, .str "0011", .int 7]) := upd_same
        generalize upd H17 tp (.tup [.non, .str "0011", .int 7]) = H18 at *
        refine ⟨tp, rfl, ⟨_, SqT.of ktp⟩, for_tup (K := K) (a := tp) (xs := [.non, .str "0011", .int 7]) (fun i σ H' => ∃ o13 : Option V, σ = [some (.ref a), some (.ref ha), some (.int (n : Int)), some (.ref ckp), some v, some (.ref lp), some (.ref ut), none, some (.int (lens cs : Int)), none, some r, some (.ref wl), o12, o13] ∧ Ex H18 H')
          ⟨_, rfl, Ex.refl _⟩ (fun i σ H' _ ⟨_, _, e⟩ => SqT.of (e _ _ ktp)) ?_ ?_⟩
        · rintro i x σ H19 hi ⟨o13, rfl, e19⟩
          have hx := List.mem_of_getElem? hi
          have hsq : Sq H19 x false := by
            simp only [List.mem_cons, List.not_mem_nil, or_false] at hx
            rcases hx with rfl | rfl | rfl
            · exact .non
            · exact .str _
            · exact .int _
          refine ⟨_, rfl, _, rfl, v, x, n, cs, rfl, hcode9.ex (e18.trans e19), hg, by omega, by omega, .inl ⟨hsq, fun H20 e20 => ⟨rfl, _, rfl, iteF ?_⟩⟩⟩
          exact ⟨_, rfl, e19.trans e20⟩
        · rintro σ H19 ⟨o13, rfl, e19⟩
          refine ⟨_, rfl, v, n, cs, rfl, hcode9.ex (e18.trans e19), hg, by omega, by omega, fun u' H20 e20 htt' => ?_⟩
          obtain ⟨ut', uxs', rfl, hut', huts'⟩ := htt'
          obtain ⟨ut2, uxs2, e2, hut2, huts2⟩ := htt9.ex ((e18.trans e19).trans e20)
          refine ⟨_, rfl, .tuple ((pieces n cs).map dT), .tuple ((pieces n cs).map dT), .tup (SqT.of hut') huts'.dp, by rw [e2]; exact .tup (SqT.of hut2) huts2.dp, shaped_tuple _, shaped_tuple _, ?_⟩
          rw [refl_tuple]
          exact q _
end
end Kd

namespace Kd
open PySem PySem.Spec PyProof.Rows L2 Evl Km Kr Kb Kc
/-- a def of the module, as the top has left it -/
def Has (K : PySem.W.Frag) (mg : Str → Option Value) (x : Str) (st : Stmt) : Prop := ∃ (f : Addr) (fd : FuncData), mg x = some (.ref f) ∧ Fun K x x st f fd
theorem has_mk {K : PySem.W.Frag} {h : Heap} {mg : Str → Option Value} {x : Str} {st : Stmt} {f : Addr} {oc : Value} {od an : Option Addr} {osl : Array (Option Value)} {kV doc pm cdv ct : Value} (X : K.In h) (G : h.Ns mainGlobals mg)
    (a : PySem.W.nsIn K mainGlobals x = some (some (.ref f))) (l : K.lookup f = some ⟨oc, od, .func (PySem.W.fnOf x x (defArgs st) (defBody st) (defScope st) .none kV doc pm an cdv ct), osl⟩)
    (c : PySem.W.codeIn K cdv x = true) (k : PySem.W.keepIn K (.ref f) = true) : Has K mg x st := ⟨f, _, PySem.W.mg_of X G a, fun_mk l c k⟩
/-- the one with defaults -/
def HasD (K : PySem.W.Frag) (mg : Str → Option Value) (x : Str) (st : Stmt) : Prop := ∃ (f : Addr) (fd : FuncData), mg x = some (.ref f) ∧ FunD K x x (defArgs st) (defBody st) (defScope st) [.non, .non] [] f fd
theorem hasd_mk {K : PySem.W.Frag} {h : Heap} {mg : Str → Option Value} {x : Str} {st : Stmt} {f T : Addr} {oc oc2 : Value} {od an od2 : Option Addr} {osl osl2 : Array (Option Value)} {kV doc pm cdv ct : Value} {n2 : Nat} {its : Array Value} (X : K.In h) (G : h.Ns mainGlobals mg)
    (a : PySem.W.nsIn K mainGlobals x = some (some (.ref f))) (l : K.lookup f = some ⟨oc, od, .func (PySem.W.fnOf x x (defArgs st) (defBody st) (defScope st) (.ref T) kV doc pm an cdv ct), osl⟩)
    (c : PySem.W.codeIn K cdv x = true) (k : PySem.W.keepIn K (.ref f) = true) (d : K.lookup T = some ⟨oc2, od2, .seq its n2, osl2⟩) (r : Vals [.non, .non] its.toList) : HasD K mg x st :=
  ⟨f, _, PySem.W.mg_of X G a, ⟨⟨oc, od, .ref T, kV, doc, pm, an, cdv, ct, osl, rfl, l, c, .inr ⟨List.cons_ne_nil _ _, T, _, its.toList, n2, rfl, d, by simp, r⟩, .inl rfl⟩, k⟩⟩
/-- the class's first method -/
def HasI (K : PySem.W.Frag) (C f : Addr) : Prop := ∃ fd : FuncData, PySem.W.findIn K (.ref C) "__init__" = some (some (.ref f)) ∧ PySem.W.isFn K (.ref f) = true ∧ Fun K "__init__" "Code.__init__" s_Code_init f fd
theorem hasi_mk {K : PySem.W.Frag} {C f : Addr} {oc : Value} {od an : Option Addr} {osl : Array (Option Value)} {kV doc pm cdv ct : Value}
    (a : PySem.W.findIn K (.ref C) "__init__" = some (some (.ref f))) (i : PySem.W.isFn K (.ref f) = true) (l : K.lookup f = some ⟨oc, od, .func (PySem.W.fnOf "__init__" "Code.__init__" (defArgs s_Code_init) (defBody s_Code_init) (defScope s_Code_init) .none kV doc pm an cdv ct), osl⟩)
    (c : PySem.W.codeIn K cdv "Code.__init__" = true) (k : PySem.W.keepIn K (.ref f) = true) : HasI K C f := ⟨_, a, i, fun_mk l c k⟩
/-- the class, the two numbers -/
structure HasC (K : PySem.W.Frag) (mg : Str → Option Value) (C : Addr) : Prop where
  at_ : mg "Code" = some (.ref C)
  cl : Cls K C
  nB : NoAttr K C "bits"
  nC : NoAttr K C "checks"
  mks : PySem.W.makesIn K C = true
  kp : PySem.W.keepIn K (.ref C) = true
theorem hasc_mk {K : PySem.W.Frag} {h : Heap} {mg : Str → Option Value} {C : Addr} (X : K.In h) (G : h.Ns mainGlobals mg) (a : PySem.W.nsIn K mainGlobals "Code" = some (some (.ref C)))
    (pg : PySem.W.plainGet K C Str.empty = true) (hd : PySem.W.hasDictIn K C = true) (po : PySem.W.plainOver K C = true) (sa : PySem.W.findIn K (.ref C) "__setattr__" = some (some (.builtin "object.__setattr__")))
    (nB : PySem.W.findIn K (.ref C) "bits" = some none) (nC : PySem.W.findIn K (.ref C) "checks" = some none) (mk : PySem.W.makesIn K C = true) (kc : PySem.W.keepIn K (.ref C) = true) : HasC K mg C :=
  ⟨PySem.W.mg_of X G a, ⟨pg, hd, po, sa⟩, nB, nC, mk, kc⟩
theorem hasci_mk {K : PySem.W.Frag} {h : Heap} {mg : Str → Option Value} {C f : Addr} {oc : Value} {od an : Option Addr} {osl : Array (Option Value)} {kV doc pm cdv ct : Value} (X : K.In h) (G : h.Ns mainGlobals mg) (aC : PySem.W.nsIn K mainGlobals "Code" = some (some (.ref C)))
    (pg : PySem.W.plainGet K C Str.empty = true) (hd : PySem.W.hasDictIn K C = true) (po : PySem.W.plainOver K C = true) (sa : PySem.W.findIn K (.ref C) "__setattr__" = some (some (.builtin "object.__setattr__")))
    (nB : PySem.W.findIn K (.ref C) "bits" = some none) (nC : PySem.W.findIn K (.ref C) "checks" = some none) (mk : PySem.W.makesIn K C = true) (kc : PySem.W.keepIn K (.ref C) = true)
    (a : PySem.W.findIn K (.ref C) "__init__" = some (some (.ref f))) (i : PySem.W.isFn K (.ref f) = true) (l : K.lookup f = some ⟨oc, od, .func (PySem.W.fnOf "__init__" "Code.__init__" (defArgs s_Code_init) (defBody s_Code_init) (defScope s_Code_init) .none kV doc pm an cdv ct), osl⟩)
    (c : PySem.W.codeIn K cdv "Code.__init__" = true) (k : PySem.W.keepIn K (.ref f) = true) : ∃ C fI : Addr, HasC K mg C ∧ HasI K C fI := ⟨C, f, hasc_mk X G aC pg hd po sa nB nC mk kc, hasi_mk a i l c k⟩
/-- the names that the module leaves to the language -/
structure HasZ (mg : Str → Option Value) : Prop where
  zlen : mg "len" = none
  zisinstance : mg "isinstance" = none
  zmin : mg "min" = none
  zmax : mg "max" = none
  zsum : mg "sum" = none
  zany : mg "any" = none
  zall : mg "all" = none
  zsorted : mg "sorted" = none
  zabs : mg "abs" = none
  zint : mg "int" = none
  zlist : mg "list" = none
  ztuple : mg "tuple" = none
  zset : mg "set" = none
  zbool : mg "bool" = none
  zstr : mg "str" = none
  zrange : mg "range" = none
  zenumerate : mg "enumerate" = none
  zreversed : mg "reversed" = none
  cMOST_BITS : ∃ t, mg "MOST_BITS" = some (.int 10 t)
  cMOST_CHECKS : ∃ t, mg "MOST_CHECKS" = some (.int 63 t)
section
variable {P : Program} {w : World} {K : PySem.W.Frag} {mg : Str → Option Value} {base : Heap} {C fI : Addr}
theorem cal_mk {x : Str} {st : Stmt} {f : Addr} {fd : FuncData} {k : Nat} {ps : List Str} {sp : Sp} (F : Fun K x x st f fd) (m : mg x = some (.ref f)) (G : FnOk P w K mg base CX0 k f fd ps sp)
    (b : ∀ (kV doc pm : Value) (an : Option Addr) (cdv ct : Value) (us : List Value), us.length = ps.length → bindArgs (PySem.W.fnOf x x (defArgs st) (defBody st) (defScope st) .none kV doc pm an cdv ct) ⟨us, []⟩ = pure (ps.zip us)) : Cal P w K mg base x k ps sp :=
  ⟨f, fd, G, m, F.kp, F.binds b⟩
theorem law_fin {fa : Addr} (hmg : mg "law" = some (.ref fa)) (Z : HasZ mg) (hCI : ∃ C fI : Addr, HasC K mg C ∧ HasI K C fI) (h_is_whole : HasD K mg "is_whole" s_is_whole)
    (h_is_sequence : Has K mg "is_sequence" s_is_sequence) (h_code_pieces : Has K mg "code_pieces" s_code_pieces) (h_path_between : Has K mg "path_between" s_path_between) (h_web_ring : Has K mg "web_ring" s_web_ring) (h_ring_fault : Has K mg "ring_fault" s_ring_fault)
    (h_lot_of : Has K mg "lot_of" s_lot_of) (h_stir : Has K mg "_law_stir" s__law_stir) (h_hand : Has K mg "_law_hand" s__law_hand) (h_draw : Has K mg "_law_draw" s__law_draw) (h_lwhole : Has K mg "_law_whole" s__law_whole) (h_wholes : Has K mg "_law_wholes" s__law_wholes)
    (h_lot : Has K mg "_law_lot" s__law_lot) (h_free : Has K mg "_law_free_checks" s__law_free_checks) (h_tie : Has K mg "_law_tie_checks" s__law_tie_checks) (h_ringless : Has K mg "_law_ringless_checks" s__law_ringless_checks) (h_code : Has K mg "_law_code" s__law_code)
    (h_made : Has K mg "_law_made" s__law_made) (h_pieces : Has K mg "_law_pieces" s__law_pieces) (h_fault : Has K mg "_law_fault" s__law_fault) (h_judged : Has K mg "_law_judged" s__law_judged) (h_spoilt : Has K mg "_law_spoilt_rings" s__law_spoilt_rings) (h_law : Has K mg "law" s_law) :
    ∃ fd : FuncData, (∀ (s : Shared) (u : Value), BindsTo s fd ⟨[u], []⟩ [("_law_script", u)]) ∧ ∀ base : Heap, FnOk P w K mg base CX0 6 fa fd ["_law_script"] (spLaw K) := by
  obtain ⟨fl, fdl, ml, Fl⟩ := h_law
  have e := hmg.symm.trans ml
  cases e
  refine ⟨fdl, fun s u => ?_, fun base => ?_⟩
  · obtain ⟨oc, od, kV, doc, pm, an, cdv, ct, osl, rfl, lk, hcd⟩ := Fl.ex
    exact .of_eq rfl
  obtain ⟨C, fI, hC, fdI, aI, iI, FI⟩ := hCI
  have B : Bt K mg C fI := ⟨Z.zlen, Z.zisinstance, Z.zmin, Z.zmax, Z.zsum, Z.zany, Z.zall, Z.zsorted, Z.zabs, Z.zint, Z.zlist, Z.ztuple, Z.zset, Z.zbool, Z.zstr, Z.zrange, Z.zenumerate, Z.zreversed, Z.cMOST_BITS, Z.cMOST_CHECKS, hC.at_, hC.cl, hC.nB, hC.nC, ⟨hC.mks, aI, iI, hC.kp⟩⟩
  obtain ⟨f0, fd0, m0, F0⟩ := h_is_whole
  have c_is_whole : Cal P w K mg base "is_whole" 1 ["thing", "low", "high"] spWhole := by
    obtain ⟨ds, v, b⟩ := F0.binds1 (ps := ["thing", "low", "high"]) 3 2 (List.cons_ne_nil _ _) rfl fun T kV doc pm an cdv ct us its h1 h2 => match us, its, h1, h2 with | [_, _, _], [_, _], _, _ => ⟨_, rfl, rfl⟩
    cases v
    exact ⟨f0, fd0, ok_is_whole F0 B, m0, F0.kp, b⟩
  obtain ⟨f1, fd1, m1, F1⟩ := h_is_sequence
  have c_is_sequence : Cal P w K mg base "is_sequence" 1 ["thing"] spIsSeq := cal_mk F1 m1 (ok_is_sequence F1 B) fun _ _ _ _ _ _ us hl => match us, hl with | [_], _ => rfl
  obtain ⟨f2, fd2, m2, F2⟩ := h_code_pieces
  have c_code_pieces : Cal P w K mg base "code_pieces" 1 ["code"] (spPieces C) := cal_mk F2 m2 (ok_code_pieces F2 B) fun _ _ _ _ _ _ us hl => match us, hl with | [_], _ => rfl
  obtain ⟨f3, fd3, m3, F3⟩ := h_path_between
  have c_path_between : Cal P w K mg base "path_between" 1 ["code", "many", "start", "goal"] (spPath C) := cal_mk F3 m3 (ok_path_between F3 B) fun _ _ _ _ _ _ us hl => match us, hl with | [_, _, _, _], _ => rfl
  obtain ⟨f4, fd4, m4, F4⟩ := h_web_ring
  have c_web_ring : Cal P w K mg base "web_ring" 2 ["code"] (spWeb C) := cal_mk F4 m4 (ok_web_ring F4 B c_path_between) fun _ _ _ _ _ _ us hl => match us, hl with | [_], _ => rfl
  obtain ⟨f5, fd5, m5, F5⟩ := h_ring_fault
  have c_ring_fault : Cal P w K mg base "ring_fault" 2 ["code", "ring"] (spRing C) := cal_mk F5 m5 (ok_ring_fault F5 B c_is_sequence c_is_whole) fun _ _ _ _ _ _ us hl => match us, hl with | [_, _], _ => rfl
  obtain ⟨f6, fd6, m6, F6⟩ := h_lot_of
  have c_lot_of : Cal P w K mg base "lot_of" 2 ["bits", "things"] spLotOf := cal_mk F6 m6 (ok_lot_of F6 B c_is_sequence c_is_whole) fun _ _ _ _ _ _ us hl => match us, hl with | [_, _], _ => rfl
  obtain ⟨f7, fd7, m7, F7⟩ := h_stir
  have c__law_stir : Cal P w K mg base "_law_stir" 1 ["_law_number", "_law_turn"] spStir := cal_mk F7 m7 (ok_law_stir F7 B) fun _ _ _ _ _ _ us hl => match us, hl with | [_, _], _ => rfl
  obtain ⟨f8, fd8, m8, F8⟩ := h_hand
  have c__law_hand : Cal P w K mg base "_law_hand" 1 ["_law_script"] (spHand K) := cal_mk F8 m8 (hand_shut (ok_law_hand F8 B) rfl) fun _ _ _ _ _ _ us hl => match us, hl with | [_], _ => rfl
  obtain ⟨f9, fd9, m9, F9⟩ := h_draw
  have c__law_draw : Cal P w K mg base "_law_draw" 2 ["_law_hand_here", "_law_many"] spDraw := cal_mk F9 m9 (draw_shut (ok_law_draw F9 B c__law_stir) rfl) fun _ _ _ _ _ _ us hl => match us, hl with | [_, _], _ => rfl
  obtain ⟨f10, fd10, m10, F10⟩ := h_lwhole
  have c__law_whole : Cal P w K mg base "_law_whole" 1 ["_law_thing"] spLWhole := cal_mk F10 m10 (ok_law_whole F10 B) fun _ _ _ _ _ _ us hl => match us, hl with | [_], _ => rfl
  obtain ⟨f11, fd11, m11, F11⟩ := h_wholes
  have c__law_wholes : Cal P w K mg base "_law_wholes" 2 ["_law_thing", "_law_many"] spWholes := cal_mk F11 m11 (ok_law_wholes F11 B c__law_whole) fun _ _ _ _ _ _ us hl => match us, hl with | [_, _], _ => rfl
  obtain ⟨f12, fd12, m12, F12⟩ := h_lot
  have c__law_lot : Cal P w K mg base "_law_lot" 3 ["_law_hand_here", "_law_bits", "_law_size"] spLot := cal_mk F12 m12 (ok_law_lot F12 B c__law_draw) fun _ _ _ _ _ _ us hl => match us, hl with | [_, _, _], _ => rfl
  obtain ⟨f13, fd13, m13, F13⟩ := h_free
  have c__law_free_checks : Cal P w K mg base "_law_free_checks" 4 ["_law_hand_here", "_law_bits", "_law_many", "_law_widest"] spFree := cal_mk F13 m13 (ok_law_free_checks F13 B c__law_draw c__law_lot) fun _ _ _ _ _ _ us hl => match us, hl with | [_, _, _, _], _ => rfl
  obtain ⟨f14, fd14, m14, F14⟩ := h_tie
  have c__law_tie_checks : Cal P w K mg base "_law_tie_checks" 3 ["_law_hand_here", "_law_bits", "_law_posts"] spTie := cal_mk F14 m14 (ok_law_tie_checks F14 B c__law_draw) fun _ _ _ _ _ _ us hl => match us, hl with | [_, _, _], _ => rfl
  obtain ⟨f15, fd15, m15, F15⟩ := h_ringless
  have c__law_ringless_checks : Cal P w K mg base "_law_ringless_checks" 3 ["_law_hand_here", "_law_bits", "_law_widest"] spRingless := cal_mk F15 m15 (ok_law_ringless_checks F15 B c__law_draw) fun _ _ _ _ _ _ us hl => match us, hl with | [_, _, _], _ => rfl
  obtain ⟨f16, fd16, m16, F16⟩ := h_code
  have c__law_code : Cal P w K mg base "_law_code" 5 ["_law_hand_here", "_law_low", "_law_high", "_law_widest"] spLCode := cal_mk F16 m16 (ok_law_code F16 B c__law_draw c__law_free_checks c__law_tie_checks c__law_ringless_checks) fun _ _ _ _ _ _ us hl => match us, hl with | [_, _, _, _], _ => rfl
  obtain ⟨f17, fd17, m17, F17⟩ := h_made
  have bI : Binds K fdI ["self", "bits", "checks"] [] := FI.binds fun _ _ _ _ _ _ us hl => match us, hl with | [_, _, _], _ => rfl
  have c__law_made : Cal P w K mg base "_law_made" 5 ["_law_bits", "_law_checks"] (spMade C) := cal_mk F17 m17 (ok_law_made F17 B (ok_init FI B c_is_sequence c_is_whole c_lot_of) bI) fun _ _ _ _ _ _ us hl => match us, hl with | [_, _], _ => rfl
  obtain ⟨f18, fd18, m18, F18⟩ := h_pieces
  have c__law_pieces : Cal P w K mg base "_law_pieces" 1 ["_law_bits", "_law_checks"] spLPieces := cal_mk F18 m18 (ok_law_pieces F18 B) fun _ _ _ _ _ _ us hl => match us, hl with | [_, _], _ => rfl
  obtain ⟨f19, fd19, m19, F19⟩ := h_fault
  have c__law_fault : Cal P w K mg base "_law_fault" 2 ["_law_bits", "_law_checks", "_law_ring"] spFault := cal_mk F19 m19 (ok_law_fault F19 B c__law_whole) fun _ _ _ _ _ _ us hl => match us, hl with | [_, _, _], _ => rfl
  obtain ⟨f20, fd20, m20, F20⟩ := h_judged
  have c__law_judged : Cal P w K mg base "_law_judged" 3 ["_law_code_here", "_law_bits", "_law_checks", "_law_ring"] (spJudged C) := cal_mk F20 m20 (ok_law_judged F20 B c_ring_fault c__law_fault) fun _ _ _ _ _ _ us hl => match us, hl with | [_, _, _, _], _ => rfl
  obtain ⟨f21, fd21, m21, F21⟩ := h_spoilt
  have c__law_spoilt_rings : Cal P w K mg base "_law_spoilt_rings" 3 ["_law_hand_here", "_law_bits", "_law_checks", "_law_ring"] spSpoilt := cal_mk F21 m21 (ok_law_spoilt_rings F21 B c__law_draw) fun _ _ _ _ _ _ us hl => match us, hl with | [_, _, _, _], _ => rfl
  exact ok_law Fl B c__law_hand c__law_code c__law_made c__law_pieces c_code_pieces c__law_wholes c_web_ring c__law_draw c__law_fault c_ring_fault c__law_spoilt_rings c__law_judged
end
theorem law_walk {l : PySem.W.OpenLaw} {q : Program} {loose : List Str} {XP : (Str → Option Value) → Heap → Prop} {YP : World → Heap → Prop} {d : DefRec} {K : Params → PySem.W.Frag} (hn : l.most = some 63) (hdf : d.params.defaults = [])
    (hY : ∀ (w : World) (h : Heap), YP w h → (K w.params).In h)
    (F : ∀ (w : World) (mg : Str → Option Value) (fa : Addr) (h : Heap), (K w.params).In h → h.Ns mainGlobals mg → mg d.name = some (.ref fa) →
      ∃ fd : FuncData, (∀ (s : Shared) (u : Value), BindsTo s fd ⟨[u], []⟩ [("_law_script", u)]) ∧ ∀ base : Heap, FnOk l.prog w (K w.params) mg base CX0 6 fa fd ["_law_script"] (spLaw (K w.params))) :
    PySem.W.WalkO q loose XP YP l.row.toRowW d [] (fun f vs => PySem.call f vs) :=
  L2.walk_of (n := 63) (k := 6) (x := "_law_script") (CX := fun _ => CX0) (sp := fun w => spLaw (K w.params)) hn (by decide) hdf ⟨rfl, by decide, by decide⟩ hY (fun w mg fa h a b c => let ⟨fd, p, q⟩ := F w mg fa h a b c; ⟨fd, p, fun base _ _ => q base⟩) (fun _ _ a ns hl _ hS => ⟨a, ns, rfl, hS, hl, fun _ => rfl⟩) fun _ _ _ _ _ z => z
end Kd

open PySem PySem.W PyProof.Rows L2 in
set_option maxRecDepth 100000 in
set_option maxHeartbeats 0 in
theorem PySem.Challenge.cw_letbychecks_k80_whole_pieces_and_rings_o_holds : PySem.Challenge.rw_letbychecks_k80_whole_pieces_and_rings_o.Holds := by
  w_on; o_law; k_head; (case hw => w_witness2)
  k_fill
  refine Kd.law_walk (l := PySem.Challenge.rw_letbychecks_k80_whole_pieces_and_rings_o) rfl rfl (fun w h Y => PySem.W.kIn_of Y) ?F
  case F =>
    intro w mg fa h KX G hmg
    refine' Kd.law_fin hmg ?Z ?hCI ?h0 ?h1 ?h2 ?h3 ?h4 ?h5 ?h6 ?h7 ?h8 ?h9 ?h10 ?h11 ?h12 ?h13 ?h14 ?h15 ?h16 ?h17 ?h18 ?h19 ?h20 ?h21 ?h22
    case hCI => exact Kd.hasci_mk KX G (by k_is) (by k_is) (by k_is) (by k_is) (by k_is) (by k_is) (by k_is) (by k_is) (by k_is) (by k_is) (by k_is) (by k_is) (by k_is) (by k_is)
    case h0 => exact Kd.hasd_mk KX G (by k_is) (by k_is) (by k_is) (by k_is) (by k_is) (.cons rfl (.cons rfl .nil))
    case h1 => exact Kd.has_mk KX G (by k_is) (by k_is) (by k_is) (by k_is)
    case h2 => exact Kd.has_mk KX G (by k_is) (by k_is) (by k_is) (by k_is)
    case h3 => exact Kd.has_mk KX G (by k_is) (by k_is) (by k_is) (by k_is)
    case h4 => exact Kd.has_mk KX G (by k_is) (by k_is) (by k_is) (by k_is)
    case h5 => exact Kd.has_mk KX G (by k_is) (by k_is) (by k_is) (by k_is)
    case h6 => exact Kd.has_mk KX G (by k_is) (by k_is) (by k_is) (by k_is)
    case h7 => exact Kd.has_mk KX G (by k_is) (by k_is) (by k_is) (by k_is)
    case h8 => exact Kd.has_mk KX G (by k_is) (by k_is) (by k_is) (by k_is)
    case h9 => exact Kd.has_mk KX G (by k_is) (by k_is) (by k_is) (by k_is)
    case h10 => exact Kd.has_mk KX G (by k_is) (by k_is) (by k_is) (by k_is)
    case h11 => exact Kd.has_mk KX G (by k_is) (by k_is) (by k_is) (by k_is)
    case h12 => exact Kd.has_mk KX G (by k_is) (by k_is) (by k_is) (by k_is)
    case h13 => exact Kd.has_mk KX G (by k_is) (by k_is) (by k_is) (by k_is)
    case h14 => exact Kd.has_mk KX G (by k_is) (by k_is) (by k_is) (by k_is)
    case h15 => exact Kd.has_mk KX G (by k_is) (by k_is) (by k_is) (by k_is)
    case h16 => exact Kd.has_mk KX G (by k_is) (by k_is) (by k_is) (by k_is)
    case h17 => exact Kd.has_mk KX G (by k_is) (by k_is) (by k_is) (by k_is)
    case h18 => exact Kd.has_mk KX G (by k_is) (by k_is) (by k_is) (by k_is)
    case h19 => exact Kd.has_mk KX G (by k_is) (by k_is) (by k_is) (by k_is)
    case h20 => exact Kd.has_mk KX G (by k_is) (by k_is) (by k_is) (by k_is)
    case h21 => exact Kd.has_mk KX G (by k_is) (by k_is) (by k_is) (by k_is)
    case h22 => exact Kd.has_mk KX G (by k_is) (by k_is) (by k_is) (by k_is)
    case Z => exact ⟨PySem.W.mg_none_of KX G (by k_is), PySem.W.mg_none_of KX G (by k_is), PySem.W.mg_none_of KX G (by k_is), PySem.W.mg_none_of KX G (by k_is), PySem.W.mg_none_of KX G (by k_is), PySem.W.mg_none_of KX G (by k_is), PySem.W.mg_none_of KX G (by k_is), PySem.W.mg_none_of KX G (by k_is), PySem.W.mg_none_of KX G (by k_is), PySem.W.mg_none_of KX G (by k_is), PySem.W.mg_none_of KX G (by k_is), PySem.W.mg_none_of KX G (by k_is), PySem.W.mg_none_of KX G (by k_is), PySem.W.mg_none_of KX G (by k_is), PySem.W.mg_none_of KX G (by k_is), PySem.W.mg_none_of KX G (by k_is), PySem.W.mg_none_of KX G (by k_is), PySem.W.mg_none_of KX G (by k_is), ⟨_, PySem.W.mg_of KX G (by k_is)⟩, ⟨_, PySem.W.mg_of KX G (by k_is)⟩⟩
