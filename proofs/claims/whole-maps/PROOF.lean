import PyProof.Rows.All
import Wide.All
import OpenK.AllK
import Wide.FinOn
import HandS.ForMost
import HandS.Strs
import HandS.SetFor
import HandS.SetBool
import HandS.TupAny
import HandS.TupLen
import HandS.Conv
import HandS.Deep
import HandS.Property
import HandS.IsInst
import HandS.Codes
import HandS.Star
import HandS.Zip
import HandS.Walk
import HandS.Style
import HandS.Flow
import KE.SortData
import KE.KDictPairs
import KE.GoesMore
import HandS.SortInts
import PySem.Challenge.RW_shapeholes_k72_whole_maps_judged
namespace Mk72
/-! ### simplices as lists of ints; plain mathematics -/
abbrev Sx := List Int
/-- all parts of a simplex, the empty one first, as both loops make them -/
def subs (s : Sx) : List Sx := s.foldl (fun f v => f ++ f.map (· ++ [v])) [[]]
def parts (s : Sx) : List Sx := (subs s).drop 1
def ins (F : List Sx) (p : Sx) : List Sx := if p ∈ F then F else F ++ [p]
def addAll (F ps : List Sx) : List Sx := ps.foldl ins F
/-- the law's faces, in the order in which they are met -/
def genL (ss : List Sx) : List Sx := ss.foldl (fun F s => addAll F (parts s)) []
/-- the program's -/
def genP (ss : List Sx) : List Sx := ss.foldl (fun F s => if s ∈ F then F else addAll F (parts s)) []

theorem subs_nil : subs [] = [[]] := rfl
theorem subs_snoc (s : Sx) (v : Int) : subs (s ++ [v]) = subs s ++ (subs s).map (· ++ [v]) := by
  simp [subs, List.foldl_append]
theorem snoc_ind {P : Sx → Prop} (h0 : P []) (h1 : ∀ s v, P s → P (s ++ [v])) : ∀ s, P s := by
  have key : ∀ r : Sx, P r.reverse := by
    intro r
    induction r with
    | nil => exact h0
    | cons a r ih => rw [List.reverse_cons]; exact h1 _ _ ih
  intro s
  have := key s.reverse
  rwa [List.reverse_reverse] at this
theorem sub_snoc {t s : Sx} {v : Int} : t.Sublist (s ++ [v]) ↔ t.Sublist s ∨ ∃ t', t = t' ++ [v] ∧ t'.Sublist s := by
  rw [List.sublist_append_iff]
  constructor
  · rintro ⟨a, b, rfl, ha, hb⟩
    rcases (show b = [] ∨ b = [v] by cases hb with | cons _ q => exact .inl (List.sublist_nil.mp q) | cons_cons _ q => exact .inr (by rw [List.sublist_nil.mp q])) with rfl | rfl
    · left; simpa using ha
    · right; exact ⟨a, rfl, ha⟩
  · rintro (h | ⟨t', rfl, h⟩)
    · exact ⟨t, [], by simp, h, List.nil_sublist _⟩
    · exact ⟨t', [v], rfl, h, List.Sublist.refl _⟩
theorem mem_subs (t : Sx) (s : Sx) : t ∈ subs s ↔ t.Sublist s := by
  revert t
  refine snoc_ind (P := fun s => ∀ t, t ∈ subs s ↔ t.Sublist s) (fun t => ?_) (fun s v ih t => ?_) s
  · rw [subs_nil]; simp
  · rw [subs_snoc, List.mem_append, sub_snoc, ih t, List.mem_map]
    constructor
    · rintro (h | ⟨a, ha, rfl⟩)
      · exact .inl h
      · exact .inr ⟨a, rfl, (ih a).mp ha⟩
    · rintro (h | ⟨a, rfl, ha⟩)
      · exact .inl h
      · exact .inr ⟨a, (ih a).mpr ha, rfl⟩
theorem subs_head (s : Sx) : ∃ r, subs s = [] :: r ∧ ∀ t ∈ r, t ≠ [] := by
  refine snoc_ind (P := fun s => ∃ r, subs s = [] :: r ∧ ∀ t ∈ r, t ≠ []) ⟨[], rfl, by simp⟩ (fun s v ih => ?_) s
  obtain ⟨r, e, h⟩ := ih
  refine ⟨r ++ (subs s).map (· ++ [v]), ?_, ?_⟩
  · rw [subs_snoc, e]; simp
  · intro t ht
    rcases List.mem_append.mp ht with q | q
    · exact h t q
    · obtain ⟨a, _, rfl⟩ := List.mem_map.mp q
      simp
theorem subs_eq (s : Sx) : subs s = [] :: parts s := by
  obtain ⟨r, e, _⟩ := subs_head s
  rw [parts, e]; rfl
theorem mem_parts {t s : Sx} : t ∈ parts s ↔ t.Sublist s ∧ t ≠ [] := by
  obtain ⟨r, e, h⟩ := subs_head s
  have e2 : parts s = r := by rw [parts, e]; rfl
  rw [e2]
  constructor
  · intro ht
    refine ⟨(mem_subs t s).mp ?_, h t ht⟩
    rw [e]; exact List.mem_cons_of_mem _ ht
  · rintro ⟨ht, hn⟩
    have := (mem_subs t s).mpr ht
    rw [e] at this
    rcases List.mem_cons.mp this with q | q
    · exact absurd q hn
    · exact q
theorem subs_len (s : Sx) : (subs s).length = 2 ^ s.length := by
  refine snoc_ind (P := fun s => (subs s).length = 2 ^ s.length) rfl (fun s v ih => ?_) s
  rw [subs_snoc, List.length_append, List.length_map, ih, List.length_append, List.length_singleton, Nat.pow_succ]
  omega

theorem mem_ins {F : List Sx} {p t : Sx} : t ∈ ins F p ↔ t ∈ F ∨ t = p := by
  unfold ins
  split
  · rename_i h
    constructor
    · exact .inl
    · rintro (q | rfl)
      · exact q
      · exact h
  · simp
theorem nodup_snoc {F : List Sx} {p : Sx} (h : F.Nodup) (hp : p ∉ F) : (F ++ [p]).Nodup := by
  rw [List.nodup_append]
  refine ⟨h, by simp, ?_⟩
  intro a ha b hb e
  have : b = p := by simpa using hb
  subst this; subst e
  exact hp ha
theorem nodup_ins {F : List Sx} {p : Sx} (h : F.Nodup) : (ins F p).Nodup := by
  unfold ins
  split
  · exact h
  · exact nodup_snoc h (by assumption)
theorem mem_addAll {t : Sx} : ∀ {ps F : List Sx}, t ∈ addAll F ps ↔ t ∈ F ∨ t ∈ ps
  | [], F => by simp [addAll]
  | p :: ps, F => by
    have := mem_addAll (t := t) (ps := ps) (F := ins F p)
    show t ∈ addAll (ins F p) ps ↔ _
    rw [this, mem_ins, List.mem_cons, or_assoc]
theorem nodup_addAll : ∀ {ps F : List Sx}, F.Nodup → (addAll F ps).Nodup
  | [], _, h => h
  | _ :: ps, _, h => nodup_addAll (ps := ps) (nodup_ins h)
theorem addAll_snoc (F ps : List Sx) (p : Sx) : addAll F (ps ++ [p]) = ins (addAll F ps) p := by
  simp [addAll, List.foldl_append]

/-- closed under parts, without the empty simplex, nothing twice -/
structure Closed (F : List Sx) : Prop where
  nd : F.Nodup
  ne : ∀ s ∈ F, s ≠ []
  dn : ∀ s ∈ F, ∀ t : Sx, t.Sublist s → t ≠ [] → t ∈ F
/-- what the faces of some simplices are -/
def FacesOf (ss : List Sx) (t : Sx) : Prop := t ≠ [] ∧ ∃ s ∈ ss, t.Sublist s

theorem genL_go : ∀ (ss : List Sx) (F : List Sx), F.Nodup → (ss.foldl (fun F s => addAll F (parts s)) F).Nodup ∧ ∀ t, t ∈ ss.foldl (fun F s => addAll F (parts s)) F ↔ t ∈ F ∨ FacesOf ss t
  | [], F, h => ⟨h, fun t => by simp [FacesOf]⟩
  | s :: ss, F, h => by
    obtain ⟨a, b⟩ := genL_go ss (addAll F (parts s)) (nodup_addAll h)
    refine ⟨a, fun t => ?_⟩
    show t ∈ ss.foldl (fun F s => addAll F (parts s)) (addAll F (parts s)) ↔ _
    rw [b t, mem_addAll, mem_parts]
    unfold FacesOf
    constructor
    · rintro ((q | ⟨q, n⟩) | ⟨n, u, hu, q⟩)
      · exact .inl q
      · exact .inr ⟨n, s, List.mem_cons_self, q⟩
      · exact .inr ⟨n, u, List.mem_cons_of_mem _ hu, q⟩
    · rintro (q | ⟨n, u, hu, q⟩)
      · exact .inl (.inl q)
      · rcases List.mem_cons.mp hu with rfl | hu
        · exact .inl (.inr ⟨q, n⟩)
        · exact .inr ⟨n, u, hu, q⟩
theorem genL_nd (ss : List Sx) : (genL ss).Nodup := (genL_go ss [] List.nodup_nil).1
theorem mem_genL {ss : List Sx} {t : Sx} : t ∈ genL ss ↔ FacesOf ss t := by
  have := (genL_go ss [] List.nodup_nil).2 t
  simpa [genL] using this
theorem closed_of {F : List Sx} {ss : List Sx} (nd : F.Nodup) (h : ∀ t, t ∈ F ↔ FacesOf ss t) : Closed F := by
  refine ⟨nd, fun s hs => ((h s).mp hs).1, fun s hs t ht n => (h t).mpr ⟨n, ?_⟩⟩
  obtain ⟨_, u, hu, q⟩ := (h s).mp hs
  exact ⟨u, hu, ht.trans q⟩
theorem Closed.empty : Closed [] := ⟨List.nodup_nil, by simp, by simp⟩
theorem genP_step {F : List Sx} (c : Closed F) (s : Sx) : Closed (if s ∈ F then F else addAll F (parts s)) ∧ ∀ t, t ∈ (if s ∈ F then F else addAll F (parts s)) ↔ t ∈ F ∨ (t ≠ [] ∧ t.Sublist s) := by
  have mem : ∀ t, t ∈ (if s ∈ F then F else addAll F (parts s)) ↔ t ∈ F ∨ (t ≠ [] ∧ t.Sublist s) := by
    intro t
    split
    · rename_i h
      exact ⟨.inl, fun q => q.elim id fun q => c.dn s h t q.2 q.1⟩
    · rw [mem_addAll, mem_parts, and_comm]
  refine ⟨⟨?_, ?_, ?_⟩, mem⟩
  · split
    · exact c.nd
    · exact nodup_addAll c.nd
  · intro t ht
    rcases (mem t).mp ht with q | q
    · exact c.ne t q
    · exact q.1
  · intro t ht u hu n
    refine (mem u).mpr ?_
    rcases (mem t).mp ht with q | q
    · exact .inl (c.dn t q u hu n)
    · exact .inr ⟨n, hu.trans q.2⟩
theorem genP_go : ∀ (ss : List Sx) (F : List Sx), Closed F → Closed (ss.foldl (fun F s => if s ∈ F then F else addAll F (parts s)) F) ∧ ∀ t, t ∈ ss.foldl (fun F s => if s ∈ F then F else addAll F (parts s)) F ↔ t ∈ F ∨ FacesOf ss t
  | [], F, h => ⟨h, fun t => by simp [FacesOf]⟩
  | s :: ss, F, h => by
    obtain ⟨c, m⟩ := genP_step h s
    obtain ⟨a, b⟩ := genP_go ss _ c
    refine ⟨a, fun t => ?_⟩
    show t ∈ ss.foldl (fun F s => if s ∈ F then F else addAll F (parts s)) _ ↔ _
    rw [b t, m t]
    unfold FacesOf
    constructor
    · rintro ((q | ⟨n, q⟩) | ⟨n, u, hu, q⟩)
      · exact .inl q
      · exact .inr ⟨n, s, List.mem_cons_self, q⟩
      · exact .inr ⟨n, u, List.mem_cons_of_mem _ hu, q⟩
    · rintro (q | ⟨n, u, hu, q⟩)
      · exact .inl (.inl q)
      · rcases List.mem_cons.mp hu with rfl | hu
        · exact .inl (.inr ⟨n, q⟩)
        · exact .inr ⟨n, u, hu, q⟩
theorem genP_closed (ss : List Sx) : Closed (genP ss) := (genP_go ss [] Closed.empty).1
theorem mem_genP {ss : List Sx} {t : Sx} : t ∈ genP ss ↔ FacesOf ss t := by
  have := (genP_go ss [] Closed.empty).2 t
  simpa [genP] using this
theorem genL_closed (ss : List Sx) : Closed (genL ss) := closed_of (genL_nd ss) fun _ => mem_genL
theorem genPL_perm (ss : List Sx) : (genP ss).Perm (genL ss) :=
  (List.perm_ext_iff_of_nodup (genP_closed ss).nd (genL_nd ss)).mpr fun t => mem_genP.trans mem_genL.symm

/-! ### simplices with vertices below seven -/
structure Ok (s : Sx) : Prop where
  ne : s ≠ []
  up : s.Pairwise (· < ·)
  bd : ∀ v ∈ s, 0 ≤ v ∧ v < 7
theorem Ok.sub {s t : Sx} (h : Ok s) (ht : t.Sublist s) (n : t ≠ []) : Ok t := ⟨n, h.up.sublist ht, fun v hv => h.bd v (ht.subset hv)⟩
theorem up_nodup {s : Sx} (h : s.Pairwise (· < ·)) : s.Nodup := h.imp fun {a b} q e => by subst e; omega
/-- ascending lists: a part is a sublist -/
theorem up_sub : ∀ {L s : Sx}, L.Pairwise (· < ·) → s.Pairwise (· < ·) → (∀ v ∈ s, v ∈ L) → s.Sublist L
  | [], s, _, _, h => by
    cases s with
    | nil => exact List.Sublist.refl _
    | cons a r => exact absurd (h a List.mem_cons_self) (by simp)
  | a :: L, s, hL, hs, h => by
    obtain ⟨ha, hL'⟩ := List.pairwise_cons.mp hL
    cases s with
    | nil => exact List.nil_sublist _
    | cons b r =>
      obtain ⟨hb, hr⟩ := List.pairwise_cons.mp hs
      rcases List.mem_cons.mp (h b List.mem_cons_self) with e | hbL
      · subst e
        refine List.Sublist.cons_cons _ (up_sub hL' hr fun v hv => ?_)
        rcases List.mem_cons.mp (h v (List.mem_cons_of_mem _ hv)) with e | q
        · have := hb v hv
          omega
        · exact q
      · refine List.Sublist.cons _ (up_sub hL' hs fun v hv => ?_)
        rcases List.mem_cons.mp (h v hv) with e | q
        · have h1 := ha b hbL
          rcases List.mem_cons.mp hv with e2 | hv2
          · omega
          · have := hb v hv2
            omega
        · exact q
/-- ascending lists with the same members are one -/
theorem up_ext {s t : Sx} (hs : s.Pairwise (· < ·)) (ht : t.Pairwise (· < ·)) (h : ∀ v, v ∈ s ↔ v ∈ t) : s = t := by
  have h1 := up_sub ht hs fun v hv => (h v).mp hv
  have h2 := up_sub hs ht fun v hv => (h v).mpr hv
  exact h1.eq_of_length (Nat.le_antisymm h1.length_le h2.length_le)
def seven : Sx := [0, 1, 2, 3, 4, 5, 6]
theorem Ok.seven {s : Sx} (h : Ok s) : s ∈ parts seven := by
  refine mem_parts.mpr ⟨up_sub (by decide) h.up fun v hv => ?_, h.ne⟩
  obtain ⟨a, b⟩ := h.bd v hv
  have : v = 0 ∨ v = 1 ∨ v = 2 ∨ v = 3 ∨ v = 4 ∨ v = 5 ∨ v = 6 := by omega
  simp [Mk72.seven, this]
theorem nodup_le {α : Type} [DecidableEq α] : ∀ (l D : List α), l.Nodup → (∀ x ∈ l, x ∈ D) → l.length ≤ D.length
  | [], _, _, _ => Nat.zero_le _
  | a :: l, D, hn, h => by
    obtain ⟨ha, hl⟩ := List.nodup_cons.mp hn
    have hD := h a List.mem_cons_self
    have q := nodup_le l (D.erase a) hl fun x hx => (List.mem_erase_of_ne (fun e => by subst e; exact ha hx)).mpr (h x (List.mem_cons_of_mem _ hx))
    have := List.length_erase_of_mem hD
    have p := List.length_pos_of_mem hD
    rw [List.length_cons]
    omega
theorem ok_many {F : List Sx} (hn : F.Nodup) (h : ∀ s ∈ F, Ok s) : F.length ≤ 127 := by
  have := nodup_le F (parts seven) hn fun s hs => (h s hs).seven
  have e : (parts seven).length = 127 := by decide +kernel
  omega
theorem Ok.len {s : Sx} (h : Ok s) : s.length ≤ 7 := by
  have := (mem_parts.mp h.seven).1.length_le
  simpa [Mk72.seven] using this
theorem len_ins (F : List Sx) (p : Sx) : F.length ≤ (ins F p).length ∧ (ins F p).length ≤ F.length + 1 := by
  unfold ins
  split
  · omega
  · rw [List.length_append, List.length_singleton]; omega
theorem len_addAll : ∀ (ps F : List Sx), F.length ≤ (addAll F ps).length ∧ (addAll F ps).length ≤ F.length + ps.length
  | [], F => by simp [addAll]
  | p :: ps, F => by
    have h1 := len_ins F p
    have h2 := len_addAll ps (ins F p)
    show F.length ≤ (addAll (ins F p) ps).length ∧ (addAll (ins F p) ps).length ≤ F.length + (p :: ps).length
    rw [List.length_cons]
    omega
def stepP (F : List Sx) (s : Sx) : List Sx := if s ∈ F then F else addAll F (parts s)
theorem genP_snoc (ss : List Sx) (s : Sx) : genP (ss ++ [s]) = stepP (genP ss) s := by
  show (ss ++ [s]).foldl stepP [] = stepP (ss.foldl stepP []) s
  rw [List.foldl_append]
  rfl
theorem len_stepP (F : List Sx) (s : Sx) : F.length ≤ (stepP F s).length := by
  unfold stepP
  split
  · exact Nat.le_refl _
  · exact (len_addAll _ _).1
theorem len_foldP : ∀ (ss : List Sx) (F : List Sx), F.length ≤ (ss.foldl stepP F).length
  | [], _ => Nat.le_refl _
  | s :: ss, F => Nat.le_trans (len_stepP F s) (len_foldP ss (stepP F s))
theorem len_genP_take (ss : List Sx) (i : Nat) : (genP (ss.take i)).length ≤ (genP ss).length := by
  have e : genP ss = (ss.drop i).foldl stepP (genP (ss.take i)) := by
    show ss.foldl stepP [] = (ss.drop i).foldl stepP ((ss.take i).foldl stepP [])
    rw [← List.foldl_append, List.take_append_drop]
  rw [e]
  exact len_foldP _ _
theorem len_parts {s : Sx} (h : s.length ≤ 12) : (parts s).length ≤ 4096 := by
  unfold parts
  rw [List.length_drop, subs_len]
  exact Nat.le_trans (Nat.sub_le _ _) (Nat.le_trans (Nat.pow_le_pow_right (by decide) h) (by decide))
/-! ### what is no facet -/
def cutAt (s : Sx) (i : Nat) : Sx := s.take i ++ s.drop (i + 1)
def innS (I : List Sx) (s : Sx) : List Sx := (List.range s.length).foldl (fun I i => ins I (cutAt s i)) I
def innL (F : List Sx) : List Sx := F.foldl innS []
theorem innS_to (I : List Sx) (s : Sx) (k : Nat) : ∀ t, t ∈ (List.range k).foldl (fun I i => ins I (cutAt s i)) I ↔ t ∈ I ∨ ∃ i, i < k ∧ t = cutAt s i := by
  induction k with
  | zero => intro t; simp
  | succ k ih =>
    intro t
    rw [List.range_succ, List.foldl_append]
    show t ∈ ins _ (cutAt s k) ↔ _
    rw [mem_ins, ih t]
    constructor
    · rintro ((h | ⟨i, hi, e⟩) | e)
      · exact .inl h
      · exact .inr ⟨i, by omega, e⟩
      · exact .inr ⟨k, by omega, e⟩
    · rintro (h | ⟨i, hi, e⟩)
      · exact .inl (.inl h)
      · by_cases hk : i = k
        · subst hk; exact .inr e
        · exact .inl (.inr ⟨i, by omega, e⟩)
theorem innS_len (I : List Sx) (s : Sx) (k : Nat) : ((List.range k).foldl (fun I i => ins I (cutAt s i)) I).length ≤ I.length + k := by
  induction k with
  | zero => simp
  | succ k ih =>
    rw [List.range_succ, List.foldl_append]
    show (ins _ (cutAt s k)).length ≤ _
    have := (len_ins ((List.range k).foldl (fun I i => ins I (cutAt s i)) I) (cutAt s k)).2
    omega
theorem innL_go : ∀ (F I : List Sx) (t : Sx), t ∈ F.foldl innS I ↔ t ∈ I ∨ ∃ s ∈ F, ∃ i, i < s.length ∧ t = cutAt s i
  | [], I, t => by simp
  | s :: F, I, t => by
    show t ∈ F.foldl innS (innS I s) ↔ _
    rw [innL_go F (innS I s) t, innS, innS_to]
    constructor
    · rintro ((h | ⟨i, hi, e⟩) | ⟨u, hu, i, hi, e⟩)
      · exact .inl h
      · exact .inr ⟨s, List.mem_cons_self, i, hi, e⟩
      · exact .inr ⟨u, List.mem_cons_of_mem _ hu, i, hi, e⟩
    · rintro (h | ⟨u, hu, i, hi, e⟩)
      · exact .inl (.inl h)
      · rcases List.mem_cons.mp hu with rfl | hu
        · exact .inl (.inr ⟨i, hi, e⟩)
        · exact .inr ⟨u, hu, i, hi, e⟩
theorem mem_innL {F : List Sx} {t : Sx} : t ∈ innL F ↔ ∃ s ∈ F, ∃ i, i < s.length ∧ t = cutAt s i := by
  have := innL_go F [] t
  simpa [innL] using this
theorem innL_snoc (F : List Sx) (s : Sx) : innL (F ++ [s]) = innS (innL F) s := by
  show (F ++ [s]).foldl innS [] = innS (F.foldl innS []) s
  rw [List.foldl_append]
  rfl
theorem innL_len {F : List Sx} (h : ∀ s ∈ F, s.length ≤ 12) : (innL F).length ≤ 12 * F.length := by
  have key : ∀ (F I : List Sx), (∀ s ∈ F, s.length ≤ 12) → (F.foldl innS I).length ≤ I.length + 12 * F.length := by
    intro F
    induction F with
    | nil => intro I _; simp
    | cons s F ih =>
      intro I hs
      have h1 := ih (innS I s) fun u hu => hs u (List.mem_cons_of_mem _ hu)
      have h2 := innS_len I s s.length
      have h3 := hs s List.mem_cons_self
      have h4 : (innS I s).length ≤ I.length + s.length := h2
      show (F.foldl innS (innS I s)).length ≤ _
      rw [List.length_cons]
      omega
  have := key F [] h
  simpa [innL] using this
end Mk72
set_option Elab.async false
set_option linter.all false
set_option maxRecDepth 100000
set_option maxHeartbeats 4000000
/-! Rules beside the layer's: in by an own method, a tuple that is known to its object, dict of such a tuple, a tuple turned round, enumerate of a tuple, sorted of data. -/
namespace R72
open PySem PySem.Spec PyProof.Rows L2

section
variable {X : Cx} {CX : CXT} {k : Nat} {f C : Addr} {fd : FuncData} {ps : List Str} {sp : Sp} {E : XK}

/-! ### x not in o, by o's own method -/
def rOwnOut (C : Addr) (sp : Sp) (E : XK) : R2 := fun x y H Q => ∃ a dx fs, y = .ref a ∧ H a = some (.ins C dx fs) ∧ sp [.ref a, x] H (fun z H' => ∃ b, z = .bl b ∧ Q (.bl (!b)) H') E
theorem op_ownOut (F : FnOk X.prog X.w X.K X.mg X.base CX k f fd ps sp) (hr : Room k X.A) (hb : Binds X.K fd ps []) (hs : PySem.W.findIn X.K (.ref C) "__contains__" = some (some (.ref f)))
    (hf : PySem.W.isFn X.K (.ref f) = true) (hx : Passes CX X E) : OpR X (compareOp .NotIn) (rOwnOut C sp E) := by
  intro pins s σ H x y v u Q I rx ry hq
  obtain ⟨a, dx, fs, ey, ha, h⟩ := hq
  subst ey
  obtain rfl : u = Value.ref a := ry
  obtain ⟨_, J0, _⟩ := ins_get I.hok ha
  obtain ⟨_, J, _⟩ := J0.look
  obtain ⟨_, hF⟩ := I.fr
  refine PySem.W.notIn_K hF I.ok.mod.kin J hs hf (thn (run_fn (us := [.ref a, v]) (vs := [.ref a, x]) F hr hb .nil hx I (.cons rfl (.cons rx .nil)) h) fun r s' q => ?_)
  obtain ⟨z, H', I', rz, b, ez, q⟩ := q
  subst ez
  obtain rfl : r = Value.bool b := rz
  exact wpAny_truthy_bool ⟨.bl (!b), H', I', rfl, q⟩

/-! ### tuples known to the object -/
/-- at a a tuple of xs, its object without a dict of its own -/
def FzT (H : Hp) (a : Addr) (xs : List V) : Prop := ∃ o, H a = some (.frz o (.tup xs)) ∧ o.dict = none
theorem FzT.sq {K : PySem.W.Frag} {H : Hp} {a : Addr} {xs : List V} (h : FzT H a xs) : SqT K H a xs := let ⟨o, e, _⟩ := h; .inl (.inr ⟨o, e⟩)
/-- tuple(x) of a list: the new tuple known to its object -/
def kTupF (K : PySem.W.Frag) (x : V) (H : Hp) (Q : VK) : Prop := ∃ p xs, x = .ref p ∧ SqL K H p xs ∧ ∀ q o, H q = none → o.dict = none → Q (.ref q) (upd H q (.frz o (.tup xs)))
theorem cr_tupF : CallR X (.type "tuple") (fun vs H Q => ∃ x, vs = [x] ∧ kTupF X.K x H Q) := by
  intro pins s σ H vs us Q I r hq
  obtain ⟨x, rfl, p, xs, rfl, hs, q⟩ := hq
  rw [Vals.ref1 r]
  obtain ⟨its, rv, pl, hz⟩ := I.list hs
  refine call_tuple_list pl.isList (fun h' hk => ?_) (by rw [List.size_toArray, ← rv.length]; exact hz)
  have I1 : Inv X pins σ H { s with heap := h' } := I.kept (t' := s.toks) hk
  have nw := Heap.get?_push_size h' (o := { cls := .type "tuple", data := .seq its.toArray }) rfl
  refine ⟨.ref h'.objs.size, upd H h'.objs.size (.frz { cls := .type "tuple", data := .seq its.toArray } (.tup xs)),
    I1.laid (t' := s.toks) (fun b o e => Heap.get?_push_of_some _ e) (Nat.le_refl _) (show ObjOk X.prog X.w _ _ _ (.frz _ (.tup xs)) from ⟨nw, hz, its, rv, IsTup.new _ _⟩), rfl, q _ _ (I1.hok.fresh (Nat.le_refl _)) rfl⟩

/-! ### dict(t) of such a tuple of pairs -/
theorem pairs_each {pins : List (Addr × Obj)} {σ : L2.St} {H : Hp} {s : Shared} (I : Inv X pins σ H s) : ∀ {ps : List Addr} {kvs : List (Key × V)}, Paired (fun p kv => SqT X.K H p [kV kv.1, kv.2]) ps kvs →
    ∃ (vs : List (Value × Value)) (prs : List (Key × Value)), KV kvs prs ∧ vs.length = ps.length ∧ prs.length = ps.length ∧
      ∀ (j : Nat) (u v : Value), vs[j]? = some (u, v) → ∃ (b : Addr) (k : Key), ps[j]? = some b ∧ s.heap.IsTuple b #[u, v] ∧ prs[j]? = some (k, v) ∧ keyIs k u = true
  | _, _, .nil => ⟨[], [], .nil, rfl, rfl, fun j u v e => by simp at e⟩
  | _, _, .cons (a := p) (b := kv) h t => by
    obtain ⟨vs, prs, r, h1, h2, hp⟩ := pairs_each I t
    obtain ⟨its, rv, ht, _⟩ := I.tuple h
    obtain ⟨u, y, ei, ru, ry⟩ := vals2 rv
    subst ei
    refine ⟨(u, y) :: vs, (kv.1, y) :: prs, .cons ⟨rfl, ry⟩ r, by rw [List.length_cons, List.length_cons, h1], by rw [List.length_cons, List.length_cons, h2], fun j a b e => ?_⟩
    cases j with
    | zero =>
      obtain ⟨rfl, rfl⟩ := Prod.mk.inj (Option.some.inj e)
      exact ⟨p, kv.1, rfl, ht, rfl, kV_is (P := X.prog) (w := X.w) ru⟩
    | succ j =>
      obtain ⟨b', k, e1, e2, e3, e4⟩ := hp j a b (by simpa using e)
      exact ⟨b', k, by simpa using e1, e2, by simpa using e3, e4⟩
/-- dict(t): later pairs win, the place is the first one's -/
theorem call_dictF (hc : X.calm = true) : CallR X (.type "dict") (fun xs H Q => ∃ (a : Addr) (ps : List Addr) (kvs : List (Key × V)), xs = [.ref a] ∧ FzT H a (ps.map V.ref) ∧ Paired (fun p kv => SqT X.K H p [kV kv.1, kv.2]) ps kvs ∧
    ∀ p, H p = none → Q (.ref p) (upd H p (.dK (mergeK [] kvs)))) := by
  intro pins s σ H xs us Q I r hq
  obtain ⟨a, ps, kvs, rfl, ⟨o, ha, hod⟩, hp, q⟩ := hq
  rw [Vals.ref1 r]
  obtain ⟨hget, hz, its, rv, o', ho', hcl, n, hdat⟩ := (show ObjOk X.prog X.w H s.heap a (.frz o (.tup (ps.map V.ref))) from I.hok a _ ha)
  obtain rfl : o = o' := Option.some.inj (hget.symm.trans ho')
  obtain rfl := refs_at rv
  rw [List.length_map] at hz
  obtain ⟨vs, prs, rel, hl, hl2, hpr⟩ := pairs_each I hp
  have items : PairItems s.heap (ps.map Value.ref).toArray (fun j => ps.getD j 0) vs := by
    refine ⟨by rw [List.size_toArray, List.length_map, hl], fun j u v e => ?_⟩
    obtain ⟨b, _, e1, e2, _⟩ := hpr j u v e
    have eg : ps.getD j 0 = b := by rw [List.getD_eq_getElem?_getD, e1]; rfl
    refine ⟨?_, by show PairAt s.heap (ps.getD j 0) u v; rw [eg]; exact .inl e2⟩
    show (List.map Value.ref ps).toArray[j]? = some (Value.ref (ps.getD j 0))
    rw [eg, List.getElem?_toArray, List.getElem?_map, e1]
    rfl
  refine PySem.call_dict_pairs (knd := mixKind X.prog X.w) (kvs := prs) (PairArg.tuple a (ps.map Value.ref).toArray (fun j => ps.getD j 0) vs) (I.ok.hd hc) ⟨⟨o, n, hget, hcl, hod, hdat⟩, items⟩ ⟨by rw [hl, hl2], fun i key v e => ?_⟩ (by rw [hl]; exact hz) fun h' tk hd' k => ?_
  · obtain ⟨_, kk, _, _, e3, e4⟩ := hpr i key v e
    exact ⟨kk, e3, e4⟩
  · have hm : (s.heap.objs.size == sysModules) = false := beq_eq_false_iff_ne.mpr (Nat.ne_of_gt I.big)
    have hlen : (mergeK [] kvs).length ≤ sizeLine := by
      refine Nat.le_trans (length_mergeK kvs []) ?_
      rw [List.length_nil, Nat.zero_add, rel.length, hl2]
      exact hz
    exact ⟨.ref s.heap.objs.size, upd H s.heap.objs.size (.dK (mergeK [] kvs)), I.laid (t' := tk) (fun b o e => k b o (by simp) e) (Nat.le_refl _) (show ObjOk X.prog X.w _ _ _ (.dK (mergeK [] kvs)) from ⟨hlen, hm, merged [] prs, KV.merge rel .nil, hd'⟩), rfl, q _ (I.hok.fresh (Nat.le_refl _))⟩
end

/-! ### enumerate(t), t a tuple -/
set_option maxHeartbeats 1000000 in
theorem meets_enum_tup (l : Addr) (items : Array Value) (n : Nat) (dct : Option Addr) (sl : Array (Option Value)) :
    Meets (Builtin.«enumerate.__new__» ⟨[.type "enumerate", .ref l], []⟩) (fun _ R s => s.heap.get? l = some { cls := .type "tuple", dict := dct, data := .seq items n, slots := sl } ∧
      R (.ok (.ret (.ref (s.heap.push { cls := .type "tuple_iterator", data := .fields #[.ref l, .int 0 0] }).objs.size)))
        { s with heap := (s.heap.push { cls := .type "tuple_iterator", data := .fields #[.ref l, .int 0 0] }).push { cls := .type "enumerate", data := .fields #[.none, .bool false, .ref s.heap.objs.size, rawInt 0, .none, .none] } }) :=
  .of_wp fun prog w A R s h => by
    obtain ⟨hl, h⟩ := h
    have hT : s.heap.IsTuple l items := ⟨_, hl, rfl, n, rfl⟩
    obtain ⟨hp, g, d, tk, os⟩ := s
    have hsub := sub_enumerate
    wp_walk
    refine wpAny_stack_any fun st => wpAny_pure ?_
    split
    · rename_i c _ _ _ _ _
      cases (c == Value.type "enumerate")
      · wp_walk using wpAny_pyIter_tuple hT
        exact ⟨_, rfl, h⟩
      · wp_walk using wpAny_pyIter_tuple hT
        exact ⟨_, rfl, h⟩
    · wp_walk using wpAny_pyIter_tuple hT
      exact ⟨_, rfl, h⟩
section
variable {prog : Program} {w : World} {A : Around} {E : Value → Shared → Prop} {s : Shared}
theorem call_enum_tup {l : Addr} {items : Array Value} {Q : Value → Shared → Prop} (hL : s.heap.IsTuple l items)
    (h : ∀ h', IsEnum h' (s.heap.objs.size + 1) s.heap.objs.size 0 .none → h'.IsTupleIter s.heap.objs.size l 0 → (∀ b o, s.heap.get? b = some o → h'.get? b = some o) → Q (.ref (s.heap.objs.size + 1)) { s with heap := h' }) :
    wpAny (model prog w) A (call (.type "enumerate") [.ref l]) Q E s := by
  obtain ⟨⟨c, dct, dt, sl⟩, hl, hc, n, hd⟩ := hL
  replace hc : c = .type "tuple" := hc
  replace hd : dt = .seq items n := hd
  subst hc hd
  refine callType_new F.called_enumerate (by decide) (F.typeCall_enumerate_1 _) (F.newCall_enumerate_1 _) (fun obj => F.args_object_init_2 obj _) F.entry_enumerate_new (meets_enum_tup l items n dct sl) ⟨hl, ?_⟩
  have hz : (s.heap.push { cls := .type "tuple_iterator", data := .fields #[.ref l, .int 0 0] }).objs.size = s.heap.objs.size + 1 := Heap.size_push ..
  show _ ∧ _
  rw [hz]
  have he : IsEnum ((s.heap.push { cls := .type "tuple_iterator", data := .fields #[.ref l, .int 0 0] }).push
      { cls := .type "enumerate", data := .fields #[.none, .bool false, .ref s.heap.objs.size, rawInt 0, .none, .none] }) (s.heap.objs.size + 1) s.heap.objs.size 0 .none := by
    have q := Heap.get?_push_size (s.heap.push { cls := .type "tuple_iterator", data := .fields #[.ref l, .int 0 0] })
      (o := { cls := .type "enumerate", data := .fields #[.none, .bool false, .ref s.heap.objs.size, rawInt 0, .none, .none] }) rfl
    rw [hz] at q; exact q
  exact ⟨⟨_, he, rfl⟩, h _ he ⟨_, Heap.get?_push_of_some _ (Heap.get?_push_size _ rfl), rfl, rfl⟩ fun b o x => Heap.get?_push_of_some _ (Heap.get?_push_of_some _ x)⟩
end
/-- the tuple's items in new pairs with their places -/
def Itet (K : PySem.W.Frag) (a : Addr) : It :=
  ⟨fun i H => ∃ (xs : List V) (x : V), SqT K H a xs ∧ xs[i]? = some x, fun i H v H' => ∃ T x, v = .ref T ∧ H T = none ∧ H' = upd H T (.tup [.int (i : Nat), x]) ∧ ∀ xs, SqT K H a xs → xs[i]? = some x, fun i H => ∃ xs : List V, SqT K H a xs ∧ xs.length = i⟩
theorem turn_enumT {P : Program} {w : World} {K : PySem.W.Frag} {elts : List Expr} {kk : Nat} {tpos : Pos} (a e it : Addr) (hea : e ≠ a) (hia : a ≠ it) :
    Turn P w K (.Tuple elts kk tpos) (Itet K a) [e, it] e (fun i h => (∃ old, IsEnum h e it ((i : Nat) : Int) old) ∧ h.IsTupleIter it a i ∧ e ≠ it) where
  mem := by simp
  obj := fun i h st b hb => by
    obtain ⟨⟨old, he⟩, ⟨o, ho, hc, hd⟩, _⟩ := st
    have e' : b = e ∨ b = it := by simpa using hb
    rcases e' with z | z
    · rw [z]; exact ⟨_, he, fun v q => nomatch q⟩
    · rw [z]; exact ⟨o, ho, fun v q => by rw [hd] at q; cases q⟩
  keep := fun i h h' st k => let ⟨⟨old, he⟩, hi, hne⟩ := st; ⟨⟨old, k e (by simp) _ he⟩, hi.at fun o q => k it (by simp) o q, hne⟩
  item := by
    intro X hP hw hK hc i pins s σ H E I hf st hg
    subst hP hw hK
    obtain ⟨⟨old, he⟩, hit, hne⟩ := st
    obtain ⟨xs, x, hq, hx⟩ := hg
    obtain ⟨its, rv, p, hz⟩ := I.tuple hq
    obtain ⟨u, hu, ru⟩ := rv.get hx
    have hel : e < s.heap.objs.size := Heap.lt_size he
    have hil : it < s.heap.objs.size := by obtain ⟨_, q, _⟩ := hit; exact Heap.lt_size q
    have hlt : i < its.toArray.size := by rw [List.size_toArray]; exact (List.getElem?_eq_some_iff.mp hu).1
    refine wpAny_pyNext_enum_itemD (Draws.tuple (A := X.A.in1) (by rw [Around.in1_handled]; exact I.ok.hd hc) it a hia its.toArray) he ⟨hit, p⟩ hlt hne (by simp [hne, hea]) fun y h' tk hy ho hit' hT hsz hk => ?_
    have ey : y = u := by
      have q : its[i]? = some y := by simpa using hy
      rw [hu] at q
      exact (Option.some.inj q).symm
    subst ey
    refine ⟨_, rfl, wpAny_letOwnedTupleGo_enum (s := { s with heap := h', toks := tk + 1 }) ho fun h'' he' sb => ?_⟩
    have hT2 : h''.get? s.heap.objs.size = some { cls := .type "tuple", data := .seq #[.int i tk, y] } := (sb.2 _ (Nat.ne_of_gt hel)).trans hT
    have new : ObjOk X.prog X.w (upd H s.heap.objs.size (.tup [.int (i : Nat), x])) h'' s.heap.objs.size (.tup [.int (i : Nat), x]) :=
      ⟨by show 2 ≤ sizeLine; decide, [.int i tk, y], .cons ⟨_, rfl⟩ (.cons ru .nil), ⟨_, hT2, rfl, _, rfl⟩⟩
    have I1 : Inv X pins σ (upd H s.heap.objs.size (.tup [.int (i : Nat), x])) { s with heap := h'', toks := tk + 1 } :=
      I.turnedNew (ch := [e, it]) (fun b ob hb q => (sb.2 b (fun z => hb (by simp [z]))).trans (hk b ob (fun z => hb (by simp [z])) (fun z => hb (by simp [z])) q)) hf (Nat.le_refl _) new
    refine ⟨.ref s.heap.objs.size, _, I1, rfl, ⟨_, x, rfl, I.hok.fresh (Nat.le_refl _), rfl, fun ys hy => by rw [I.tuple_inj hy hq]; exact hx⟩, ⟨⟨y, ?_⟩, hit'.1.at fun o q => (sb.2 it (Ne.symm hne)).trans q, hne⟩, fun b hb => ?_⟩
    · have e1 : ((i + 1 : Nat) : Int) = (i : Int) + 1 := by omega
      rw [e1]; exact he'
    · have hb' : b < s.heap.objs.size := by
        have e' : b = e ∨ b = it := by simpa using hb
        rcases e' with z | z
        · rw [z]; exact hel
        · rw [z]; exact hil
      rw [upd_ne (Nat.ne_of_lt hb')]
      exact (hf b hb).1
  done := by
    intro X hP hw hK hc i pins s σ H E I hf st hg
    subst hP hw hK
    obtain ⟨⟨old, he⟩, hit, hne⟩ := st
    obtain ⟨xs, hq, hx⟩ := hg
    obtain ⟨its, rv, p, hz⟩ := I.tuple hq
    obtain ⟨f0, f1, f2, f3, f4, f5⟩ := hf it (by simp)
    have hl : its.toArray.size = i := by rw [List.size_toArray, ← rv.length]; exact hx
    subst hl
    exact wpAny_pyNext_enum_endD (Draws.tuple (A := X.A.in1) (by rw [Around.in1_handled]; exact I.ok.hd hc) it a hia its.toArray) he ⟨hit, p⟩ fun h' eb => ⟨rfl, I.turned (t' := s.toks) (fun b o hb q => eb b o hb q) f0 f1 f3 f4 f5⟩
  self := fun A i s Q E st h => let ⟨⟨_, he⟩, _⟩ := st; wpAny_pyIter_enum he h
def iEnumT (K : PySem.W.Frag) (ta : TA) : TI := fun σ H R => ta σ H fun vs H1 => ∃ a xs, vs = [.ref a] ∧ SqT K H1 a xs ∧ R (Itet K a) H1
theorem pi_enumT {X : Cx} {e : Expr} {ta : TA} {p pos tpos : Pos} {elts : List Expr} {kk : Nat} (hg : Gl X "enumerate") (hm : X.mg "enumerate" = none) (ha : PA X [e] ta) (hs : starEach [e] X.env = [(false, eval e X.env)] := by rfl) :
    PI X (.Tuple elts kk tpos) (.Call (.Name "enumerate" p) [e] [] pos) (iEnumT X.K ta) := by
  refine ⟨fun pins s σ H R I h => ?_⟩
  refine Call_ (ld_blt I hg hm boot_enumerate (PyProof.Rows.callWith_type1 (thn (ha.run pos pins s σ H _ I h) fun us s1 ⟨vs, H1, I1, r1, q1⟩ => ?_) hs rfl))
  obtain ⟨a, xs, rfl, hq, q⟩ := q1
  rw [Vals.ref1 r1]
  obtain ⟨its, rv, p', hz⟩ := I1.tuple hq
  have hlt : a < s1.heap.objs.size := p'.lt
  refine call_enum_tup p' fun h' he hit hk => wpAny_pyIter_enum he ?_
  have I2 : Inv X pins σ H1 { s1 with heap := h' } := I1.kept (t' := s1.toks) hk
  refine ⟨s1.heap.objs.size + 1, [s1.heap.objs.size + 1, s1.heap.objs.size], _, _, H1, rfl, I2, turn_enumT a (s1.heap.objs.size + 1) s1.heap.objs.size (Nat.ne_of_gt (Nat.lt_succ_of_lt hlt)) (Nat.ne_of_lt hlt), ⟨⟨.none, he⟩, hit, Nat.succ_ne_self _⟩, fun b hb => ?_, q⟩
  have e' : b = s1.heap.objs.size + 1 ∨ b = s1.heap.objs.size := by simpa using hb
  have hle : s1.heap.objs.size ≤ b := by
    rcases e' with z | z
    · rw [z]; exact Nat.le_add_right _ _
    · rw [z]; exact Nat.le_refl _
  exact I1.fpOk hle (I1.hok.fresh hle)
theorem walk_enumT {K : PySem.W.Frag} {a : Addr} {xs : List V} : Walk (Itet K a) xs.length (fun H => SqT K H a xs) (YPair (fun i => some (.int (i : Nat))) (fun i => xs[i]?)) := by
  refine ⟨fun i _ hi q => ⟨xs, xs[i], q, by simp [hi]⟩, fun _ q => ⟨xs, q, rfl⟩, fun i H v H' _ q y => ?_⟩
  obtain ⟨T, x, h1, h2, h3, h4⟩ := y
  exact ⟨T, .int (i : Nat), x, h1, h2, h3, rfl, h4 xs q⟩
end R72
set_option Elab.async false
set_option linter.all false
set_option maxRecDepth 100000
set_option maxHeartbeats 4000000
/-! Rules beside the layer's: a tuple turned round, sorted of data of any length, set of ints, set comprehensions of ints. -/
namespace R72
open PySem PySem.Spec PyProof.Rows L2

/-! ### t[::-1] -/
section
variable {prog : Program} {w : World} {A : Around} {E : Value → Shared → Prop} {s : Shared}
theorem adjust_back (n : Nat) : Builtin.Slice.sliceAdjust none none (-1) (n : Int) = ((n : Int) - 1, -1) := rfl
theorem places_back (n : Nat) : Builtin.Slice.slicePlaces ((n : Int) - 1) (-1) (-1) = n := by
  unfold Builtin.Slice.slicePlaces
  rw [if_neg (by decide)]
  by_cases h : n = 0
  · subst h; rfl
  · rw [if_pos (by omega), show (-(-1) : Int) = 1 by decide, Int.ediv_one]
    omega
theorem applied_back {sl : Addr} {vs : Value} {n : Nat} {Q : Int × Int × Nat → Shared → Prop} (hs : s.heap.IsSliceOf sl .none .none vs) (ps : IsPart vs (some (-1)))
    (h : Q ((n : Int) - 1, -1, n) s) : wpAny (model prog w) A (Builtin.Slice.sliceApplied (.ref sl) (pure (n : Int))) Q E s := by
  obtain ⟨os, hos, hcs, hds⟩ := id hs
  unfold Builtin.Slice.sliceApplied Builtin.Slice.sliceFields
  refine wpAny_bind (wpAny_bind (wpAny_field hos hds (x := .none) rfl (wpAny_bind (wpAny_field hos hds (x := .none) rfl (wpAny_bind (wpAny_field hos hds (x := vs) rfl (wpAny_pure ?_)))))))
  refine wpAny_bind (HT.slicePart_ ps ?_)
  show wpAny _ _ (if ((-1 : Int) == 0) = true then _ else _) _ _ s
  rw [if_neg (by decide)]
  refine wpAny_bind (HT.slicePart_ .none (wpAny_bind (HT.slicePart_ .none (wpAny_bind (wpAny_pure ?_)))))
  show wpAny _ _ (pure ((n : Int) - 1, (-1 : Int), Builtin.Slice.slicePlaces ((n : Int) - 1) (-1) (-1))) _ _ s
  rw [places_back]
  exact wpAny_pure h
theorem pick_back (xs : Array Value) : ((List.range xs.size).filterMap fun (k : Nat) => xs[((xs.size : Int) - 1 + (k : Int) * (-1)).toNat]?).toArray = xs.toList.reverse.toArray := by
  congr 1
  have e : (List.range xs.size).filterMap (fun (k : Nat) => xs[((xs.size : Int) - 1 + (k : Int) * (-1)).toNat]?) = ((List.range xs.size).map fun k => xs.size - 1 - k).filterMap (xs[·]?) := by
    rw [List.filterMap_map]
    congr 1
    funext k
    have q : ((xs.size : Int) - 1 + (k : Int) * (-1)).toNat = xs.size - 1 - k := by omega
    rw [q]; rfl
  rw [e, PySem.W.krv_range, List.filterMap_reverse, PySem.W.krv_all]
theorem getItem_tup_back {t sl : Addr} {items : Array Value} {vs : Value} {Q : Value → Shared → Prop} (ht : IsTup s.heap t items) (hs : s.heap.IsSliceOf sl .none .none vs) (ps : IsPart vs (some (-1)))
    (h : Q (.ref s.heap.objs.size) { s with heap := s.heap.push { cls := .type "tuple", data := .seq items.toList.reverse.toArray } }) (hsz : items.size ≤ sizeLine) : wpAny (model prog w) A (getItem (.ref t) (.ref sl)) Q E s := by
  obtain ⟨os, hos, hcs, hds⟩ := id hs
  have hTs : s.TypeIs (.ref sl) "slice" := ⟨os, hos, hcs⟩
  have hok : sizeOk (.seq items.toList.reverse.toArray) := by
    show items.toList.reverse.toArray.size ≤ sizeLine
    rw [List.size_toArray, List.length_reverse, Array.length_toList]
    exact hsz
  unfold getItem
  try with_reducible refine wpAny_holding ?_
  first | refine wpAny_bind (wpAny_pure ?_) | skip
  refine wpAny_bind (wpAny_sequenceKey ht.typeIs (by decide) ?_)
  refine wpAny_bind (wpAny_callSpecial?_slot (name := Str.ofString "__getitem__") ht.typeIs PyProof.Rows.slot_tuple_getitem
    (wpAny_call_entry PyProof.Rows.slot_tuple_getitem ht.typeIs entry_tuple_getitem ?_ (args_tuple_getitem _ _)))
  show wpAny _ _ (Builtin.Tuple.tupleItemsOf (.ref t) >>= _) _ _ s
  refine wpAny_bind (tupleItemsOf_ ht ?_)
  refine wpAny_bind (wpAny_typeOf hTs ?_)
  rw [if_pos (by decide)]
  refine wpAny_bind (applied_back hs ps ?_)
  show wpAny _ _ (if (((items.size : Int) - 1) == 0 && (-1 : Int) == 1 && items.size == items.size) = true then _ else _) _ _ s
  rw [if_neg (by rw [show ((-1 : Int) == 1) = false by decide, Bool.and_false, Bool.false_and]; exact Bool.false_ne_true), pick_back]
  first
    | exact wpAny_bind (m := Builtin.Tuple.tupleExact _) (wpAny_newObj_type (wpAny_pure ⟨_, rfl, wpAny_pure h⟩) hok)
    | exact wpAny_bind (m := Builtin.Tuple.tupleExact _) (wpAny_newObj_type (wpAny_bind (wpAny_pure (wpAny_pure ⟨_, rfl, wpAny_pure h⟩))) hok)
    | exact wpAny_bind (wpAny_bind (m := Builtin.Tuple.tupleExact _) (wpAny_newObj_type (wpAny_pure (wpAny_pure ⟨_, rfl, wpAny_pure h⟩)) hok))
    | exact wpAny_bind (wpAny_bind (m := Builtin.Tuple.tupleExact _) (wpAny_newObj_type (wpAny_pure ⟨_, rfl, wpAny_pure h⟩) hok))
end
section
variable {X : Cx}
def tRevF (K : PySem.W.Frag) (te : TE) : TE := fun σ H Q => te σ H fun x H1 => ∃ a xs, x = .ref a ∧ SqT K H1 a xs ∧ ∀ p o, H1 p = none → o.dict = none → Q (.ref p) (upd H1 p (.frz o (.tup xs.reverse)))
theorem pe_revF {e : Expr} {te : TE} {k : Nat} {p1 p2 p3 pos : Pos} (he : PE X e te) : PE X (.Subscript e (.Slice none none (some (.UnaryOp .USub (.Constant (.int 1) k p1) p2)) p3) pos) (tRevF X.K te) := by
  refine ⟨fun pins s σ H Q I h => ?_⟩
  refine Subscript_ (thn (he.run pins s σ H _ I h) fun v s1 ⟨x, H1, I1, r1, q1⟩ => ?_)
  obtain ⟨a, xs, rfl, hx, q⟩ := q1
  cases r1
  have hst : PO X (some (.UnaryOp .USub (.Constant (.int 1) k p1) p2)) (tPart (tUn (rU fun i => .int (-i)) (tC (.int 1)))) := po_some (pe_un un_neg pe_int)
  refine wpAny_Slice (thn (po_none.run pins s1 σ H1 (fun o H2 => o = none ∧ H2 = H1) I1 ⟨rfl, rfl⟩) fun vl s2 ⟨l, H2, I2, pl, el, e2⟩ => ?_)
  subst el e2
  refine thn (po_none.run pins s2 σ H2 (fun o H3 => o = none ∧ H3 = H2) I2 ⟨rfl, rfl⟩) fun vu s3 ⟨u, H3, I3, pu, eu, e3⟩ => ?_
  subst eu e3
  refine thn (hst.run pins s3 σ H3 (fun o H4 => o = some (-1) ∧ H4 = H3) I3 ⟨1, rfl, -1, rfl, rfl, rfl⟩) fun vs s4 ⟨o, H4, I4, ps, eo, e4⟩ => ?_
  subst eo e4
  have evl : vl = .none := by cases pl; rfl
  have evu : vu = .none := by cases pu; rfl
  subst evl evu
  have I5 : Inv X pins σ H4 { s4 with heap := s4.heap.push { cls := .type "slice", data := .fields #[.none, .none, vs] } } := I4.kept (t' := s4.toks) fun b ob q => Heap.get?_push_of_some _ q
  obtain ⟨its, r, ht, hz⟩ := I5.tuple hx
  have hlen := r.length
  show wpAny (model X.prog X.w) X.A (subscriptTail e (.Slice none none (some (.UnaryOp .USub (.Constant (.int 1) k p1) p2)) p3) (.ref a) (.ref s4.heap.objs.size)) (EP X pins σ Q) X.xe { s4 with heap := s4.heap.push { cls := .type "slice", data := .fields #[.none, .none, vs] } }
  refine tail_any (ops := [.ref a, .ref s4.heap.objs.size]) ht.typeIs (PyProof.Rows.slot_tuple_getitem.lookup) ?_ (by with_unfolding_all rfl)
  refine getItem_tup_back ht (Heap.IsSliceOf.new _ .none .none vs) ps ?_ (by rw [List.size_toArray]; omega)
  have nw := Heap.get?_push_size (s4.heap.push { cls := .type "slice", data := .fields #[.none, .none, vs] }) (o := { cls := .type "tuple", data := .seq its.reverse.toArray }) rfl
  refine ⟨.ref _, _, I5.laid (t' := s4.toks) (o := .frz { cls := .type "tuple", data := .seq its.reverse.toArray } (.tup xs.reverse)) (fun b ob q => Heap.get?_push_of_some _ q) (Nat.le_refl _) ⟨nw, ?_⟩, rfl, q _ _ (I5.hok.fresh (Nat.le_refl _)) rfl⟩
  exact ⟨by rw [List.length_reverse]; exact hz, its.reverse, r.reverse, ⟨_, nw, rfl, _, rfl⟩⟩

/-! ### sorted of data, any length -/
theorem Paired.left {α β : Type} {F : α → β → Prop} : ∀ {xs : List α} {ys : List β}, Paired F xs ys → ∀ x ∈ xs, ∃ y ∈ ys, F x y
  | _, _, .nil, x, h => by cases h
  | _, _, .cons r t, x, h => by
    rcases List.mem_cons.mp h with e | h
    · subst e; exact ⟨_, List.mem_cons_self, r⟩
    · obtain ⟨y, hy, f⟩ := Paired.left t x h
      exact ⟨y, List.mem_cons_of_mem _ hy, f⟩
theorem each_both {β : Type} {R : V → β → Prop} {F : Value → β → Prop} : ∀ {xs : List V} {us : List Value} {bs : List β}, Vals xs us → Paired R xs bs → (∀ v u b, RelV v u → R v b → F u b) →
    PySem.W.EachIs F us bs
  | _, _, _, .nil, .nil, _ => .nil
  | _, _, _, .cons r t, .cons r' t', h => .cons (h _ _ _ r r') (each_both t t' h)
theorem each_split {β : Type} {R : V → β → Prop} : ∀ {us : List Value} {bs : List β}, PySem.W.EachIs (fun u b => ∃ v, RelV v u ∧ R v b) us bs → ∃ xs : List V, Vals xs us ∧ Paired R xs bs
  | _, _, .nil => ⟨[], .nil, .nil⟩
  | _, _, .cons ⟨v, r, q⟩ t => by
    obtain ⟨xs, h1, h2⟩ := each_split t
    exact ⟨v :: xs, .cons r h1, .cons q h2⟩
theorem Paired.length' {α β : Type} {F : α → β → Prop} : ∀ {xs : List α} {ys : List β}, Paired F xs ys → xs.length = ys.length
  | _, _, .nil => rfl
  | _, _, .cons _ t => by rw [List.length_cons, List.length_cons, Paired.length' t]
/-- sorted(xs): the items stand for bs (R says how, any further word), each reads as enc of it; the new list stands for the sorted bs -/
def rSortD {β : Type} (K : PySem.W.Frag) (enc : β → PyData) (R : Hp → V → β → Prop) : List V → Hp → VK → Prop := fun vs H Q => ∃ (a : Addr) (xs : List V) (bs : List β), vs = [V.ref a] ∧ SqL K H a xs ∧ Paired (R H) xs bs ∧
  (∀ v b, R H v b → Dp K H v (enc b)) ∧ (PySem.W.Sortable (bs.map enc)) ∧ (∀ b, (enc b).depth ≤ 8) ∧
  ∀ (ys : List V) (p : Addr), H p = none → Paired (R H) ys (bs.mergeSort (PySem.W.dataLe false enc)) → Q (.ref p) (upd H p (.lst ys))
theorem cr_sortD {β : Type} {enc : β → PyData} {R : Hp → V → β → Prop} (hal : ∀ b b', PySem.W.alike (enc b) (enc b') = true) (hu : X.A.units + 11 < cLine) : CallR X (.builtin "sorted") (rSortD X.K enc R) := by
  intro pins s σ H vs us Q I r h
  obtain ⟨a, xs, bs, rfl, hs, hp, hd, hk, hdep, q⟩ := h
  obtain ⟨its, rv, hl, hz⟩ := I.list hs
  rw [Vals.ref1 r]
  have hlen : bs.length = its.length := by rw [← Paired.length' hp, rv.length]
  refine PySem.W.sorted_data (β := β) (bs := bs) (enc := enc) (R := fun u b => ∃ v, RelV v u ∧ R H v b) hl.isList (each_both rv hp fun v u b r1 r2 => ⟨v, r1, r2⟩) (each_both rv hp fun v u b r1 r2 => Dp.reads I (enc b) v u (hd v b r2) r1) (PySem.W.AllAlike.of hal) hk (by rw [hlen, ← rv.length]; exact hz)
    (fun b _ => by have := hdep b; omega) fun out h1 h2 => ?_
  obtain ⟨ys, vy, py⟩ := each_split h2
  obtain ⟨ep, he'⟩ := PyProof.Rows.sortedAll_at s.heap its out.toArray
  have hlo : ys.length ≤ sizeLine := by rw [vy.length, h1, hlen, ← rv.length]; exact hz
  exact ⟨.ref _, upd H (s.heap.objs.size + 1) (.lst ys), I.laid (t' := s.toks) (fun _ _ => PyProof.Rows.sortedAll_old) (Nat.le_succ _) ⟨hlo, out, ep, vy, he'⟩, rfl, q _ _ (I.hok.fresh (Nat.le_succ _)) py⟩
end
end R72
set_option Elab.async false
set_option linter.all false
set_option maxRecDepth 100000
set_option maxHeartbeats 4000000
/-! Set comprehensions over any kind of set that the abstract heap can tell; sets of ints by it; set(x) of a list or tuple of ints. -/
namespace R72
open PySem PySem.Spec PyProof.Rows L2

/-- a kind of set: what stands at an address in state t, the empty state, what one more value makes of a state -/
structure SKind (P : Program) (w : World) where
  T : Type
  ob : Addr → T → HO
  e0 : T
  put : T → V → T → Prop
  fresh : ∀ (H : Hp) (h : Heap), ObjOk P w H (h.push { cls := .type "set", dict := none, data := .set #[] 0 (.fresh 0 0 (!w.params.followText "set-order")) }) h.objs.size (ob h.objs.size e0)
  add : ∀ (Y : Cx), Y.prog = P → Y.w = w → ∀ (pins : List (Addr × Obj)) (σ : L2.St) (H : Hp) (s : Shared) (E : Value → Shared → Prop) (D : Addr) (t t' : T) (y : V) (u : Value) (Q : Value → Shared → Prop), Inv Y pins σ H s → H D = some (ob D t) → put t y t' → RelV y u →
    (∀ s', Inv Y pins σ (upd H D (ob D t')) s' → Q .none s') → wpAny (model P w) Y.A (call (.builtin "set.add") [.ref D, u]) Q E s

section
variable {X : Cx}
/-- {elt for target in iter if ..} into a set of this kind -/
def tScG {P : Program} {w : World} (k : SKind P w) (wi : TI) (g : TG) (tt : TT) (te : TE) (vs : List Nat) : TE := fun σ H Q => wi σ H fun J H1 => ∀ D, H1 D = none → ∃ W : Nat → Nat → Hp → Prop, (∃ m, W 0 m (upd H1 D (k.ob D k.e0))) ∧ ∀ i m H, W i m H →
  (J.stop i H ∧ Q (.ref D) H) ∨ (J.go i H ∧ ∃ Nx : Hp → Prop, (∀ H', Nx H' → ∃ m', m' < m ∧ W (i + 1) m' H') ∧ ∀ x H', J.yld i H x H' → g x (wipe σ vs) H' fun σ2 H2 => wipe σ2 vs = wipe σ vs ∧ tt σ2 H2 fun b H3 =>
    if b = true then te σ2 H3 fun y H4 => ∃ t t', H4 D = some (k.ob D t) ∧ k.put t y t' ∧ Nx (upd H4 D (k.ob D t')) else Nx H3)

theorem pe_scG {elt tg iter : Expr} {ifs : List Expr} {scope : Scope} {own : List (PySem.Str × Nat)} {pos : Pos} {wi : TI} {g : TG} {tt : TT} {te : TE} (k : SKind X.prog X.w) (hc : X.calm = true) (hN : X.N.Nodup) (hi : PI X tg iter wi) (ok : BlkOk X.N X.env.scope scope own)
    (hg : ∀ (s : Shared) (H : Hp) (C : Addr) (cl : List (PySem.Str × Addr)) (fp : List Addr), PG (X.blk s H scope (compEnvC scope cl C X.env) fp) tg g)
    (ht : ∀ (s : Shared) (H : Hp) (C : Addr) (cl : List (PySem.Str × Addr)) (fp : List Addr), PTs (X.blk s H scope (compEnvC scope cl C X.env) fp) ifs tt)
    (he : ∀ (s : Shared) (H : Hp) (C : Addr) (cl : List (PySem.Str × Addr)) (fp : List Addr), PE (X.blk s H scope (compEnvC scope cl C X.env) fp) elt te)
    (hs : ∀ x, foldedSetIterable iter X.env x = pure x := by intro _; rfl) :
    PE X (.SetComp elt [⟨tg, iter, ifs, 0⟩] scope pos) (tScG k wi g tt te (own.map (·.2))) := by
  refine ⟨fun pins s σ H Q I h => ?_⟩
  rw [PpSet.eval_SetComp]
  have free_cells : ∀ y ∈ scope.names, y.2 = .free → ∃ c, X.env.cells.lookup y.1 = some c := fun y hy e => (ok.free y hy e).elim (fun q => I.ok.has _ (.inl q)) fun q => I.ok.has _ (.inr q)
  refine wpAny_comprehension_free (use := none) rfl hs (closure_ok free_cells) ok.kind (fun y hy e => by rw [ok.uniq y hy, e])
    (thn (hi.run pins s σ H _ I h) fun xv s1 hx => thn hx fun itv s2 h2 => ?_)
  obtain ⟨it, fp, tn, J, H2, rfl, I2, T, st2, f2, q⟩ := h2
  refine PpSet.newSet_ok (newEnv_comp ?_)
  generalize hD : s2.heap.objs.size = D
  obtain ⟨W, ⟨m0, w0⟩, turn⟩ := q D (I2.hok.fresh (Nat.le_of_eq hD))
  generalize hs3 : ({ s2 with heap := s2.heap.push { cls := .type "set", dict := none, data := .set #[] 0 (.fresh 0 0 (!X.w.params.followText "set-order")) } } : Shared) = s3
  have h3 : s3.heap = s2.heap.push { cls := .type "set", dict := none, data := .set #[] 0 (.fresh 0 0 (!X.w.params.followText "set-order")) } := by rw [← hs3]
  generalize hH3 : upd H2 D (k.ob D k.e0) = H3 at w0
  have I3 : Inv X pins σ H3 s3 := by
    rw [← hs3, ← hH3]
    refine I2.laid (t' := s2.toks) (fun b o e => Heap.get?_push_of_some _ e) (Nat.le_of_eq hD) ?_
    rw [← hD]
    exact k.fresh _ _
  have old : ∀ b ∈ fp, b < s2.heap.objs.size := fun b hb => let ⟨_, e, _⟩ := T.obj _ _ st2 b hb; Heap.lt_size e
  have f3 : ∀ b ∈ fp, FpOk X pins H3 b ∧ b < s3.heap.objs.size := fun b hb =>
    ⟨⟨by rw [← hH3, upd_ne (by rw [← hD]; exact Nat.ne_of_lt (old b hb))]; exact (f2 b hb).1, (f2 b hb).2⟩, by rw [h3, Heap.size_push]; exact Nat.lt_succ_of_lt (old b hb)⟩
  have st3 : tn 0 s3.heap := T.keep _ _ _ st2 fun b _ o e => by rw [h3]; exact Heap.get?_push_of_some _ e
  have I4 := block_start I3 ok hN f3
  have pg := hg s3 H3 s3.heap.objs.size (cellsFrom (s3.heap.objs.size + 1) scope.names (cloFrom X.env.cells scope.names [])) fp
  have pt := ht s3 H3 s3.heap.objs.size (cellsFrom (s3.heap.objs.size + 1) scope.names (cloFrom X.env.cells scope.names [])) fp
  have pe := he s3 H3 s3.heap.objs.size (cellsFrom (s3.heap.objs.size + 1) scope.names (cloFrom X.env.cells scope.names [])) fp
  show codeAny _ _ (.compStart (.SetComp elt [⟨tg, iter, ifs, 0⟩] scope pos) 0 (.ref it) (.ref D) (compEnvC scope (cellsFrom (s3.heap.objs.size + 1) scope.names (cloFrom X.env.cells scope.names [])) s3.heap.objs.size X.env)) (compPost (model X.prog X.w) X.A X.xe none (EP X pins σ Q) (.ref D) s3.heap.objs.size) { s3 with heap := pushCells (s3.heap.push { cls := .type "dict", data := .dict #[] }) scope.names }
  generalize hce : compEnvC scope (cellsFrom (s3.heap.objs.size + 1) scope.names (cloFrom X.env.cells scope.names [])) s3.heap.objs.size X.env = ce at I4 pg pt pe ⊢
  have cL : ce.locals = s3.heap.objs.size := by subst hce; rfl
  generalize hs4 : ({ s3 with heap := pushCells (s3.heap.push { cls := .type "dict", data := .dict #[] }) scope.names } : Shared) = s4 at I4 ⊢
  have st4 : tn 0 s4.heap := T.keep _ _ _ st3 fun b _ o e => by rw [← hs4]; exact pushCells_keeps _ _ _ _ (Heap.get?_push_of_some _ e)
  -- the iterator's own objects, within the block
  have own_ok : ∀ {σ' : L2.St} {H' : Hp} {s' : Shared}, Inv (X.blk s3 H3 scope ce fp) [] σ' H' s' → (∀ b ∈ fp, H' b = none) → ∀ b ∈ fp, FpOk (X.blk s3 H3 scope ce fp) [] H' b := fun I' hn b hb =>
    ⟨hn b hb, (I'.ok.exf b hb).1, I'.ok.exfs b hb, .inl hb, fun x c e => (I'.ok.exf b hb).2 x c e, fun p hp => absurd (show p ∈ ([] : List (Addr × Obj)) ++ [] from hp) (by simp)⟩
  -- what holds ahead of each turn
  let Tn : Nat → Shared → Prop := fun n s' => ∃ i H', Inv (X.blk s3 H3 scope ce fp) [] (wipe σ (own.map (·.2))) H' s' ∧ tn i s'.heap ∧ (∀ b ∈ fp, H' b = none) ∧ W i n H'
  have loop : codeAny (model X.prog X.w) X.A (.compLoop (.SetComp elt [⟨tg, iter, ifs, 0⟩] scope pos) 0 (.ref it) (.ref D) ce) (compPost (model X.prog X.w) X.A X.xe none (EP X pins σ Q) (.ref D) s3.heap.objs.size) s4 := by
    refine PpSet.compLoopS_any Tn ?_ m0 ⟨0, H3, I4, st4, fun b hb => (f3 b hb).1.1, w0⟩
    rintro n s5 ⟨i, H5, I5, st5, n5, w5⟩
    rcases turn i n H5 w5 with ⟨stop, qq⟩ | ⟨go, Nx, hNx, step⟩
    · refine thnF (T.done (X.blk s3 H3 scope ce fp) rfl rfl rfl hc i [] s5 _ H5 (fun _ _ => False) I5 (own_ok I5 n5) st5 stop) fun r s6 ⟨hr, I6⟩ => ?_
      subst hr
      have I7 : Inv X pins σ H5 s6 := I3.call' (ch := fp) I6.os I6.base I6.hok I6.bare fun b hb => ⟨(f3 b hb).1.2.2.2.1, (f3 b hb).1.2.1, (f3 b hb).1.2.2.2.2.1, (f3 b hb).1.2.2.2.2.2⟩
      have nC : H5 s3.heap.objs.size = none := by rw [← cL]; exact I6.free
      obtain ⟨m, hn, _⟩ := I6.loc
      obtain ⟨g0, g1, g2, g3, g4, g5⟩ := I3.fpOk (H' := H5) (Nat.le_refl _) nC
      refine ⟨m, by rw [← cL]; exact hn, fun h'' sb => ?_⟩
      exact ⟨.ref D, H5, I7.turned (t' := s6.toks) (fun b o hb e => (sb.2 b hb).trans e) g0 g1 g3 g4 g5, rfl, qq⟩
    · refine thnF (T.item (X.blk s3 H3 scope ce fp) rfl rfl rfl hc i [] s5 _ H5 (fun _ _ => False) I5 (own_ok I5 n5) st5 go) fun r s6 ⟨u, hr, h6⟩ => ?_
      subst hr
      refine thnF h6 fun _ s7 ⟨x, H7, I7, r7, y7, st7, n7⟩ => ?_
      refine thnF (pg.run _ s7 _ H7 x u _ (I7.pinned (own_ok I7 n7) (T.obj _ _ st7)) r7 (step x H7 y7)) fun _ s8 ⟨σ8, H8, I8, hw8, q8⟩ => ?_
      refine thnF (pt.run _ s8 σ8 H8 _ I8 q8) fun b s9 ⟨H9, I9, q9⟩ => ?_
      have again : ∀ {s' : Shared} {H' : Hp}, Inv (X.blk s3 H3 scope ce fp) ([] ++ pinsAt fp s7.heap) σ8 H' s' → Nx H' → ∃ m, m < n ∧ Tn m s' := fun {s' H'} I' nx => by
        obtain ⟨m', hm, w'⟩ := hNx H' nx
        have kept : ∀ b ∈ fp, ∀ o, s7.heap.get? b = some o → s'.heap.get? b = some o ∧ H' b = none := fun b hb o e =>
          let z := I'.pin (b, o) (List.mem_append_right _ (List.mem_append_right _ (mem_pinsAt hb e)))
          ⟨z.1, z.2.1⟩
        refine ⟨m', hm, i + 1, H', (I'.unpinned (pins := [])).weak (by rw [← hw8, wipe_length]) (fun j v e => ?_), T.keep _ _ _ st7 fun b hb o e => (kept b hb o e).1, fun b hb => ?_, w'⟩
        · rw [← hw8] at e
          exact (wipe_some e).1
        · obtain ⟨o, e, _⟩ := T.obj _ _ st7 b hb
          exact (kept b hb o e).2
      cases b with
      | false =>
        simp only [Bool.false_eq_true, if_false] at q9 ⊢
        exact again I9 q9
      | true =>
        simp only [if_true] at q9 ⊢
        refine thnF (pe.run _ s9 σ8 H9 _ I9 q9) fun z s10 ⟨yv, H10, I10, r10, t, t', e10, put, nx⟩ => ?_
        exact k.add (X.blk s3 H3 scope ce fp) rfl rfl _ σ8 H10 s10 _ D t t' yv z _ I10 e10 put r10 fun s11 I11 => again I11 nx
  exact PpSet.codeAny_compStart_set loop (T.self X.A 0 _ _ _ st4 loop)

/-! ### sets of ints -/
def intSet (P : Program) (w : World) : SKind P w where
  T := (Int → Bool) × Nat
  ob := fun D t => SetO w D t.1 t.2
  e0 := (fun _ => false, 0)
  put := fun t y t' => ∃ c, y = .int c ∧ t.2 + 1 < scanBound ∧ t' = (fun j => t.1 j || decide (j = c), if t.1 c = true then t.2 else t.2 + 1)
  fresh := fun H h => setO_new (setR_fresh w)
  add := by
    rintro Y rfl rfl pins σ H s E D t t' y u Q I hD ⟨c, rfl, room, rfl⟩ r h
    obtain ⟨tk, rfl⟩ := (show ∃ tk, u = Value.int c tk from r)
    refine setR_add (setO_get I hD) room fun h' sb new => ?_
    have he : ∃ u, h'.get? D = some u := by
      have ⟨o, _, _, _, ho, _⟩ := new
      exact ⟨o, ho⟩
    exact h _ (I.write (e := D) (t' := s.toks + 1) (by rw [hD]; trivial) (.inl rfl) (fun b u hb hu => (sb.2 b hb).trans hu) he (setO_new new))
end
end R72
set_option Elab.async false
set_option linter.all false
set_option maxRecDepth 100000
set_option maxHeartbeats 4000000
/-! set(x) of a list or a tuple of ints, over the layer. -/
namespace R72
open PySem PySem.Spec PyProof.Rows L2
section
variable {P : Program} {w : World} {A : Around} {E : Value → Shared → Prop} {s : Shared}
abbrev setNew (w : World) : Obj := { cls := .type "set", dict := none, data := .set #[] 0 (.fresh 0 0 (!w.params.followText "set-order")) }
set_option maxHeartbeats 3200000 in
theorem call_set_lstI {l : Addr} {items : Array Value} (ns : List Int) {Q : Value → Shared → Prop} (hh : A.handled = none) (hl : s.heap.IsList l items) (hit : IntsAre items.toList ns) (hb : ns.length + 1 < scanBound)
    (h : ∀ (h' : Heap) (tk c : Nat), SetR w h' s.heap.objs.size (fun j => decide (j ∈ ns)) c → c ≤ ns.length → (∀ b o, s.heap.get? b = some o → h'.get? b = some o) → Q (.ref s.heap.objs.size) { s with heap := h', toks := tk }) :
    wpAny (model P w) A (call (.type "set") [.ref l]) Q E s := by
  have many : items.size = ns.length := by
    have q := IntsAre.length hit
    rwa [Array.length_toList] at q
  obtain ⟨_, _, hmro⟩ := F.called_set.mro
  have hmade := F.called_set.made
  have hsub := F.called_set.sub
  refine wpAny_call (codeAny_of_tree ?_)
  show wpAny _ _ (callAny (.type "set") _) _ _ _
  refine wpAny_pure ⟨Code.quiet_builtin _ (by decide +kernel), codeAny_builtin F.entry_type_call ?_⟩
  rw [Around.under_plain (weight_type_call_type "set" [.ref l] []) rfl]
  have h1 := F.called_set.notType
  have h2 := F.called_set.canCreate
  have hct := F.typeCall_set_1 (.ref l)
  repeat (any_goals (first | assumption | wp_step))
  refine codeAny_mono (code_set_led1 (.ref l) (E := E) (Q₁ := fun obj s₁ => obj = .ref s.heap.objs.size ∧ s₁ = { s with heap := s.heap.push (setNew w) }) ⟨rfl, rfl⟩) fun r s₁ hr => ?_
  cases r with
  | error e => exact hr
  | ok fl =>
    cases fl with
    | ret obj =>
      obtain ⟨rfl, rfl⟩ := hr
      have hS : (s.heap.push (setNew w)).get? s.heap.objs.size = some (setNew w) := Heap.get?_push_size _ rfl
      have hT : Shared.TypeIs { s with heap := s.heap.push (setNew w) } (.ref s.heap.objs.size) "set" := ⟨_, hS, rfl⟩
      have hli := F.called_set.init.lookup
      have hbi := F.called_set.init.bind (.ref s.heap.objs.size)
      repeat (any_goals (first | assumption | wp_step))
      refine codeAny_mono (codeAny_call_builtin (R := wants (fun r s₂ => r = .none ∧ ∃ h' tk c, s₂ = { s with heap := h', toks := tk } ∧ SetR w h' s.heap.objs.size (fun j => decide (j ∈ ns)) c ∧ c ≤ ns.length ∧
          (∀ b o, s.heap.get? b = some o → h'.get? b = some o)) E) F.called_set.init.plain F.entry_set_init (check_set_init_1 hT ?_)) fun r₂ s₂ hr₂ => ?_
      · obtain ⟨⟨ocls, odict, odata, oslots⟩, hol, hcl, nl, hdl⟩ := hl
        simp only at hcl hdl
        subst hcl hdl
        have hsls := F.sub_list_set
        have hslf := F.sub_list_frozenset
        have hne : (Value.type "list" == Value.type "dict") = false := by decide
        have hol' : (s.heap.push (setNew w)).get? l = some { cls := .type "list", dict := odict, data := .seq items nl, slots := oslots } := Heap.get?_push_of_some _ hol
        have hl1 : (s.heap.push (setNew w)).IsList l items := ⟨_, hol', rfl, nl, rfl⟩
        unfold Builtin.«set.__init__» noKeywords Builtin.Frozenset.updateFrom
        generalize hPI : pyIter = PI
        wp_walk
        subst hPI
        refine wpAny_pyIter_list hl1 ?_
        refine wpAny_bind (wpAny_runValue ?_)
        have hlS : l < s.heap.objs.size := Heap.lt_size hol
        have hh3 : A.in1.in1.in1.handled = none := by simp [hh]
        have hz1 : (s.heap.push (setNew w)).objs.size = s.heap.objs.size + 1 := Heap.size_push ..
        have apart : l ≠ (s.heap.push (setNew w)).objs.size := by rw [hz1]; exact Nat.ne_of_lt (Nat.lt_succ_of_lt hlS)
        have off : s.heap.objs.size ∉ [(s.heap.push (setNew w)).objs.size, l] := by
          rw [hz1]; simp only [List.mem_cons, List.mem_singleton, List.not_mem_nil, or_false, not_or]
          exact ⟨Nat.ne_of_lt (Nat.lt_succ_self _), Nat.ne_of_gt hlS⟩
        have each : ∀ (i : Nat) (v : Value), items[i]? = some v → ∃ k t, ns[i]? = some k ∧ v = .int k t := fun i v hv => by
          have hi : i < ns.length := by rw [← many]; exact (Array.getElem?_eq_some_iff.mp hv).1
          obtain ⟨t, e⟩ := PyProof.Rows.IntsAre.int_at hit i v (by rw [Array.getElem?_toList]; exact hv)
          refine ⟨ns[i], t, List.getElem?_eq_getElem hi, ?_⟩
          rw [e, List.getD_eq_getElem?_getD, List.getElem?_eq_getElem hi] <;> rfl
        refine set_update_ints ((Walks.list hh3 _ l apart items).toS) s.heap.objs.size off ns many hb each (items.size - 0) 0 _ (by omega) (Nat.zero_le _)
          ⟨⟨_, Heap.get?_push_size _ rfl, rfl, rfl⟩, (hl1.push _)⟩ ?atStart ?atEnd
        case atStart => exact ⟨0, Nat.le_refl 0, setR_new_at (Heap.get?_push_of_some _ hS)⟩
        case atEnd =>
          intro s' c' hm hc' hS'
          obtain ⟨h', g2, d', tk', os'⟩ := s'
          obtain rfl : g2 = s.gens := hm.gens
          obtain rfl : d' = s.drawn := hm.drawn
          obtain rfl : os' = s.os := hm.os
          show wpAny _ _ _ _ _ _
          refine wpAny_pure ?_
          show wpAny _ _ (ret Value.none) _ _ _
          rw [many] at hc'
          refine wpAny_pure ⟨rfl, h', tk', c', rfl, hS', hc', fun b o e => ?_⟩
          have hb0 : b < s.heap.objs.size := Heap.lt_size e
          refine hm.heap b o ?_ (Heap.get?_push_of_some _ (Heap.get?_push_of_some _ e))
          simp only [List.mem_cons, List.mem_singleton, List.not_mem_nil, or_false, not_or]
          exact ⟨Nat.ne_of_lt hb0, by rw [hz1]; exact Nat.ne_of_lt (Nat.lt_succ_of_lt hb0)⟩
      · cases r₂ with
        | error e => exact hr₂
        | ok fl₂ =>
          cases fl₂ with
          | ret r =>
            obtain ⟨rfl, h', tk, c, rfl, hS', hc', hk'⟩ := hr₂
            repeat (any_goals (first | assumption | wp_step))
            exact h _ _ _ hS' hc' hk'
          | _ => exact hr₂.elim
    | _ => exact hr.elim
end
section
variable {X : Cx}
/-- set(x): its members are those of x -/
def rSetI (K : PySem.W.Frag) (w : World) : List V → Hp → VK → Prop := fun vs H Q => ∃ (a : Addr) (ns : List Int), vs = [V.ref a] ∧ (SqL K H a (ns.map V.int) ∨ SqT K H a (ns.map V.int)) ∧ ns.length ≤ 1000 ∧
  ∀ (p : Addr) (c : Nat), H p = none → c ≤ ns.length → Q (.ref p) (upd H p (SetO w p (fun j => decide (j ∈ ns)) c))
theorem cr_setI (hc : X.calm = true) : CallR X (.type "set") (rSetI X.K X.w) := by
  intro pins s σ H vs us Q I r h
  obtain ⟨a, ns, rfl, hs, hz, q⟩ := h
  rw [Vals.ref1 r]
  have room : ns.length + 1 < scanBound := Nat.lt_of_le_of_lt (Nat.succ_le_succ hz) (by decide)
  have fin : ∀ (h' : Heap) (tk c : Nat), SetR X.w h' s.heap.objs.size (fun j => decide (j ∈ ns)) c → c ≤ ns.length → (∀ b o, s.heap.get? b = some o → h'.get? b = some o) → EP X pins σ Q (.ref s.heap.objs.size) { s with heap := h', toks := tk } :=
    fun h' tk c R hc' k => ⟨.ref s.heap.objs.size, _, I.laid (t' := tk) k (Nat.le_refl _) (setO_new R), rfl, q _ c (I.hok.fresh (Nat.le_refl _)) hc'⟩
  rcases hs with hs | hs
  · obtain ⟨its, rv, pl, _⟩ := I.list hs
    exact call_set_lstI ns (I.ok.hd hc) pl.isList (by simpa using rv.ints) room fin
  · obtain ⟨its, rv, pl, _⟩ := I.tuple hs
    exact call_set_tupI ns (I.ok.hd hc) pl (by simpa using rv.ints) room fin
end
end R72
set_option Elab.async false
set_option linter.all false
set_option maxRecDepth 100000
set_option maxHeartbeats 4000000
/-! Words of our own over the abstract heap: what stands for a simplex, a row of simplices ..; how a heap grows; one lemma for all comprehensions. -/
namespace B72
open PySem PySem.Spec PyProof.Rows L2 R72 Mk72

/-! ### how a heap grows -/
/-- the tuples are kept -/
def KeepT (H H' : Hp) : Prop := ∀ a xs, H a = some (.tup xs) → H' a = some (.tup xs)
theorem KeepT.refl (H : Hp) : KeepT H H := fun _ _ h => h
theorem KeepT.trans {a b c : Hp} (h : KeepT a b) (h' : KeepT b c) : KeepT a c := fun x xs q => h' _ _ (h _ _ q)
structure Ext (L : Hp → Hp → Prop) : Prop where
  tr : ∀ {a b c : Hp}, L a b → L b c → L a c
  fr : ∀ {H H' : Hp} {D : Addr}, L H H' → H' D = none → H D = none
  md : ∀ {H H' : Hp} {D : Addr} (o : HO), L H H' → H D = none → L H (upd H' D o)
  kp : ∀ {H1 H H' : Hp} {D : Addr} {o : HO}, L H1 H → L H H' → H1 D = none → H D = some o → H' D = some o
  kt : ∀ {H H' : Hp}, L H H' → KeepT H H'
theorem Ext.al {L : Hp → Hp → Prop} (e : Ext L) {H H' : Hp} {D : Addr} (o : HO) (h : L H H') (n : H' D = none) : L H (upd H' D o) := e.md o h (e.fr h n)
theorem same_upd {H : Hp} {p : Addr} {o : HO} (h : H p = none) : Same H (upd H p o) := fun b x e => by rw [upd_ne (ne_of_none e h)]; exact e
theorem Same.md {H H' : Hp} {D : Addr} (o : HO) (h : Same H H') (n : H D = none) : Same H (upd H' D o) := fun b x e => by rw [upd_ne (ne_of_none e n)]; exact h b x e
theorem Same.kt {H H' : Hp} (h : Same H H') : KeepT H H' := fun a xs e => h a _ e
theorem ext_same : Ext Same := ⟨fun h h' => h.trans h', fun h n => h.free n, fun o h n => Same.md o h n, fun _ h' _ e => h' _ _ e, fun h => Same.kt h⟩
theorem keepT_lst {H : Hp} {D : Addr} {l l' : List V} (e : H D = some (.lst l)) : KeepT H (upd H D (.lst l')) := fun a xs q => by
  rw [upd_ne (ne_of q e (by intro z; cases z))]; exact q

theorem sqT_sm {K : PySem.W.Frag} {H H' : Hp} {a : Addr} {xs : List V} (h : SqT K H a xs) (e : Same H H') : SqT K H' a xs := by
  rcases h with (h | ⟨o, h⟩) | h
  · exact .inl (.inl (e _ _ h))
  · exact .inl (.inr ⟨o, e _ _ h⟩)
  · exact .inr h
theorem rd_sm {H H' : Hp} {a : Addr} {u : HO} (h : Rd H a u) (e : Same H H') : Rd H' a u := by
  rcases h with h | ⟨o, h⟩
  · exact .inl (e _ _ h)
  · exact .inr ⟨o, e _ _ h⟩
theorem filter_yes {α : Type} (l : List α) : l.filter (fun _ => true) = l := List.filter_eq_self.mpr (by simp)

/-! ### pairs of lists -/
theorem Paired.len {α β : Type} {F : α → β → Prop} : ∀ {xs : List α} {ys : List β}, Paired F xs ys → xs.length = ys.length
  | _, _, .nil => rfl
  | _, _, .cons _ t => by rw [List.length_cons, List.length_cons, Paired.len t]
theorem Paired.mp {α β : Type} {F G : α → β → Prop} (h : ∀ a b, F a b → G a b) : ∀ {xs : List α} {ys : List β}, Paired F xs ys → Paired G xs ys
  | _, _, .nil => .nil
  | _, _, .cons r t => .cons (h _ _ r) (Paired.mp h t)
theorem Paired.snoc {α β : Type} {F : α → β → Prop} {x : α} {y : β} (h : F x y) : ∀ {xs : List α} {ys : List β}, Paired F xs ys → Paired F (xs ++ [x]) (ys ++ [y])
  | _, _, .nil => .cons h .nil
  | _, _, .cons r t => .cons r (Paired.snoc h t)
theorem Paired.app {α β : Type} {F : α → β → Prop} : ∀ {xs xs' : List α} {ys ys' : List β}, Paired F xs ys → Paired F xs' ys' → Paired F (xs ++ xs') (ys ++ ys')
  | _, _, _, _, .nil, q => q
  | _, _, _, _, .cons r t, q => .cons r (Paired.app t q)
theorem Paired.at {α β : Type} {F : α → β → Prop} : ∀ {xs : List α} {ys : List β} {i : Nat} {x : α}, Paired F xs ys → xs[i]? = some x → ∃ y, ys[i]? = some y ∧ F x y
  | _, _, _, _, .nil, e => by simp at e
  | _, _, 0, _, .cons r _, e => by simp at e; subst e; exact ⟨_, rfl, r⟩
  | _, _, i + 1, x, .cons _ t, e => by
    obtain ⟨y, h1, h2⟩ := Paired.at (i := i) (x := x) t (by simpa using e)
    exact ⟨y, by simpa using h1, h2⟩
theorem Paired.at' {α β : Type} {F : α → β → Prop} : ∀ {xs : List α} {ys : List β} {i : Nat} {y : β}, Paired F xs ys → ys[i]? = some y → ∃ x, xs[i]? = some x ∧ F x y
  | _, _, _, _, .nil, e => by simp at e
  | _, _, 0, _, .cons r _, e => by simp at e; subst e; exact ⟨_, rfl, r⟩
  | _, _, i + 1, x, .cons _ t, e => by
    obtain ⟨y, h1, h2⟩ := Paired.at' (i := i) (y := x) t (by simpa using e)
    exact ⟨y, by simpa using h1, h2⟩
theorem Paired.mapR {α β γ : Type} {F : α → β → Prop} {G : α → γ → Prop} (g : β → γ) (h : ∀ a b, F a b → G a (g b)) : ∀ {xs : List α} {ys : List β}, Paired F xs ys → Paired G xs (ys.map g)
  | _, _, .nil => .nil
  | _, _, .cons r t => .cons (h _ _ r) (Paired.mapR g h t)
theorem Paired.tail {α β : Type} {F : α → β → Prop} : ∀ {xs : List α} {ys : List β}, Paired F xs ys → Paired F (xs.drop 1) (ys.drop 1)
  | _, _, .nil => .nil
  | _, _, .cons _ t => t
theorem Paired.eqv {α β : Type} {g : β → α} : ∀ {xs : List α} {ys : List β}, Paired (fun x y => x = g y) xs ys → xs = ys.map g
  | _, _, .nil => rfl
  | _, _, .cons r t => by rw [r, Paired.eqv t]; rfl
theorem Paired.flip' {α β : Type} {F : α → β → Prop} : ∀ {xs : List α} {ys : List β}, Paired F xs ys → Paired (fun y x => F x y) ys xs
  | _, _, .nil => .nil
  | _, _, .cons r t => .cons r (Paired.flip' t)
theorem Paired.of_map {α β : Type} {F : α → β → Prop} (g : β → α) (h : ∀ b, F (g b) b) : ∀ ys : List β, Paired F (ys.map g) ys
  | [] => .nil
  | y :: ys => .cons (h y) (Paired.of_map g h ys)

/-! ### what stands for what -/
/-- a simplex: a tuple of ints -/
def IsS (H : Hp) (v : V) (s : Sx) : Prop := ∃ a, v = .ref a ∧ H a = some (.tup (s.map V.int))
theorem IsS.kt {H H' : Hp} (k : KeepT H H') {v : V} {s : Sx} (h : IsS H v s) : IsS H' v s := let ⟨a, e, q⟩ := h; ⟨a, e, k _ _ q⟩
abbrev IsSs (H : Hp) : List V → List Sx → Prop := Paired (IsS H)
theorem IsSs.kt {H H' : Hp} (k : KeepT H H') {xs : List V} {ss : List Sx} (h : IsSs H xs ss) : IsSs H' xs ss := Paired.mp (fun _ _ q => q.kt k) h
theorem map_int_inj : ∀ {s t : List Int}, s.map V.int = t.map V.int → s = t
  | [], [], _ => rfl
  | [], _ :: _, h => by cases h
  | _ :: _, [], h => by cases h
  | a :: s, b :: t, h => by
    have h' : V.int a :: s.map V.int = V.int b :: t.map V.int := h
    injection h' with h1 h2
    injection h1 with h1
    rw [h1, map_int_inj h2]
theorem IsS.inj {H : Hp} {v : V} {s t : Sx} (h : IsS H v s) (h' : IsS H v t) : s = t := by
  obtain ⟨a, rfl, e⟩ := h
  obtain ⟨b, q, e'⟩ := h'
  cases q
  rw [e] at e'
  injection e' with e'
  injection e' with e'
  exact map_int_inj e'
/-- a tuple, a list of simplices -/
def TupSs (H : Hp) (v : V) (ss : List Sx) : Prop := ∃ a xs, v = .ref a ∧ H a = some (.tup xs) ∧ IsSs H xs ss
def LstSs (H : Hp) (v : V) (ss : List Sx) : Prop := ∃ a xs, v = .ref a ∧ H a = some (.lst xs) ∧ IsSs H xs ss
theorem TupSs.kt {H H' : Hp} (k : KeepT H H') {v : V} {ss : List Sx} (h : TupSs H v ss) : TupSs H' v ss := let ⟨a, xs, e, q, r⟩ := h; ⟨a, xs, e, k _ _ q, IsSs.kt k r⟩
theorem LstSs.sm {H H' : Hp} (k : Same H H') {v : V} {ss : List Sx} (h : LstSs H v ss) : LstSs H' v ss := let ⟨a, xs, e, q, r⟩ := h; ⟨a, xs, e, k _ _ q, IsSs.kt (Same.kt k) r⟩
/-- a list of ints -/
def LstI (H : Hp) (v : V) (ns : List Int) : Prop := ∃ a, v = .ref a ∧ H a = some (.lst (ns.map V.int))
theorem LstI.sm {H H' : Hp} (k : Same H H') {v : V} {ns : List Int} (h : LstI H v ns) : LstI H' v ns := let ⟨a, e, q⟩ := h; ⟨a, e, k _ _ q⟩
/-- the dict of some simplices, True at each -/
def keyS (s : Sx) : List Key := s.map Sum.inl
def dOf (F : List Sx) : HO := .dT (F.map fun s => (keyS s, V.bl true))
def DctS (H : Hp) (v : V) (F : List Sx) : Prop := ∃ a, v = .ref a ∧ H a = some (dOf F)
theorem DctS.sm {H H' : Hp} (k : Same H H') {v : V} {F : List Sx} (h : DctS H v F) : DctS H' v F := let ⟨a, e, q⟩ := h; ⟨a, e, k _ _ q⟩
theorem keyS_kV (s : Sx) : (keyS s).map kV = s.map V.int := by
  unfold keyS
  rw [List.map_map]
  rfl
theorem keyS_inj : ∀ {s t : Sx}, keyS s = keyS t → s = t
  | [], [], _ => rfl
  | [], _ :: _, h => by cases h
  | _ :: _, [], h => by cases h
  | a :: s, b :: t, h => by
    have h' : (Sum.inl a : Key) :: keyS s = Sum.inl b :: keyS t := h
    injection h' with h1 h2
    injection h1 with h1
    rw [h1, keyS_inj h2]

/-! ### a dict's entries -/
theorem valV_of (F : List Sx) (s : Sx) : valV (F.map fun s => (keyS s, V.bl true)) (keyS s) = if s ∈ F then some (.bl true) else none := by
  induction F with
  | nil => rfl
  | cons t F ih =>
    by_cases e : t = s
    · subst e
      simp [valV]
    · have e' : ¬ keyS t = keyS s := fun q => e (keyS_inj q)
      have ih' : (List.find? (fun kv => decide (kv.1 = keyS s)) (F.map fun s => (keyS s, V.bl true))).map (·.2) = if s ∈ F then some (.bl true) else none := ih
      unfold valV
      rw [List.map_cons, List.find?_cons_of_neg (by simpa using e'), ih']
      simp [List.mem_cons, Ne.symm e, show (s = t) = False from by simp; exact fun q => e q.symm]
theorem putK_of (F : List Sx) (s : Sx) : putK (F.map fun s => (keyS s, V.bl true)) (keyS s) (.bl true) = (ins F s).map fun s => (keyS s, V.bl true) := by
  unfold ins
  by_cases h : s ∈ F
  · rw [if_pos h]
    have hv : valV (F.map fun s => (keyS s, V.bl true)) (keyS s) = some (.bl true) := by rw [valV_of, if_pos h]
    unfold putK
    rw [if_pos (by rw [valV_any, hv]; rfl)]
    rw [List.map_map]
    refine List.map_congr_left fun t _ => ?_
    show (if keyS t = keyS s then (keyS t, V.bl true) else (keyS t, V.bl true)) = (keyS t, V.bl true)
    split <;> rfl
  · rw [if_neg h]
    have hv : valV (F.map fun s => (keyS s, V.bl true)) (keyS s) = none := by rw [valV_of, if_neg h]
    rw [putK_new _ hv, List.map_append]
    rfl

/-! ### one lemma for all comprehensions -/
section
variable {L : Hp → Hp → Prop} {J : It} {G : Hp → Prop} {Y : Nat → Hp → V → Hp → Prop} {β γ : Type}
theorem lc_all (eL : Ext L) {bs : List β} (w : Walk J bs.length G Y) (p : β → Bool) (Rel : β → γ → Prop) (Ro : Hp → V → γ → Prop) (hRo : ∀ {H H' : Hp} {y : V} {c : γ}, KeepT H H' → Ro H y c → Ro H' y c)
    {g : TG} {tt : TT} {te : TE} {vs : List Nat} {σ : L2.St} {H1 : Hp} {D : Addr} {Qd : Hp → Prop} (hD : H1 D = none) (h1 : L H1 H1) (hb : bs.length ≤ 100000) (hG : ∀ H, L H1 H → G H)
    (hs : ∀ (i : Nat) (x : V) (b : β) (H H' : Hp) (NT : V → Hp → Prop) (NF : Hp → Prop), bs[i]? = some b → L H1 H → Y i H x H' → (p b = true → ∀ y c H4, L H H4 → Rel b c → Ro H4 y c → NT y H4) → (p b = false → ∀ H3, L H H3 → NF H3) →
      g x (wipe σ vs) H' fun σ2 H2 => wipe σ2 vs = wipe σ vs ∧ tt σ2 H2 fun bb H3 => if bb = true then te σ2 H3 NT else NF H3)
    (hd : ∀ (H : Hp) (ys : List V) (cs : List γ), L H1 H → H D = some (.lst ys) → Paired Rel (bs.filter p) cs → Paired (Ro H) ys cs → Qd H) :
    ∃ W : Nat → Nat → Hp → Prop, (∃ m, W 0 m (upd H1 D (.lst []))) ∧ ∀ i m H, W i m H →
      (J.stop i H ∧ Qd H) ∨ (J.go i H ∧ ∃ Nx : Hp → Prop, (∀ H', Nx H' → ∃ m', m' < m ∧ W (i + 1) m' H') ∧ ∀ x H', J.yld i H x H' → g x (wipe σ vs) H' fun σ2 H2 => wipe σ2 vs = wipe σ vs ∧ tt σ2 H2 fun b H3 =>
        if b = true then te σ2 H3 fun y H4 => ∃ acc, H4 D = some (.lst acc) ∧ acc.length < sizeLine ∧ Nx (upd H4 D (.lst (acc ++ [y]))) else Nx H3) := by
  refine lc_it w (fun i H => L H1 H ∧ ∃ ys cs, H D = some (.lst ys) ∧ Paired Rel ((bs.take i).filter p) cs ∧ Paired (Ro H) ys cs) ⟨eL.al _ h1 hD, [], [], upd_same, .nil, .nil⟩ (fun i H _ h => hG H h.1) ?_ ?_
  · rintro i x H H' hi ⟨l, ys, cs, e, r1, r2⟩ hy
    have hbi : bs[i]? = some bs[i] := List.getElem?_eq_getElem hi
    have etake : (bs.take (i + 1)).filter p = (bs.take i).filter p ++ (if p bs[i] = true then [bs[i]] else []) := by
      rw [List.take_add_one, hbi, List.filter_append]
      congr 1
      show List.filter p [bs[i]] = _
      rw [List.filter_cons]
      rfl
    refine hs i x bs[i] H H' _ _ hbi l hy (fun hp y c H4 l4 rel ro => ?_) (fun hp H3 l3 => ?_)
    · have e4 := eL.kp l l4 hD e
      refine ⟨ys, e4, ?_, eL.md _ (eL.tr l l4) hD, ys ++ [y], cs ++ [c], upd_same, ?_, ?_⟩
      · rw [Paired.len r2, ← Paired.len r1]
        exact Nat.lt_of_le_of_lt (Nat.le_trans (List.length_filter_le _ _) (Nat.le_trans (by rw [List.length_take]; exact Nat.min_le_right _ _) hb)) (by decide)
      · rw [etake, if_pos hp]
        exact Paired.snoc rel r1
      · exact Paired.snoc (hRo (keepT_lst e4) ro) (Paired.mp (fun _ _ q => hRo (keepT_lst e4) (hRo (eL.kt l4) q)) r2)
    · refine ⟨eL.tr l l3, ys, cs, eL.kp l l3 hD e, ?_, Paired.mp (fun _ _ q => hRo (eL.kt l3) q) r2⟩
      rw [etake, if_neg (by rw [hp]; exact Bool.false_ne_true), List.append_nil]
      exact r1
  · rintro H ⟨l, ys, cs, e, r1, r2⟩
    rw [List.take_length] at r1
    exact hd H ys cs l e r1 r2
/-- .. where each item's result is a function of it -/
theorem lc_fun (eL : Ext L) {bs : List β} (w : Walk J bs.length G Y) (p : β → Bool) (f : β → γ) (Ro : Hp → V → γ → Prop) (hRo : ∀ {H H' : Hp} {y : V} {c : γ}, KeepT H H' → Ro H y c → Ro H' y c)
    {g : TG} {tt : TT} {te : TE} {vs : List Nat} {σ : L2.St} {H1 : Hp} {D : Addr} {Qd : Hp → Prop} (hD : H1 D = none) (h1 : L H1 H1) (hb : bs.length ≤ 100000) (hG : ∀ H, L H1 H → G H)
    (hs : ∀ (i : Nat) (x : V) (b : β) (H H' : Hp) (NT : V → Hp → Prop) (NF : Hp → Prop), bs[i]? = some b → L H1 H → Y i H x H' → (p b = true → ∀ y H4, L H H4 → Ro H4 y (f b) → NT y H4) → (p b = false → ∀ H3, L H H3 → NF H3) →
      g x (wipe σ vs) H' fun σ2 H2 => wipe σ2 vs = wipe σ vs ∧ tt σ2 H2 fun bb H3 => if bb = true then te σ2 H3 NT else NF H3)
    (hd : ∀ (H : Hp) (ys : List V), L H1 H → H D = some (.lst ys) → Paired (Ro H) ys ((bs.filter p).map f) → Qd H) :
    ∃ W : Nat → Nat → Hp → Prop, (∃ m, W 0 m (upd H1 D (.lst []))) ∧ ∀ i m H, W i m H →
      (J.stop i H ∧ Qd H) ∨ (J.go i H ∧ ∃ Nx : Hp → Prop, (∀ H', Nx H' → ∃ m', m' < m ∧ W (i + 1) m' H') ∧ ∀ x H', J.yld i H x H' → g x (wipe σ vs) H' fun σ2 H2 => wipe σ2 vs = wipe σ vs ∧ tt σ2 H2 fun b H3 =>
        if b = true then te σ2 H3 fun y H4 => ∃ acc, H4 D = some (.lst acc) ∧ acc.length < sizeLine ∧ Nx (upd H4 D (.lst (acc ++ [y]))) else Nx H3) :=
  lc_all eL w p (fun b c => c = f b) Ro hRo hD h1 hb hG (fun i x b H H' NT NF e l hy ht hf => hs i x b H H' NT NF e l hy (fun hp y H4 l4 ro => ht hp y (f b) H4 l4 rfl ro) hf)
    fun H ys cs l e r1 r2 => by
      have ecs : cs = (bs.filter p).map f := Paired.eqv (Paired.flip' r1)
      subst ecs
      exact hd H ys l e r2
end
end B72
set_option Elab.async false
set_option linter.all false
set_option maxRecDepth 100000
set_option maxHeartbeats 4000000
/-! The program's text by places; what the module's names hold. -/
namespace B72
open PySem PySem.Spec PyProof.Rows L2 R72 Mk72
def top (i : Nat) : Stmt := PySem.Challenge.pw_shapeholes_k72_whole_maps_judged.main.body.getD i (.Pass ⟨0, 0, 0, 0⟩)
abbrev sInteger : Stmt := top 1
abbrev sIn : Stmt := top 2
abbrev sList : Stmt := top 3
abbrev sAsc : Stmt := top 14
abbrev sSimp : Stmt := top 15
abbrev sParts : Stmt := top 16
abbrev sGen : Stmt := top 17
abbrev sOrder : Stmt := top 18
abbrev sMax : Stmt := top 19
abbrev sCInit : Stmt := inClass (top 20) 0
abbrev sCFac : Stmt := inClass (top 20) 1
abbrev sCHas : Stmt := inClass (top 20) 3
abbrev sNeedC : Stmt := top 21
abbrev sMade : Stmt := top 22
abbrev sSOf : Stmt := top 23
abbrev sVIn : Stmt := top 24
abbrev sImgIn : Stmt := top 26
abbrev sIsMap : Stmt := top 27
abbrev sNeedM : Stmt := top 28
abbrev sImgOf : Stmt := top 29
abbrev sFixed : Stmt := top 30
abbrev sTaken : Stmt := top 32
abbrev sPick : Stmt := top 33
abbrev sAlike : Stmt := top 34
abbrev sLSx : Stmt := top 35
abbrev sLSxs : Stmt := top 36
abbrev sLFaces : Stmt := top 37
abbrev sLVert : Stmt := top 38
abbrev sLWide : Stmt := top 39
abbrev sLMap : Stmt := top 40
abbrev sLaw : Stmt := top 41
/-- the built-in names are the built-ins; the constants -/
structure Fx (mg : Str → Option Value) : Prop where
  zIsi : mg "isinstance" = none
  zLen : mg "len" = none
  zAll : mg "all" = none
  zAny : mg "any" = none
  zZip : mg "zip" = none
  zEnum : mg "enumerate" = none
  zSorted : mg "sorted" = none
  zTuple : mg "tuple" = none
  zList : mg "list" = none
  zSet : mg "set" = none
  zDict : mg "dict" = none
  zRange : mg "range" = none
  zInt : mg "int" = none
  zBool : mg "bool" = none
  zStr : mg "str" = none
  zMin : mg "min" = none
  cVertex : ∃ t, mg "MOST_VERTEX" = some (.int 30 t)
  cLength : ∃ t, mg "MOST_LENGTH" = some (.int 8 t)
  cFaces : ∃ t, mg "MOST_FACES" = some (.int 400 t)
/-- the class of complexes -/
structure Cx72 (K : PySem.W.Frag) (mg : Str → Option Value) (C : Addr) : Prop where
  ins : C8.InsC K C
  nF : NoAttr K C "faces"
  nT : NoAttr K C "tops"
  mgC : mg "Complex" = some (.ref C)
section
variable {P : Program} {w : World} {K : PySem.W.Frag} {mg : Str → Option Value} {base : Heap}
abbrev Cal72 (P : Program) (w : World) (K : PySem.W.Frag) (mg : Str → Option Value) (base : Heap) (k : Nat) (x : Str) (sp : Sp) : Prop := C8.Cal P w K mg base k x sp []
theorem cal_of {x : Str} {st : Stmt} {f : Addr} {fd : FuncData} {ps : List Str} {k : Nat} {sp : Sp} (F : Fun K x x st f fd) (hm : mg x = some (.ref f)) (b : Binds K fd ps []) (G : FnOk P w K mg base CX0 k f fd ps sp) : Cal72 P w K mg base k x sp :=
  ⟨f, fd, ps, [], G, hm, F.kp, b, .nil⟩
theorem cmg {mg : Str → Option Value} {x : Str} {n : Int} (h : ∃ t, mg x = some (.int n t)) : ∃ u, mg x = some u ∧ RelV (.int n) u := let ⟨t, e⟩ := h; ⟨_, e, t, rfl⟩
end

/-! ### values and their types -/
/-- what a value without an object of its own is: an int, a bool, None -/
def flatT : V → Option String
  | .int _ => some "int"
  | .bl _ => some "bool"
  | .non => some "NoneType"
  | _ => none
theorem flatT_ty {K : PySem.W.Frag} {H : Hp} {v : V} {T : String} (h : flatT v = some T) : TyX K H v (.type T) := by
  cases v <;> simp [flatT] at h <;> subst h
  · exact .base .non
  · exact .base (.bl _)
  · exact .base (.int _)
end B72
set_option Elab.async false
set_option linter.all false
set_option maxRecDepth 100000
set_option maxHeartbeats 4000000
/-! is_integer, is_in, is_list. -/
namespace B72
open PySem PySem.Spec PyProof.Rows L2 R72 Mk72
section
variable {P : Program} {w : World} {K : PySem.W.Frag} {mg : Str → Option Value} {base : Heap}
def isI : V → Bool
  | .int _ => true
  | _ => false
/-- is_integer(value) -/
def spInteger : Sp := fun vs H Q _ => ∃ v T, vs = [v] ∧ flatT v = some T ∧ Q (.bl (isI v)) H
theorem scInteger : FnScope ["value"] ["value"] (defScope sInteger) := ⟨rfl, rfl, rfl, by decide +kernel, rfl, by decide +kernel, by decide +kernel⟩
theorem ok_integer {f : Addr} {fd : FuncData} {k : Nat} (F : Fun K "is_integer" "is_integer" sInteger f fd) (T : Fx mg) : FnOk P w K mg base CX0 (k + 1) f fd ["value"] spInteger := by
  refine F.ok scInteger (fun vs H Q E h => ?_) (fun cdv A outer s H vs Q E hr h => ?_)
  · obtain ⟨v, _, rfl, _⟩ := h
    rfl
  · obtain ⟨v, ty, rfl, hv, q⟩ := h
    refine ⟨_, pss_one (ps_ret (pe_and (pe_callB call_isi (by rfl) T.zIsi (by decide +kernel) (pa_cons (pv 0) (pa_cons (pe_bltn (v := .ty "int") (by rfl) T.zInt (by decide +kernel) rfl) pa_nil)))
      (pe_one (pe_not (pe_callB call_isi (by rfl) T.zIsi (by decide +kernel) (pa_cons (pv 0) (pa_cons (pe_bltn (v := .ty "bool") (by rfl) T.zBool (by decide +kernel) rfl) pa_nil))))))), ?_⟩
    refine ⟨v, rfl, ?_⟩
    cases v <;> simp [flatT] at hv <;> subst hv
    · exact ⟨_, .ty "int", .type "NoneType", .type "int", false, rfl, .ty _, flatT_ty rfl, kit_ty (by decide +kernel), false, rfl, iteF q⟩
    · exact ⟨_, .ty "int", .type "bool", .type "int", true, rfl, .ty _, flatT_ty rfl, kit_ty (by decide +kernel), true, rfl, iteT ⟨_, rfl, _, .ty "bool", .type "bool", .type "bool", true, rfl, .ty _, flatT_ty rfl, kit_ty (by decide +kernel), true, rfl, q⟩⟩
    · exact ⟨_, .ty "int", .type "int", .type "int", true, rfl, .ty _, flatT_ty rfl, kit_ty (by decide +kernel), true, rfl, iteT ⟨_, rfl, _, .ty "bool", .type "int", .type "bool", false, rfl, .ty _, flatT_ty rfl, kit_ty (by decide +kernel), false, rfl, q⟩⟩
/-- is_in(value, least, most) -/
def inB (lo hi : Int) : V → Bool
  | .int i => decide (lo ≤ i) && decide (i ≤ hi)
  | _ => false
def spIn : Sp := fun vs H Q _ => ∃ v T lo hi, vs = [v, .int lo, .int hi] ∧ flatT v = some T ∧ Q (.bl (inB lo hi v)) H
theorem scIn : FnScope ["value", "least", "most"] ["value", "least", "most"] (defScope sIn) := ⟨rfl, rfl, rfl, by decide +kernel, rfl, by decide +kernel, by decide +kernel⟩
theorem ok_in {f : Addr} {fd : FuncData} {k : Nat} (hk : 1 ≤ k) (F : Fun K "is_in" "is_in" sIn f fd) (c1 : Cal72 P w K mg base 1 "is_integer" spInteger) : FnOk P w K mg base CX0 (k + 1) f fd ["value", "least", "most"] spIn := by
  refine F.ok scIn (fun vs H Q E h => ?_) (fun cdv A outer s H vs Q E hr h => ?_)
  · obtain ⟨v, _, lo, hi, rfl, _⟩ := h
    rfl
  · obtain ⟨v, ty, lo, hi, rfl, hv, q⟩ := h
    refine ⟨_, pss_one (ps_ret (pe_and (C8.pe_c c1 hr hk (by rfl) (pa_cons (pv 0) pa_nil)) (pe_one (pe_chain op_le op_le (pv 1) (pv 0) (pv 2))))), ?_⟩
    refine ⟨v, rfl, v, ty, rfl, hv, isI v, rfl, ?_⟩
    cases v <;> simp [flatT] at hv <;> subst hv
    · exact iteF q
    · exact iteF q
    · rename_i i
      refine iteT ⟨_, rfl, _, rfl, lo, i, rfl, rfl, decide (lo ≤ i), rfl, ?_⟩
      by_cases h : lo ≤ i
      · rw [decide_eq_true h]
        refine iteT ⟨_, rfl, i, hi, rfl, rfl, ?_⟩
        have e : inB lo hi (.int i) = decide (i ≤ hi) := by simp [inB, h]
        rw [e] at q
        exact q
      · rw [decide_eq_false h]
        refine iteF ?_
        have e : inB lo hi (.int i) = false := by simp [inB, h]
        rw [e] at q
        exact q

/-! ### is_list -/
/-- a value's length if it is a tuple; none if it is of another known kind -/
inductive Shp (H : Hp) : V → Option Nat → Prop where
  | tup {a : Addr} {xs : List V} (h : Rd H a (.tup xs)) : Shp H (.ref a) (some xs.length)
  | lst {a : Addr} {xs : List V} (h : H a = some (.lst xs)) : Shp H (.ref a) none
  | flat {v : V} {T : String} (h : flatT v = some T) : Shp H v none
def lenB (lo hi : Int) : Option Nat → Bool
  | some n => decide (lo ≤ (n : Int)) && decide ((n : Int) ≤ hi)
  | none => false
theorem flat_tuple {v : V} {T : String} (h : flatT v = some T) : kitB T "tuple" = some false := by
  cases v <;> simp [flatT] at h <;> subst h <;> decide +kernel
theorem shp_ty {H : Hp} {v : V} {o : Option Nat} (h : Shp H v o) : ∃ T : String, TyX K H v (.type T) ∧ kitB T "tuple" = some o.isSome := by
  cases h with
  | tup h =>
    rcases h with h | ⟨ob, h⟩
    · exact ⟨"tuple", .base (.tup h), show kitB "tuple" "tuple" = some true by decide +kernel⟩
    · exact ⟨"tuple", .fTuple h, show kitB "tuple" "tuple" = some true by decide +kernel⟩
  | lst h => exact ⟨"list", .base (.lst h), show kitB "list" "tuple" = some false by decide +kernel⟩
  | flat h => exact ⟨_, flatT_ty h, flat_tuple h⟩
def spList : Sp := fun vs H Q _ => ∃ v o lo hi, vs = [v, .int lo, .int hi] ∧ Shp H v o ∧ Q (.bl (lenB lo hi o)) H
theorem scList : FnScope ["value", "least", "most"] ["value", "least", "most"] (defScope sList) := ⟨rfl, rfl, rfl, by decide +kernel, rfl, by decide +kernel, by decide +kernel⟩
theorem ok_list {f : Addr} {fd : FuncData} {k : Nat} (F : Fun K "is_list" "is_list" sList f fd) (T : Fx mg) : FnOk P w K mg base CX0 (k + 1) f fd ["value", "least", "most"] spList := by
  refine F.ok scList (fun vs H Q E h => ?_) (fun cdv A outer s H vs Q E hr h => ?_)
  · obtain ⟨v, _, lo, hi, rfl, _⟩ := h
    rfl
  · obtain ⟨v, o, lo, hi, rfl, hv, q⟩ := h
    refine ⟨_, pss_one (ps_ret (pe_and (pe_callB call_isi (by rfl) T.zIsi (by decide +kernel) (pa_cons (pv 0) (pa_cons (pe_bltn (v := .ty "tuple") (by rfl) T.zTuple (by decide +kernel) rfl) pa_nil)))
      (pe_one (pe_chain op_le op_le (pv 1) (pe_callB call_len_seq (by rfl) T.zLen PySem.boot_len (pa_cons (pv 0) pa_nil)) (pv 2))))), ?_⟩
    refine ⟨v, rfl, ?_⟩
    obtain ⟨ty, h1, h2⟩ := shp_ty (K := K) hv
    refine ⟨v, .ty "tuple", .type ty, .type "tuple", _, rfl, .ty _, h1, kit_ty h2, _, rfl, ?_⟩
    cases hv with
    | lst h => exact iteF q
    | flat h => exact iteF q
    | @tup a xs h =>
      refine iteT ⟨_, rfl, _, rfl, a, xs, rfl, .inr (.inl h), lo, xs.length, rfl, rfl, decide (lo ≤ (xs.length : Int)), rfl, ?_⟩
      by_cases hl : lo ≤ (xs.length : Int)
      · rw [decide_eq_true hl]
        refine iteT ⟨_, rfl, (xs.length : Int), hi, rfl, rfl, ?_⟩
        have e : lenB lo hi (some xs.length) = decide ((xs.length : Int) ≤ hi) := by simp [lenB, hl]
        rw [e] at q
        exact q
      · rw [decide_eq_false hl]
        refine iteF ?_
        have e : lenB lo hi (some xs.length) = false := by simp [lenB, hl]
        rw [e] at q
        exact q
end
end B72
set_option Elab.async false
set_option linter.all false
set_option maxRecDepth 100000
set_option maxHeartbeats 4000000
/-! is_ascending, is_simplex. -/
namespace B72
open PySem PySem.Spec PyProof.Rows L2 R72 Mk72
theorem walk_zipT {K : PySem.W.Frag} {a b : Addr} {xs ys : List V} {n : Nat} (hn : n = min xs.length ys.length) : Walk (RZ.ItzT K a b) n (fun H => SqT K H a xs ∧ SqT K H b ys) (YPair (fun i => xs[i]?) (fun i => ys[i]?)) := by
  subst hn
  refine ⟨fun i _ hi q => ?_, fun _ q => ⟨xs, ys, q.1, q.2, by omega⟩, fun i H v H' _ q y => ?_⟩
  · have h1 : i < xs.length := by omega
    have h2 : i < ys.length := by omega
    exact ⟨xs, ys, xs[i], ys[i], q.1, q.2, by simp [h1], by simp [h2]⟩
  · obtain ⟨T, x, z, h1, h2, h3, h4, h5⟩ := y
    exact ⟨T, x, z, h1, h2, h3, h4 xs q.1, h5 ys q.2⟩
theorem cut_from1 (xs : List V) : cutV xs (some 1) none = xs.drop 1 := by
  unfold cutV
  rw [show HT.sIx xs.length 0 (some 1) = min 1 xs.length from HT.sIx_nat xs.length 0 1, HT.sIx_none]
  cases xs with
  | nil => rfl
  | cons x r =>
    rw [show min 1 (x :: r).length = 1 by rw [List.length_cons]; omega]
    refine List.take_of_length_le ?_
    rw [List.length_drop]
    exact Nat.le_refl _
def ltV : V → V → Bool
  | .int a, .int b => decide (a < b)
  | _, _ => false
def upV (xs : List V) : Bool := (xs.zip (xs.drop 1)).all fun p => ltV p.1 p.2
def ascM (lo hi : Int) (xs : List V) : Bool := lenB lo hi (some xs.length) && (xs.all (inB 0 30) && upV xs)
theorem inB_int {v : V} (h : inB 0 30 v = true) : ∃ i, v = .int i := by
  cases v <;> simp [inB] at h
  exact ⟨_, rfl⟩
theorem all_id (l : List Bool) : l.all id = l.all (fun b => b) := rfl
section
variable {P : Program} {w : World} {K : PySem.W.Frag} {mg : Str → Option Value} {base : Heap}
/-- is_ascending(value, least, most): value a tuple of flat things, least at least 1 -/
def spAsc : Sp := fun vs H Q _ => ∃ a xs lo hi, vs = [.ref a, .int lo, .int hi] ∧ Rd H a (.tup xs) ∧ (∀ x ∈ xs, ∃ T, flatT x = some T) ∧ 1 ≤ lo ∧ hi ≤ 1000 ∧ ∀ H', Same H H' → Q (.bl (ascM lo hi xs)) H'
abbrev nAsc : List Str := ["value", "least", "most", "vertex", "one", "other"]
theorem scAsc : FnScope nAsc ["value", "least", "most"] (defScope sAsc) := ⟨rfl, rfl, rfl, by decide +kernel, rfl, by decide +kernel, by decide +kernel⟩
theorem ok_asc {f : Addr} {fd : FuncData} {k : Nat} (hk : 2 ≤ k) (F : Fun K "is_ascending" "is_ascending" sAsc f fd) (T : Fx mg) (c1 : Cal72 P w K mg base 2 "is_in" spIn) (c2 : Cal72 P w K mg base 1 "is_list" spList) :
    FnOk P w K mg base CX0 (k + 1) f fd ["value", "least", "most"] spAsc := by
  refine F.ok scAsc (fun vs H Q E h => ?_) (fun cdv A outer s H vs Q E hr h => ?_)
  · obtain ⟨a, _, lo, hi, rfl, _⟩ := h
    rfl
  · obtain ⟨a, xs, lo, hi, rfl, ha, hfl, hlo, hhi, q⟩ := h
    refine ⟨_, pss_cons (ps_if (PW.pt (pw_or (pt_not (pt_val (C8.pe_c c2 hr (by omega) (by rfl) (pa_cons (pv 0) (pa_cons (pv 1) (pa_cons (pv 2) pa_nil))))))
        (pw_or1 (pt_not (pt_val (pe_callB (cr_all rfl) (by rfl) T.zAll (by decide +kernel) (pa_cons
          (pe_lc (own := [("vertex", 3)]) (g := gName 3) (tt := tYes) rfl scAsc.nd (pi_tup (pv 0)) (blkOk_by (own := [("vertex", 3)]) (N := nAsc) (sc := defScope sAsc) (by decide +kernel))
            (fun _ _ _ _ _ => pg_name (i := 3) scAsc.nd rfl (Or.inl rfl)) (fun _ _ _ _ _ => pts_nil)
            (fun _ _ _ _ _ => C8.pe_c c1 hr hk (by rfl) (pa_cons (pv 3) (pa_cons pe_int (pa_cons (C8.pe_gc (by rfl) (cmg T.cVertex)) pa_nil))))) pa_nil)))))))
        (pss_one (ps_ret pe_bl)) pss_nil)
      (pss_one (ps_ret (pe_callB (cr_all rfl) (by rfl) T.zAll (by decide +kernel) (pa_cons
          (pe_lc (own := [("one", 4), ("other", 5)]) (g := gTup K 2 (gCons (gName 4) (gCons (gName 5) gNil))) (tt := tYes) rfl scAsc.nd
            (RZ.pi_zipA (by rfl) T.zZip (pa_cons (pv 0) (pa_cons (pe_slice sl_tupA (pv 0) (po_some pe_int) po_none) pa_nil)))
            (blkOk_by (own := [("one", 4), ("other", 5)]) (N := nAsc) (sc := defScope sAsc) (by decide +kernel))
            (fun _ _ _ _ _ => pg_tup rfl (pgs_cons (pg_name (i := 4) scAsc.nd rfl (Or.inl rfl)) (pgs_cons (pg_name (i := 5) scAsc.nd rfl (Or.inl rfl)) pgs_nil))) (fun _ _ _ _ _ => pts_nil)
            (fun _ _ _ _ _ => pe_cmpR op_lt (pv 4) (pv 5) (nomark _))) pa_nil)))), ?_⟩
    have hsq : SqT K H a xs := .inl ha
    refine ⟨_, rfl, _, rfl, _, rfl, _, _, lo, hi, rfl, Shp.tup ha, lenB lo hi (some xs.length), rfl, ?_⟩
    cases hL : lenB lo hi (some xs.length) with
    | false =>
      refine iteT (iteT ?_)
      have e : ascM lo hi xs = false := by simp [ascM, hL]
      have q' := q H (Same.refl H)
      rw [e] at q'
      exact q'
    | true =>
      refine iteF ?_
      have hn : 1 ≤ xs.length ∧ (xs.length : Int) ≤ 1000 := by
        simp [lenB] at hL
        omega
      refine ⟨_, rfl, a, rfl, ⟨_, hsq⟩, fun D hD => ?_⟩
      refine lc_fun ext_same (walk_tup (K := K) (a := a) (xs := xs)) (fun _ => true) (fun v => inB 0 30 v) (fun _ y c => y = .bl c) (fun _ h => h) hD (Same.refl H) (by omega) (fun H' s => sqT_sm hsq s) ?_ ?_
      · rintro i x b H2 H3 NT NF hb s2 ⟨rfl, hx⟩ ht hf
        obtain rfl : x = b := Option.some.inj (hx.symm.trans hb)
        obtain ⟨Tx, hT⟩ := hfl x (List.mem_of_getElem? hx)
        exact ⟨rfl, _, rfl, x, Tx, 0, 30, rfl, hT, ht rfl _ _ (Same.refl _) rfl⟩
      · intro H2 ys s2 hD2 r
        have ey : ys = (xs.map (inB 0 30)).map V.bl := by
          have e := Paired.eqv (g := V.bl) r
          rw [e, filter_yes]
        refine ⟨D, xs.map (inB 0 30), rfl, .inl (.inl (by rw [hD2, ey])), _, rfl, ?_⟩
        have eall : (xs.map (inB 0 30)).all id = xs.all (inB 0 30) := by rw [List.all_map]; rfl
        rw [eall]
        cases hA : xs.all (inB 0 30) with
        | false =>
          refine iteT ?_
          have e : ascM lo hi xs = false := by simp [ascM, hA]
          have q' := q H2 s2
          rw [e] at q'
          exact q'
        | true =>
          refine iteF ?_
          have hsq2 : SqT K H2 a xs := sqT_sm hsq s2
          -- value[1:]
          have cut : ∀ p, H2 p = none → Same H2 (upd H2 p (.tup (cutV xs (some 1) none))) := fun p hp => same_upd hp
          refine ⟨_, rfl, _, rfl, 1, rfl, a, xs, rfl, hsq2, fun z => ?_, fun _ p hp => ?_⟩
          · exfalso
            have z1 := z.1
            rw [show HT.sIx xs.length 0 (some 1) = min 1 xs.length from HT.sIx_nat xs.length 0 1] at z1
            omega
          · rw [cut_from1]
            have s3 : Same H2 (upd H2 p (.tup (xs.drop 1))) := same_upd hp
            refine ⟨a, p, xs, xs.drop 1, rfl, .inr ⟨sqT_sm hsq2 s3, .inl (.inl upd_same), fun D2 hD2' => ?_⟩⟩
            have hlen : (xs.zip (xs.drop 1)).length = min xs.length (xs.drop 1).length := List.length_zip
            refine lc_fun ext_same (bs := xs.zip (xs.drop 1)) (walk_zipT (K := K) (a := a) (b := p) (xs := xs) (ys := xs.drop 1) hlen) (fun _ => true) (fun q => ltV q.1 q.2) (fun _ y c => y = .bl c) (fun _ h => h) hD2' (Same.refl _) (by rw [hlen]; omega)
              (fun H' s => ⟨sqT_sm (sqT_sm hsq2 s3) s, sqT_sm (.inl (.inl upd_same)) s⟩) ?_ ?_
            · rintro i x b H4 H5 NT NF hb s4 ⟨Tp, u, v, rfl, nT, rfl, h1, h2⟩ ht hf
              have h1' : xs[i]? = some u := h1
              have h2' : (xs.drop 1)[i]? = some v := h2
              have eb : b = (u, v) := by
                obtain ⟨e1, e2⟩ := List.getElem?_zip_eq_some.mp hb
                rw [h1'] at e1
                rw [h2'] at e2
                exact Prod.ext (Option.some.inj e1).symm (Option.some.inj e2).symm
              subst eb
              obtain ⟨iu, rfl⟩ := inB_int (List.all_eq_true.mp hA u (List.mem_of_getElem? h1))
              obtain ⟨iv, rfl⟩ := inB_int (List.all_eq_true.mp hA v (List.mem_of_mem_drop (List.mem_of_getElem? h2)))
              exact ⟨Tp, _, rfl, .inl (.inl upd_same), rfl, _, _, rfl, _, _, rfl, rfl, rfl, _, rfl, _, rfl, iu, iv, rfl, rfl, ht rfl _ _ (same_upd nT) rfl⟩
            · intro H4 ys s4 hD4 r
              have ey : ys = ((xs.zip (xs.drop 1)).map fun q => ltV q.1 q.2).map V.bl := by
                have e := Paired.eqv (g := V.bl) r
                rw [e, filter_yes]
              refine ⟨D2, _, rfl, .inl (.inl (by rw [hD4, ey])), ?_⟩
              have e : ((xs.zip (xs.drop 1)).map fun q => ltV q.1 q.2).all id = ascM lo hi xs := by
                rw [List.all_map, ascM, hL, hA]
                rfl
              rw [e]
              exact q H4 (s2.trans (s3.trans s4))
/-- is_simplex(value) -/
def spSimp : Sp := fun vs H Q _ => ∃ a xs, vs = [.ref a] ∧ Rd H a (.tup xs) ∧ (∀ x ∈ xs, ∃ T, flatT x = some T) ∧ ∀ H', Same H H' → Q (.bl (ascM 1 8 xs)) H'
theorem scSimp : FnScope ["value"] ["value"] (defScope sSimp) := ⟨rfl, rfl, rfl, by decide +kernel, rfl, by decide +kernel, by decide +kernel⟩
theorem ok_simp {f : Addr} {fd : FuncData} {k : Nat} (hk : 3 ≤ k) (F : Fun K "is_simplex" "is_simplex" sSimp f fd) (T : Fx mg) (c1 : Cal72 P w K mg base 3 "is_ascending" spAsc) :
    FnOk P w K mg base CX0 (k + 1) f fd ["value"] spSimp := by
  refine F.ok scSimp (fun vs H Q E h => ?_) (fun cdv A outer s H vs Q E hr h => ?_)
  · obtain ⟨a, _, rfl, _⟩ := h
    rfl
  · obtain ⟨a, xs, rfl, ha, hfl, q⟩ := h
    refine ⟨_, pss_one (ps_ret (C8.pe_c c1 hr hk (by rfl) (pa_cons (pv 0) (pa_cons pe_int (pa_cons (C8.pe_gc (by rfl) (cmg T.cLength)) pa_nil))))), ?_⟩
    exact ⟨_, rfl, a, xs, 1, 8, rfl, ha, hfl, by decide, by decide, q⟩
end
end B72
set_option Elab.async false
set_option linter.all false
set_option maxRecDepth 100000
set_option maxHeartbeats 4000000
/-! parts_of, generated. -/
namespace B72
open PySem PySem.Spec PyProof.Rows L2 R72 Mk72
theorem get_int {s : Sx} {i : Nat} {x : V} (h : (s.map V.int)[i]? = some x) : ∃ k, s[i]? = some k ∧ x = .int k := by
  rw [List.getElem?_map] at h
  cases e : s[i]? with
  | none => rw [e] at h; cases h
  | some k => rw [e] at h; exact ⟨k, rfl, (Option.some.inj h).symm⟩
theorem take_snoc {α : Type} {l : List α} {i : Nat} {x : α} (h : l[i]? = some x) : l.take (i + 1) = l.take i ++ [x] := by
  rw [List.take_add_one, h]; rfl
theorem walk_list' {K : PySem.W.Frag} {a : Addr} {xs : List V} {n : Nat} (h : xs.length = n) : Walk (Itl K a) n (fun H => SqL K H a xs) (YAt xs) := h ▸ walk_list
theorem walk_tup' {K : PySem.W.Frag} {a : Addr} {xs : List V} {n : Nat} (h : xs.length = n) : Walk (Itt K a) n (fun H => SqT K H a xs) (YAt xs) := h ▸ walk_tup
section
variable {P : Program} {w : World} {K : PySem.W.Frag} {mg : Str → Option Value} {base : Heap}
/-- parts_of(simplex) -/
def spParts : Sp := fun vs H Q _ => ∃ v s, vs = [v] ∧ IsS H v s ∧ s.length ≤ 12 ∧ ∀ H' p ys, Same H H' → H' p = some (.lst ys) → IsSs H' ys (parts s) → Q (.ref p) H'
abbrev nParts : List Str := ["simplex", "found", "vertex", "part"]
theorem scParts : FnScope nParts ["simplex"] (defScope sParts) := ⟨rfl, rfl, rfl, by decide +kernel, rfl, by decide +kernel, by decide +kernel⟩
theorem ok_parts {f : Addr} {fd : FuncData} {k : Nat} (F : Fun K "parts_of" "parts_of" sParts f fd) : FnOk P w K mg base CX0 (k + 1) f fd ["simplex"] spParts := by
  refine F.ok scParts (fun vs H Q E h => ?_) (fun cdv A outer s H vs Q E hr h => ?_)
  · obtain ⟨v, s, rfl, _⟩ := h
    rfl
  · obtain ⟨v, sx, rfl, ⟨a, rfl, ha⟩, hlen, q⟩ := h
    refine ⟨_, pss_cons (ps_set (i := 1) scParts.nd rfl (.inl rfl) (pe_lst (pa_cons (pe_tup pa_nil) pa_nil)))
      (pss_cons (ps_for PassesOwn.never rfl (pi_tup (pv 0)) (pg_name (i := 2) scParts.nd rfl (.inr rfl))
        (pss_one (ps_expr (pe_bm PySem.F.plainAttrs_list PySem.F.slot_list_extend PySem.F.type_list_extend mt_extend (pv 1) (pa_cons
          (pe_lc (own := [("part", 3)]) (g := gName 3) (tt := tYes) (te := tTup (StX.tStar K (tVar 3) (tCons (tVar 2) tNil))) rfl scParts.nd (pi_list (pv 1)) (blkOk_by (own := [("part", 3)]) (N := nParts) (sc := defScope sParts) (by decide +kernel))
            (fun _ _ _ _ _ => pg_name (i := 3) scParts.nd rfl (Or.inl rfl)) (fun _ _ _ _ _ => pts_nil)
            (fun _ _ _ _ _ => pe_tup (StX.pa_star (pv 3) (pa_cons (pv 2) pa_nil)))) pa_nil)))))
      (pss_one (ps_ret (pe_slice sl_list (pv 1) (po_some pe_int) po_none)))), ?_⟩
    -- found = [()]
    refine ⟨Nat.zero_le _, fun e he => ⟨by show 1 ≤ sizeLine; decide, fun l hl => ?_⟩⟩
    have s1 : Same H (upd H e (.tup [])) := same_upd he
    have hl0 : H l = none := s1.free hl
    have s2 : Same H (upd (upd H e (.tup [])) l (.lst [.ref e])) := s1.trans (same_upd hl)
    have hsq : SqT K H a (sx.map V.int) := .inl (.inl ha)
    refine ⟨_, rfl, a, rfl, ⟨_, sqT_sm hsq s2⟩, for_tup (K := K) (a := a) (xs := sx.map V.int) (fun i σ H' => ∃ o2 o3 fs, σ = [some (.ref a), some (.ref l), o2, o3] ∧ Same H H' ∧ H' l = some (.lst fs) ∧ IsSs H' fs (subs (sx.take i)))
      ⟨none, none, [.ref e], rfl, s2, upd_same, .cons ⟨e, rfl, by rw [upd_ne (ne_of_none upd_same hl), upd_same]; rfl⟩ .nil⟩ (fun i σ H' _ ⟨_, _, _, _, sm, _⟩ => sqT_sm hsq sm) ?_ ?_⟩
    · rintro i x σ H' hx ⟨o2, o3, fs, rfl, sm, el, rf⟩
      obtain ⟨z, hz, rfl⟩ := get_int hx
      have hi : i < sx.length := (List.getElem?_eq_some_iff.mp hz).1
      -- found.extend([(*part, vertex) for part in found])
      refine ⟨_, rfl, .inl ⟨rfl, _, SqL.of el⟩, _, rfl, l, rfl, ⟨_, SqL.of el⟩, fun D hD => ?_⟩
      have flen := Paired.len rf
      have hsl : (subs (sx.take i)).length ≤ 4096 := by
        rw [subs_len, List.length_take]
        exact Nat.le_trans (Nat.pow_le_pow_right (by decide) (Nat.le_trans (Nat.min_le_right _ _) hlen)) (by decide)
      refine lc_fun ext_same (bs := subs (sx.take i)) (walk_list' (K := K) (a := l) (xs := fs) flen) (fun _ => true) (fun t => t ++ [z]) IsS (fun kt h => h.kt kt) hD (Same.refl _) (by omega) (fun H2 s2 => Same.seq s2 (SqL.of el)) ?_ ?_
      · rintro j y b H2 H3 NT NF hb sm2 ⟨rfl, hy⟩ ht hf
        obtain ⟨b', hb', hS⟩ := Paired.at rf hy
        obtain rfl : b = b' := Option.some.inj (hb.symm.trans hb')
        obtain ⟨pa, rfl, hp⟩ := hS
        have hbl : b.length ≤ 12 := by
          have hm : b ∈ subs (sx.take i) := List.mem_of_getElem? hb
          exact Nat.le_trans ((mem_subs _ _).mp hm).length_le (Nat.le_trans (by rw [List.length_take]; exact Nat.min_le_right _ _) hlen)
        refine ⟨rfl, _, rfl, pa, _, rfl, .inl (.inl (.inl (sm2 _ _ hp))), _, rfl, ?_, fun t nt => ?_⟩
        · rw [List.length_append, List.length_map]
          show b.length + 1 ≤ sizeLine
          exact Nat.le_trans (Nat.succ_le_succ hbl) (by decide)
        · refine ht rfl _ _ (same_upd nt) ⟨t, rfl, ?_⟩
          rw [upd_same, List.map_append]
          rfl
      · intro H2 ys sm2 hD2 r2
        have el2 : H2 l = some (.lst fs) := sm2 _ _ el
        have nlD : l ≠ D := ne_of_none el hD
        have ylen := Paired.len r2
        rw [filter_yes, List.length_map] at ylen
        refine ⟨l, D, fs, ys, rfl, rfl, el2, hD2, ?_, ?_⟩
        · rw [ylen, flen]
          exact Nat.le_trans (Nat.add_le_add hsl hsl) (by decide)
        · refine ⟨some (.int z), o3, fs ++ ys, rfl, ?_, upd_same, ?_⟩
          · exact fun b o e => by rw [upd_ne (ne_of_none e hl0)]; exact sm2 _ _ (sm _ _ e)
          · rw [take_snoc hz, subs_snoc]
            refine Paired.app (IsSs.kt ((Same.kt sm2).trans (keepT_lst el2)) rf) (IsSs.kt (keepT_lst el2) ?_)
            rw [filter_yes] at r2
            exact r2
    · rintro σ H' ⟨o2, o3, fs, rfl, sm, el, rf⟩
      rw [List.length_map, List.take_length] at rf
      refine ⟨_, rfl, 1, rfl, l, fs, rfl, SqL.of el, fun p hp => ?_⟩
      rw [cut_from1]
      have s3 : Same H' (upd H' p (.lst (fs.drop 1))) := same_upd hp
      exact q _ p (fs.drop 1) (sm.trans s3) upd_same (IsSs.kt (Same.kt s3) (Paired.tail rf))
end
end B72
set_option Elab.async false
set_option linter.all false
set_option maxRecDepth 100000
set_option maxHeartbeats 4000000
/-! generated. -/
namespace B72
open PySem PySem.Spec PyProof.Rows L2 R72 Mk72
theorem sqL_at {K : PySem.W.Frag} {H H' : Hp} {a : Addr} {xs : List V} (h : SqL K H a xs) (e : ∀ o, H a = some o → H' a = some o) : SqL K H' a xs := by
  rcases h with (h | ⟨o, h⟩) | h
  · exact .inl (.inl (e _ h))
  · exact .inl (.inr ⟨o, e _ h⟩)
  · exact .inr h
theorem sqT_at {K : PySem.W.Frag} {H H' : Hp} {a : Addr} {xs : List V} (h : SqT K H a xs) (e : ∀ o, H a = some o → H' a = some o) : SqT K H' a xs := by
  rcases h with (h | ⟨o, h⟩) | h
  · exact .inl (.inl (e _ h))
  · exact .inl (.inr ⟨o, e _ h⟩)
  · exact .inr h
/-- a walk over a name that holds a list or a tuple -/
def iSeqV (K : PySem.W.Frag) (i : Nat) : TI := fun σ H R => ∃ a xs, σ[i]? = some (some (.ref a)) ∧ (SqL K H a xs ∨ SqT K H a xs) ∧ ∀ (J : It) (G : Hp → Prop), Walk J xs.length G (YAt xs) → (∀ H', (∀ o, H a = some o → H' a = some o) → G H') → R J H
theorem pi_seqV {X : Cx} {tg : Expr} (i : Nat) {x : Str} {pos : Pos} (h : PE X (.Name x pos) (tVar i)) : PI X tg (.Name x pos) (iSeqV X.K i) := by
  refine ⟨fun pins s σ H R I q => ?_⟩
  obtain ⟨a, xs, e, hs, q⟩ := q
  rcases hs with hs | hs
  · exact (pi_list h).run pins s σ H R I ⟨_, e, a, rfl, ⟨xs, hs⟩, q _ _ walk_list fun H' sm => sqL_at hs sm⟩
  · exact (pi_tup h).run pins s σ H R I ⟨_, e, a, rfl, ⟨xs, hs⟩, q _ _ walk_tup fun H' sm => sqT_at hs sm⟩
/-- a tuple or a list of simplices -/
def SeqSs (H : Hp) (v : V) (ss : List Sx) : Prop := TupSs H v ss ∨ LstSs H v ss
theorem SeqSs.get {K : PySem.W.Frag} {H : Hp} {v : V} {ss : List Sx} (h : SeqSs H v ss) : ∃ a xs, v = .ref a ∧ (∃ o, H a = some o) ∧ (SqL K H a xs ∨ SqT K H a xs) ∧ IsSs H xs ss := by
  rcases h with ⟨a, xs, e, q, r⟩ | ⟨a, xs, e, q, r⟩
  · exact ⟨a, xs, e, ⟨_, q⟩, .inr (.inl (.inl q)), r⟩
  · exact ⟨a, xs, e, ⟨_, q⟩, .inl (.inl (.inl q)), r⟩
section
variable {P : Program} {w : World} {K : PySem.W.Frag} {mg : Str → Option Value} {base : Heap}
/-- generated(simplices) -/
def spGen : Sp := fun vs H Q _ => ∃ v ss, vs = [v] ∧ SeqSs H v ss ∧ (∀ s ∈ ss, s.length ≤ 12) ∧ (genP ss).length ≤ 400 ∧ ∀ H' p, Same H H' → H' p = some (dOf (genP ss)) → Q (.ref p) H'
abbrev nGen : List Str := ["simplices", "found", "simplex", "part"]
theorem scGen : FnScope nGen ["simplices"] (defScope sGen) := ⟨rfl, rfl, rfl, by decide +kernel, rfl, by decide +kernel, by decide +kernel⟩
theorem ok_gen {f : Addr} {fd : FuncData} {k : Nat} (hk : 1 ≤ k) (F : Fun K "generated" "generated" sGen f fd) (T : Fx mg) (c1 : Cal72 P w K mg base 1 "parts_of" spParts) : FnOk P w K mg base CX0 (k + 1) f fd ["simplices"] spGen := by
  refine F.ok scGen (fun vs H Q E h => ?_) (fun cdv A outer s H vs Q E hr h => ?_)
  · obtain ⟨v, s, rfl, _⟩ := h
    rfl
  · obtain ⟨v, ss, rfl, hv, hlen, hmany, q⟩ := h
    obtain ⟨a, xs, rfl, ⟨oa, hoa⟩, hsq, rss⟩ := hv.get (K := K)
    refine ⟨_, pss_cons (ps_set (i := 1) scGen.nd rfl (.inl rfl) pe_dnewT)
      (pss_cons (ps_for PassesOwn.never rfl (pi_seqV 0 (pv 0)) (pg_name (i := 2) scGen.nd rfl (.inl rfl))
        (pss_one (ps_if (pt_cmp (pc_dnotin (hu_of hr) (pv 2) (pv 1)))
          (pss_cons (ps_for PassesOwn.never rfl (pi_list (C8.pe_c c1 hr hk (by rfl) (pa_cons (pv 2) pa_nil))) (pg_name (i := 3) scGen.nd rfl (.inl rfl))
              (pss_one (ps_dput (hu_of hr) (pv 1) (pv 3) pe_bl rfl)))
            (pss_one (ps_if (pt_cmpR op_gt (pe_callB call_len_dT (by rfl) T.zLen PySem.boot_len (pa_cons (pv 1) pa_nil)) (C8.pe_gc (by rfl) (cmg T.cFaces)) (nomark _)) (pss_one ps_never) pss_nil)))
          pss_nil)))
      (pss_one (ps_ret (pv 1)))), ?_⟩
    intro d hd
    have s1 : Same H (upd H d (.dT [])) := same_upd hd
    refine ⟨a, xs, rfl, hsq.imp (fun h => Same.seq s1 h) (fun h => sqT_sm h s1), fun J G wk hG => ?_⟩
    have xlen := Paired.len rss
    refine for_it wk (fun i σ H' => ∃ o2 o3, σ = [some (.ref a), some (.ref d), o2, o3] ∧ Same H H' ∧ H' d = some (dOf (genP (ss.take i))))
      ⟨none, none, rfl, s1, upd_same⟩ (fun i σ H' _ ⟨_, _, _, sm, _⟩ => hG H' fun o e => ?_) ?_ ?_
    · rw [upd_ne (ne_of_none hoa hd)] at e
      exact sm _ _ e
    · rintro i x σ H' H'' hi ⟨o2, o3, rfl, sm, e⟩ ⟨rfl, hx⟩
      obtain ⟨s, hs, hS⟩ := Paired.at rss hx
      have hsm : s ∈ ss := List.mem_of_getElem? hs
      obtain ⟨b, rfl, hb⟩ := hS
      have etake : genP (ss.take (i + 1)) = stepP (genP (ss.take i)) s := by rw [take_snoc hs, genP_snoc]
      have hle : (genP (ss.take (i + 1))).length ≤ 400 := Nat.le_trans (len_genP_take ss (i + 1)) hmany
      have hle0 : (genP (ss.take i)).length ≤ 400 := Nat.le_trans (len_genP_take ss i) hmany
      -- if simplex not in found
      refine ⟨_, rfl, _, rfl, d, _, rfl, DGet.t (k := keyS s) e (by rw [keyS_kV]; exact sm _ _ hb), _, rfl, ?_⟩
      rw [valV_of]
      by_cases hin : s ∈ genP (ss.take i)
      · rw [if_pos hin]
        refine iteF ⟨_, _, rfl, sm, ?_⟩
        rw [etake, stepP, if_pos hin]
        exact e
      · rw [if_neg hin]
        refine iteT ?_
        -- for part in parts_of(simplex)
        refine ⟨_, rfl, _, s, rfl, ⟨b, rfl, sm _ _ hb⟩, hlen s hsm, fun H2 p ys s2 ep rp => ⟨p, rfl, ⟨_, SqL.of ep⟩, ?_⟩⟩
        have e2 : H2 d = some (dOf (genP (ss.take i))) := s2 _ _ e
        have npd : p ≠ d := ne_of ep e2 (by intro z; cases z)
        have ylen := Paired.len rp
        refine for_list (K := K) (a := p) (xs := ys) (fun j σ H3 => ∃ o3, σ = [some (.ref a), some (.ref d), some (.ref b), o3] ∧ Same H H3 ∧ H3 p = some (.lst ys) ∧ IsSs H3 ys (parts s) ∧ H3 d = some (dOf (addAll (genP (ss.take i)) ((parts s).take j))))
          ⟨_, rfl, sm.trans s2, ep, rp, e2⟩ (fun j σ H3 _ ⟨_, _, _, ep3, _⟩ => SqL.of ep3) ?_ ?_
        · rintro j y σ H3 hy ⟨o3', rfl, sm3, ep3, rp3, e3⟩
          obtain ⟨t, ht, b2, rfl, hb2⟩ := Paired.at rp3 hy
          have hl3 : (addAll (genP (ss.take i)) ((parts s).take j)).length < sizeLine := by
            have h1 := (len_addAll ((parts s).take j) (genP (ss.take i))).2
            have h2 := len_parts (hlen s hsm)
            rw [List.length_take] at h1
            exact Nat.lt_of_le_of_lt (Nat.le_trans h1 (Nat.add_le_add hle0 (Nat.le_trans (Nat.min_le_right _ _) h2))) (by decide)
          refine ⟨_, rfl, _, rfl, d, _, rfl, DPut.t (k := keyS t) e3 (by rw [keyS_kV]; exact hb2) (by rw [List.length_map]; exact hl3), ?_⟩
          have kt : KeepT H3 (upd H3 d (.dT (putK ((addAll (genP (ss.take i)) ((parts s).take j)).map fun s => (keyS s, V.bl true)) (keyS t) (.bl true)))) := fun c xs q => by
            rw [upd_ne (ne_of q e3 (by intro z; cases z))]; exact q
          refine ⟨_, rfl, fun c o q => ?_, ?_, IsSs.kt kt rp3, ?_⟩
          · rw [upd_ne (ne_of_none q hd)]; exact sm3 _ _ q
          · rw [upd_ne npd]; exact ep3
          · rw [upd_same, putK_of, take_snoc ht, addAll_snoc]
            rfl
        · rintro σ H3 ⟨o3', rfl, sm3, ep3, rp3, e3⟩
          rw [ylen, List.take_length] at e3
          have estep : stepP (genP (ss.take i)) s = addAll (genP (ss.take i)) (parts s) := by rw [stepP, if_neg hin]
          rw [← estep, ← etake] at e3
          refine ⟨_, rfl, d, _, rfl, e3, _, 400, rfl, rfl, _, rfl, ?_⟩
          rw [List.length_map, decide_eq_false (by omega)]
          exact iteF ⟨_, _, rfl, sm3, e3⟩
    · rintro σ H' ⟨o2, o3, rfl, sm, e⟩
      rw [xlen, List.take_length] at e
      exact ⟨_, rfl, q H' d sm e⟩
end
end B72
set_option Elab.async false
set_option linter.all false
set_option maxRecDepth 100000
set_option maxHeartbeats 4000000
/-! The orders of simplices; data. -/
namespace B72
open PySem PySem.Spec PyProof.Rows L2 R72 Mk72
def encS (s : Sx) : PyData := .tuple (s.map .int)
def enc2 (s : Sx) : PyData := .tuple [.int s.length, .tuple (s.map .int)]
def leS (s t : Sx) : Bool := PySem.W.dataLe false encS s t
def le2 (s t : Sx) : Bool := PySem.W.dataLe false enc2 s t
theorem leS_eq (s t : Sx) : leS s t = decide (s ≤ t) := by
  have e := congrFun (congrFun (PySem.W.dataLe_rows (β := Sx) id) s) t
  have e2 : leS s t = PySem.W.dataLe false (fun b : Sx => PyData.list (b.map .int)) s t := by
    show (!PySem.W.dataLt (encS t) (encS s)) = (!PySem.W.dataLt (.list (t.map .int)) (.list (s.map .int)))
    unfold encS
    rw [PySem.W.dataLt_tuple, PySem.W.dataLt_list]
  rw [e2]
  exact e
theorem ltS_eq (s t : Sx) : PySem.W.dataLt (.tuple (s.map .int)) (.tuple (t.map .int)) = decide (s < t) := by
  rw [PySem.W.dataLt_tuple]
  exact PySem.W.dataLt_ints s t
theorem eqv_intsL : ∀ s t : Sx, PyData.eqvAll (s.map .int) (t.map .int) = decide (s = t)
  | [], [] => by simp [PyData.eqvAll]
  | [], _ :: _ => by simp [PyData.eqvAll]
  | _ :: _, [] => by simp [PyData.eqvAll]
  | a :: s, b :: t => by
    show PyData.eqvAll (PyData.int a :: s.map .int) (PyData.int b :: t.map .int) = _
    rw [PySem.W.eqv_all_cons, eqv_intsL s t]
    simp only [PyData.eqv, List.cons.injEq]
    by_cases h : a = b <;> simp [h]
theorem eqv_tupS (s t : Sx) : PyData.eqv (.tuple (s.map .int)) (.tuple (t.map .int)) = decide (s = t) := by
  rw [← eqv_intsL]
  simp [PyData.eqv]
theorem le2_eq (s t : Sx) : le2 s t = decide (s.length < t.length ∨ (s.length = t.length ∧ s ≤ t)) := by
  show (!PySem.W.dataLt (enc2 t) (enc2 s)) = _
  unfold enc2
  rw [PySem.W.dataLt_pair (by simp [PySem.W.alike]) (by simp [PySem.W.alike, PySem.W.alike_ints]), PySem.W.dataLt_int, ltS_eq, eqv_tupS]
  have eI : ∀ a b : Int, PyData.eqv (.int a) (.int b) = decide (a = b) := fun a b => by simp [PyData.eqv, Bool.beq_eq_decide_eq]
  by_cases h1 : t.length = s.length
  · have h1' : PyData.eqv (.int (t.length : Int)) (.int (s.length : Int)) = true := by rw [eI]; simp [h1]
    rw [if_pos h1']
    by_cases h2 : t = s
    · subst h2
      simp [List.le_refl]
    · rw [if_neg (by simp [h2])]
      by_cases h3 : t < s
      · have : ¬ s ≤ t := fun q => List.not_lt.mpr q h3
        simp [h1, h3, this]
      · have : s ≤ t := List.not_lt.mp h3
        simp [h1, h3, this]
  · have h1' : ¬ PyData.eqv (.int (t.length : Int)) (.int (s.length : Int)) = true := by rw [eI]; simp; omega
    rw [if_neg h1']
    by_cases h3 : s.length < t.length
    · have : ¬ (t.length < s.length) := by omega
      simp [h3, this]
    · have h4 : t.length < s.length := by omega
      have h5 : ¬ s.length = t.length := by omega
      simp [h3, h4, h5]
theorem le_anti {s t : Sx} (h : s ≤ t) (h' : t ≤ s) : s = t := List.le_antisymm h h'
theorem le2_total (s t : Sx) : (le2 s t || le2 t s) = true := by
  rw [le2_eq, le2_eq]
  rcases List.le_total s t with h | h <;> by_cases e : s.length < t.length <;> by_cases e' : t.length < s.length <;> simp [h, e, e'] <;> omega
theorem le2_trans (a b c : Sx) : le2 a b = true → le2 b c = true → le2 a c = true := by
  rw [le2_eq, le2_eq, le2_eq]
  simp only [decide_eq_true_eq]
  rintro (h | ⟨h1, h2⟩) (h' | ⟨h1', h2'⟩)
  · left; omega
  · left; omega
  · left; omega
  · right; exact ⟨by omega, List.le_trans h2 h2'⟩
theorem le2_anti {s t : Sx} (h : le2 s t = true) (h' : le2 t s = true) : s = t := by
  rw [le2_eq] at h h'
  simp only [decide_eq_true_eq] at h h'
  rcases h with h | ⟨_, h⟩ <;> rcases h' with h' | ⟨_, h'⟩
  · omega
  · omega
  · omega
  · exact le_anti h h'
/-- simplices by length, then ascending -/
def inOrd (F : List Sx) : List Sx := F.mergeSort le2
theorem inOrd_perm (F : List Sx) : (inOrd F).Perm F := List.mergeSort_perm F le2
theorem inOrd_pw (F : List Sx) : (inOrd F).Pairwise fun a b => le2 a b = true := List.pairwise_mergeSort le2_trans le2_total F
theorem inOrd_eq {F G : List Sx} (h : F.Perm G) : inOrd F = inOrd G :=
  List.Perm.eq_of_pairwise (fun a b _ _ h1 h2 => le2_anti h1 h2) (inOrd_pw F) (inOrd_pw G) ((inOrd_perm F).trans (h.trans (inOrd_perm G).symm))
theorem mem_inOrd {F : List Sx} {s : Sx} : s ∈ inOrd F ↔ s ∈ F := (inOrd_perm F).mem_iff
theorem inOrd_nd {F : List Sx} (h : F.Nodup) : (inOrd F).Nodup := (inOrd_perm F).nodup_iff.mpr h
/-- the facets -/
def mx (F : List Sx) : List Sx := (F.filter fun s => decide (s ∉ innL F)).mergeSort leS
theorem mem_mx {F : List Sx} {s : Sx} : s ∈ mx F ↔ s ∈ F ∧ s ∉ innL F := by
  unfold mx
  rw [(List.mergeSort_perm _ _).mem_iff, List.mem_filter]
  simp

/-! ### data -/
theorem dp_ints {K : PySem.W.Frag} {H : Hp} : ∀ s : Sx, DpAll K H (s.map V.int) (s.map PyData.int)
  | [] => .nil
  | a :: s => .cons (.int a) (dp_ints s)
theorem dp_S {K : PySem.W.Frag} {H : Hp} {v : V} {s : Sx} (h : IsS H v s) : Dp K H v (encS s) := by
  obtain ⟨a, rfl, e⟩ := h
  exact .tup (.inl (.inl e)) (dp_ints s)
/-- a pair (length, simplex) -/
def IsLS (H : Hp) (v : V) (s : Sx) : Prop := ∃ a b, v = .ref a ∧ H a = some (.tup [.int s.length, .ref b]) ∧ H b = some (.tup (s.map V.int))
theorem IsLS.kt {H H' : Hp} (k : KeepT H H') {v : V} {s : Sx} (h : IsLS H v s) : IsLS H' v s := let ⟨a, b, e, q, r⟩ := h; ⟨a, b, e, k _ _ q, k _ _ r⟩
theorem dp_LS {K : PySem.W.Frag} {H : Hp} {v : V} {s : Sx} (h : IsLS H v s) : Dp K H v (enc2 s) := by
  obtain ⟨a, b, rfl, e, e2⟩ := h
  exact .tup (.inl (.inl e)) (.cons (.int _) (.cons (.tup (.inl (.inl e2)) (dp_ints s)) .nil))
theorem depth_S (s : Sx) : (encS s).depth ≤ 8 := by
  unfold encS
  rw [PyData.depth, PySem.W.depth_ints]
  decide
theorem depth_2 (s : Sx) : (enc2 s).depth ≤ 8 := by
  unfold enc2
  simp only [PyData.depth, PyData.depthAll, PySem.W.depth_ints]
  decide
theorem alike_S (s t : Sx) : PySem.W.alike (encS s) (encS t) = true := by simp [encS, PySem.W.alike, PySem.W.alike_ints]
theorem alike_2 (s t : Sx) : PySem.W.alike (enc2 s) (enc2 t) = true := by simp [enc2, PySem.W.alike, PySem.W.alikeAll, PySem.W.alike_ints]
theorem sortable_2 (F : List Sx) : PySem.W.Sortable (F.map enc2) := PySem.W.Sortable.tuples fun b => ⟨_, _, rfl⟩
theorem sortable_S {F : List Sx} (h : ∀ s ∈ F, s ≠ []) : PySem.W.Sortable (F.map encS) := .inl fun d hd => by
  obtain ⟨s, hs, rfl⟩ := List.mem_map.mp hd
  cases s with
  | nil => exact absurd rfl (h [] hs)
  | cons a r => exact ⟨_, _, rfl⟩
/-- len of a list or tuple, as a reading -/
abbrev rLenS (K : PySem.W.Frag) : List V → Hp → VK → Prop := fun xs H Q => ∃ p ys, xs = [V.ref p] ∧ (SqL K H p ys ∨ SqT K H p ys) ∧ Q (.int ys.length) H
/-! ### locks -/
theorem unlock_same {H H' : Hp} {d : Addr} {u : HO} {od : Obj} (hd : H d = some u) (s : Same (upd H d (.frz od u)) H') : Same H (upd H' d u) := fun b o e => by
  by_cases hb : b = d
  · subst hb
    rw [hd] at e
    cases e
    exact upd_same
  · rw [upd_ne hb]
    exact s b o (by rw [upd_ne hb]; exact e)
theorem unlock_kt {H' : Hp} {d : Addr} {u : HO} {od : Obj} (hd : H' d = some (.frz od u)) : KeepT H' (upd H' d u) := fun b xs e => by
  rw [upd_ne (ne_of e hd (by intro z; cases z))]
  exact e
theorem lock_kt {H : Hp} {d : Addr} {kvs : List (List Key × V)} {u : HO} (hd : H d = some (.dT kvs)) : KeepT H (upd H d u) := fun b xs e => by
  rw [upd_ne (ne_of e hd (by intro z; cases z))]
  exact e
end B72
set_option Elab.async false
set_option linter.all false
set_option maxRecDepth 100000
set_option maxHeartbeats 4000000
/-! in_order, vertices_in. -/
namespace B72
open PySem PySem.Spec PyProof.Rows L2 R72 Mk72
theorem hu11 {A : Around} {k : Nat} (hr : Room k A) : A.units + 11 < cLine := Nat.lt_of_le_of_lt (Nat.add_le_add_left (by decide : 11 ≤ 64) _) hr.units
theorem Paired.sm {H H' : Hp} {R : Hp → V → Sx → Prop} (h : ∀ {v s}, R H v s → R H' v s) {xs : List V} {ss : List Sx} (p : Paired (R H) xs ss) : Paired (R H') xs ss := Paired.mp (fun _ _ q => h q) p
section
variable {P : Program} {w : World} {K : PySem.W.Frag} {mg : Str → Option Value} {base : Heap}
abbrev nOrder : List Str := ["simplices", "simplex", "pair"]
theorem scOrder : FnScope nOrder ["simplices"] (defScope sOrder) := ⟨rfl, rfl, rfl, by decide +kernel, rfl, by decide +kernel, by decide +kernel⟩
/-- in_order(simplices), of a list -/
def spOrderL : Sp := fun vs H Q _ => ∃ v ss, vs = [v] ∧ LstSs H v ss ∧ ss.length ≤ 1000 ∧ (∀ s ∈ ss, s.length ≤ 1000) ∧ ∀ H' p ys, Same H H' → H' p = some (.lst ys) → IsSs H' ys (inOrd ss) → Q (.ref p) H'
theorem ok_orderL {f : Addr} {fd : FuncData} {k : Nat} (F : Fun K "in_order" "in_order" sOrder f fd) (T : Fx mg) : FnOk P w K mg base CX0 (k + 1) f fd ["simplices"] spOrderL := by
  refine F.ok scOrder (fun vs H Q E h => ?_) (fun cdv A outer s H vs Q E hr h => ?_)
  · obtain ⟨v, ss, rfl, _⟩ := h
    rfl
  · obtain ⟨v, ss, rfl, hv, hmany, hlen, q⟩ := h
    refine ⟨_, pss_one (ps_ret (pe_lc (own := [("pair", 2)]) (g := gName 2) (tt := tYes) (te := tOp (rIxT K) (tVar 2) (tC (.int 1))) rfl scOrder.nd
      (pi_list (pe_callB (cr_sortD (enc := enc2) (R := IsLS) alike_2 (hu11 hr)) (by rfl) T.zSorted (by decide +kernel) (pa_cons
        ((pe_lc (own := [("simplex", 1)]) (g := gName 1) (tt := tYes) (te := tTup (tCons (tCB (rLenS K) (tCons (tVar 1) tNil)) (tCons (tVar 1) tNil))) rfl scOrder.nd (pi_list (pv 0))
          (blkOk_by (own := [("simplex", 1)]) (N := nOrder) (sc := defScope sOrder) (by decide +kernel)) (fun _ _ _ _ _ => pg_name (i := 1) scOrder.nd rfl (Or.inl rfl)) (fun _ _ _ _ _ => pts_nil)
          (fun _ _ _ _ _ => pe_tup (pa_cons (pe_callB call_len_seq (by rfl) T.zLen PySem.boot_len (pa_cons (pv 1) pa_nil)) (pa_cons (pv 1) pa_nil))))) pa_nil)))
      (blkOk_by (own := [("pair", 2)]) (N := nOrder) (sc := defScope sOrder) (by decide +kernel)) (fun _ _ _ _ _ => pg_name (i := 2) scOrder.nd rfl (Or.inl rfl)) (fun _ _ _ _ _ => pts_nil)
      (fun _ _ _ _ _ => pe_ix ix_tup (pv 2) pe_int (fun _ _ => rfl)))), ?_⟩
    · obtain ⟨l, fs, rfl, el, rf⟩ := hv
      refine ⟨_, rfl, l, rfl, ⟨_, SqL.of el⟩, fun D hD => ?_⟩
      refine lc_fun ext_same (bs := ss) (walk_list' (K := K) (a := l) (xs := fs) (Paired.len rf)) (fun _ => true) (fun t => t) IsLS (fun kt h => h.kt kt) hD (Same.refl _) (by omega) (fun H2 s2 => Same.seq s2 (SqL.of el)) ?_ ?_
      · rintro j y b H2 H3 NT NF hb sm2 ⟨rfl, hy⟩ ht hf
        obtain ⟨b', hb', qa, rfl, e2⟩ := Paired.at rf hy
        obtain rfl : b = b' := Option.some.inj (hb.symm.trans hb')
        have e2 := sm2 _ _ e2
        refine ⟨rfl, _, rfl, qa, _, rfl, .inr (.inl (.inl e2)), _, rfl, by show 2 ≤ sizeLine; decide, fun t nt => ?_⟩
        have st : Same H3 (upd H3 t (.tup [.int (b.map V.int).length, .ref qa])) := same_upd nt
        refine ht rfl _ _ st ⟨t, qa, rfl, ?_, st _ _ e2⟩
        rw [upd_same, List.length_map]
      · intro H2 ys sm2 hD2 r2
        rw [filter_yes, List.map_id'] at r2
        have sm := sm2
        have hD := hD2
        have r := r2
        -- sorted
        refine ⟨D, ys, ss, rfl, SqL.of hD, r, fun v b h => dp_LS h, sortable_2 ss, depth_2, fun zs p np rz => ?_⟩
        have s3 : Same H2 (upd H2 p (.lst zs)) := same_upd np
        refine ⟨p, rfl, ⟨_, SqL.of upd_same⟩, fun D2 hD2 => ?_⟩
        have zlen : zs.length = (inOrd ss).length := Paired.len rz
        have olen : (inOrd ss).length = ss.length := (inOrd_perm ss).length_eq
        refine lc_fun ext_same (bs := inOrd ss) (walk_list' (K := K) (a := p) (xs := zs) zlen) (fun _ => true) (fun t => t) IsS (fun kt h => h.kt kt) hD2 (Same.refl _) (by omega) (fun H4 s4 => SqL.of (s4 _ _ upd_same)) ?_ ?_
        · rintro j y b H4 H5 NT NF hb sm4 ⟨rfl, hy⟩ ht hf
          obtain ⟨b', hb', hS⟩ := Paired.at rz hy
          obtain rfl : b = b' := Option.some.inj (hb.symm.trans hb')
          obtain ⟨pa, pb, rfl, h1, h2⟩ := hS.kt ((Same.kt s3).trans (Same.kt sm4))
          exact ⟨rfl, _, rfl, pa, _, 1, .ref pb, rfl, rfl, .inl (.inl h1), rfl, ht rfl _ _ (Same.refl _) ⟨pb, rfl, h2⟩⟩
        · intro H4 ws sm4 hD4 r4
          rw [filter_yes, List.map_id'] at r4
          exact q H4 D2 ws (sm.trans (s3.trans sm4)) hD4 r4
/-- in_order(simplices), of a dict -/
def spOrderD : Sp := fun vs H Q _ => ∃ v ss, vs = [v] ∧ DctS H v ss ∧ ss.length ≤ 1000 ∧ (∀ s ∈ ss, s.length ≤ 1000) ∧ ∀ H' p ys, Same H H' → H' p = some (.lst ys) → IsSs H' ys (inOrd ss) → Q (.ref p) H'
theorem ok_orderD {f : Addr} {fd : FuncData} {k : Nat} (F : Fun K "in_order" "in_order" sOrder f fd) (T : Fx mg) : FnOk P w K mg base CX0 (k + 1) f fd ["simplices"] spOrderD := by
  refine F.ok scOrder (fun vs H Q E h => ?_) (fun cdv A outer s H vs Q E hr h => ?_)
  · obtain ⟨v, ss, rfl, _⟩ := h
    rfl
  · obtain ⟨v, ss, rfl, hv, hmany, hlen, q⟩ := h
    refine ⟨_, pss_one (ps_ret (pe_lc (own := [("pair", 2)]) (g := gName 2) (tt := tYes) (te := tOp (rIxT K) (tVar 2) (tC (.int 1))) rfl scOrder.nd
      (pi_list (pe_callB (cr_sortD (enc := enc2) (R := IsLS) alike_2 (hu11 hr)) (by rfl) T.zSorted (by decide +kernel) (pa_cons
        (pe_lock (pe_lc (own := [("simplex", 1)]) (g := gName 1) (tt := tYes) (te := tTup (tCons (tCB (rLenS K) (tCons (tVar 1) tNil)) (tCons (tVar 1) tNil))) rfl scOrder.nd (pi_keys (pv 0))
          (blkOk_by (own := [("simplex", 1)]) (N := nOrder) (sc := defScope sOrder) (by decide +kernel)) (fun _ _ _ _ _ => pg_name (i := 1) scOrder.nd rfl (Or.inl rfl)) (fun _ _ _ _ _ => pts_nil)
          (fun _ _ _ _ _ => pe_tup (pa_cons (pe_callB call_len_seq (by rfl) T.zLen PySem.boot_len (pa_cons (pv 1) pa_nil)) (pa_cons (pv 1) pa_nil))))) pa_nil)))
      (blkOk_by (own := [("pair", 2)]) (N := nOrder) (sc := defScope sOrder) (by decide +kernel)) (fun _ _ _ _ _ => pg_name (i := 2) scOrder.nd rfl (Or.inl rfl)) (fun _ _ _ _ _ => pts_nil)
      (fun _ _ _ _ _ => pe_ix ix_tup (pv 2) pe_int (fun _ _ => rfl)))), ?_⟩
    · obtain ⟨d, rfl, hd⟩ := hv
      refine ⟨d, dOf ss, hd, trivial, fun od => ⟨_, rfl, d, od, rfl, .inr ⟨ss.map fun s => (keyS s, V.bl true), upd_same, fun D hD => ?_⟩⟩⟩
      have lenk : (ss.map fun s => (keyS s, V.bl true)).length = ss.length := List.length_map ..
      have wk := walk_keysT (d := d) (o := od) (kvs := ss.map fun s => (keyS s, V.bl true))
      rw [lenk] at wk
      refine lc_fun ext_same (bs := ss) wk (fun _ => true) (fun t => t) IsLS (fun kt h => h.kt kt) hD (Same.refl _) (by omega) (fun H2 s2 => s2 _ _ upd_same) ?_ ?_
      · rintro j y b H2 H3 NT NF hb sm2 ⟨rfl, kk, vv, qa, e1, rfl, e2⟩ ht hf
        have eb : (keyS b, V.bl true) = (kk, vv) := by
          rw [List.getElem?_map, hb] at e1
          exact Option.some.inj e1
        obtain ⟨rfl, rfl⟩ := Prod.mk.inj eb
        rw [keyS_kV] at e2
        refine ⟨rfl, _, rfl, qa, _, rfl, .inr (.inl (.inl e2)), _, rfl, by show 2 ≤ sizeLine; decide, fun t nt => ?_⟩
        have st : Same H3 (upd H3 t (.tup [.int (b.map V.int).length, .ref qa])) := same_upd nt
        refine ht rfl _ _ st ⟨t, qa, rfl, ?_, st _ _ e2⟩
        rw [upd_same, List.length_map]
      · intro H2 ys sm2 hD2 r2
        rw [filter_yes, List.map_id'] at r2
        have ed : H2 d = some (.frz od (dOf ss)) := sm2 _ _ upd_same
        have kt := unlock_kt ed
        refine ⟨ed, ?_⟩
        have sm := unlock_same hd sm2
        have hD : (upd H2 d (dOf ss)) D = some (.lst ys) := by
          rw [upd_ne (ne_of hD2 ed (by intro z; cases z))]
          exact hD2
        have r : Paired (IsLS (upd H2 d (dOf ss))) ys ss := Paired.mp (fun _ _ h => h.kt kt) r2
        generalize upd H2 d (dOf ss) = H2 at sm hD r ⊢
        -- sorted
        refine ⟨D, ys, ss, rfl, SqL.of hD, r, fun v b h => dp_LS h, sortable_2 ss, depth_2, fun zs p np rz => ?_⟩
        have s3 : Same H2 (upd H2 p (.lst zs)) := same_upd np
        refine ⟨p, rfl, ⟨_, SqL.of upd_same⟩, fun D2 hD2 => ?_⟩
        have zlen : zs.length = (inOrd ss).length := Paired.len rz
        have olen : (inOrd ss).length = ss.length := (inOrd_perm ss).length_eq
        refine lc_fun ext_same (bs := inOrd ss) (walk_list' (K := K) (a := p) (xs := zs) zlen) (fun _ => true) (fun t => t) IsS (fun kt h => h.kt kt) hD2 (Same.refl _) (by omega) (fun H4 s4 => SqL.of (s4 _ _ upd_same)) ?_ ?_
        · rintro j y b H4 H5 NT NF hb sm4 ⟨rfl, hy⟩ ht hf
          obtain ⟨b', hb', hS⟩ := Paired.at rz hy
          obtain rfl : b = b' := Option.some.inj (hb.symm.trans hb')
          obtain ⟨pa, pb, rfl, h1, h2⟩ := hS.kt ((Same.kt s3).trans (Same.kt sm4))
          exact ⟨rfl, _, rfl, pa, _, 1, .ref pb, rfl, rfl, .inl (.inl h1), rfl, ht rfl _ _ (Same.refl _) ⟨pb, rfl, h2⟩⟩
        · intro H4 ws sm4 hD4 r4
          rw [filter_yes, List.map_id'] at r4
          exact q H4 D2 ws (sm.trans (s3.trans sm4)) hD4 r4
/-- vertices_in(shape): the ascending list of the vertices -/
def UpMem (ns : List Int) (F : List Sx) : Prop := ns.Pairwise (· < ·) ∧ ∀ v, v ∈ ns ↔ [v] ∈ F
theorem UpMem.eq {ns ms : List Int} {F : List Sx} (h : UpMem ns F) (h' : UpMem ms F) : ns = ms := up_ext h.1 h'.1 fun v => (h.2 v).trans (h'.2 v).symm
def headI (s : Sx) : Int := s.headD 0
theorem one_iff {s : Sx} (h : s.length = 1) : s = [headI s] := by
  match s, h with
  | [a], _ => rfl
theorem heads_mem {F : List Sx} {v : Int} : v ∈ (F.filter fun s => decide (s.length = 1)).map headI ↔ [v] ∈ F := by
  rw [List.mem_map]
  constructor
  · rintro ⟨s, hs, rfl⟩
    obtain ⟨h1, h2⟩ := List.mem_filter.mp hs
    rw [← one_iff (of_decide_eq_true h2)]
    exact h1
  · intro h
    exact ⟨[v], List.mem_filter.mpr ⟨h, rfl⟩, rfl⟩
theorem heads_nd {F : List Sx} (h : F.Nodup) : ((F.filter fun s => decide (s.length = 1)).map headI).Nodup := by
  have h2 : (F.filter fun s => decide (s.length = 1)).Nodup := h.filter _
  rw [List.nodup_iff_pairwise_ne, List.pairwise_map]
  refine (List.nodup_iff_pairwise_ne.mp h2).imp_of_mem fun {a b} ha hb ne e => ne ?_
  rw [one_iff (of_decide_eq_true (List.mem_filter.mp ha).2), one_iff (of_decide_eq_true (List.mem_filter.mp hb).2), e]
theorem lt_of_le_nd : ∀ {l : List Int}, l.Pairwise (· ≤ ·) → l.Nodup → l.Pairwise (· < ·)
  | [], _, _ => .nil
  | a :: l, h, n => by
    obtain ⟨h1, h2⟩ := List.pairwise_cons.mp h
    obtain ⟨n1, n2⟩ := List.nodup_cons.mp n
    refine List.pairwise_cons.mpr ⟨fun b hb => ?_, lt_of_le_nd h2 n2⟩
    have := h1 b hb
    have ne : a ≠ b := fun e => n1 (e ▸ hb)
    omega
/-- a complex: its faces' dict F, its facets' tuple G -/
def cxF (df tp : V) : List (Str × V) := putF "tops" tp (putF "faces" df [])
theorem cxF_faces (df tp : V) : (cxF df tp).lookup ("faces" : Str) = some df := by
  unfold cxF
  rw [lookup_putF, if_neg (by decide +kernel), lookup_putF, if_pos rfl]
theorem cxF_tops (df tp : V) : (cxF df tp).lookup ("tops" : Str) = some tp := by
  unfold cxF
  rw [lookup_putF, if_pos rfl]
def IsCx (C : Addr) (H : Hp) (v : V) (F G : List Sx) : Prop := ∃ a dx d t, v = .ref a ∧ H a = some (.ins C dx (cxF (.ref d) t)) ∧ H d = some (dOf F) ∧ TupSs H t G
theorem IsCx.sm {C : Addr} {H H' : Hp} (k : Same H H') {v : V} {F G : List Sx} (h : IsCx C H v F G) : IsCx C H' v F G := let ⟨a, dx, d, t, e, h1, h2, h3⟩ := h; ⟨a, dx, d, t, e, k _ _ h1, k _ _ h2, h3.kt (Same.kt k)⟩
def spVIn (C : Addr) : Sp := fun vs H Q _ => ∃ v F G, vs = [v] ∧ IsCx C H v F G ∧ F.Nodup ∧ F.length ≤ 1000 ∧ ∀ H' p ns, Same H H' → H' p = some (.lst (ns.map V.int)) → UpMem ns F → Q (.ref p) H'
abbrev nVIn : List Str := ["shape", "simplex"]
theorem scVIn : FnScope nVIn ["shape"] (defScope sVIn) := ⟨rfl, rfl, rfl, by decide +kernel, rfl, by decide +kernel, by decide +kernel⟩
theorem ok_vin {C f : Addr} {fd : FuncData} {k : Nat} (F : Fun K "vertices_in" "vertices_in" sVIn f fd) (T : Fx mg) (TC : Cx72 K mg C) : FnOk P w K mg base CX0 (k + 1) f fd ["shape"] (spVIn C) := by
  refine F.ok scVIn (fun vs H Q E h => ?_) (fun cdv A outer s H vs Q E hr h => ?_)
  · obtain ⟨v, ss, _, rfl, _⟩ := h
    rfl
  · obtain ⟨v, ss, G, rfl, ⟨a, dx, d, t, rfl, ha, hd, hG⟩, hnd, hmany, q⟩ := h
    refine ⟨_, pss_one (ps_ret (pe_callB cr_sortedI (by rfl) T.zSorted (by decide +kernel) (pa_cons
        (pe_lock (pe_lc (own := [("simplex", 1)]) (g := gName 1) (tt := tTest (tOp rEq (tCB (rLenS K) (tCons (tVar 1) tNil)) (tC (.int 1)))) (te := tOp (rIxT K) (tVar 1) (tC (.int 0))) rfl scVIn.nd (pi_keys (pe_fld (pv 0) rfl))
          (blkOk_by (own := [("simplex", 1)]) (N := nVIn) (sc := defScope sVIn) (by decide +kernel)) (fun _ _ _ _ _ => pg_name (i := 1) scVIn.nd rfl (Or.inl rfl))
          (fun _ _ _ _ _ => pts_one (pt_cmpR op_eq (pe_callB call_len_seq (by rfl) T.zLen PySem.boot_len (pa_cons (pv 1) pa_nil)) pe_int (nomark _)))
          (fun _ _ _ _ _ => pe_ix ix_tup (pv 1) pe_int (fun _ _ => rfl)))) pa_nil))), ?_⟩
    have nad : a ≠ d := ne_of ha hd (by intro z; cases z)
    refine ⟨d, dOf ss, hd, trivial, fun od => ⟨_, rfl, a, C, dx, _, .ref d, rfl, by rw [upd_ne nad]; exact ha, TC.ins.cl, TC.nF, cxF_faces _ _, d, od, rfl, .inr ⟨ss.map fun s => (keyS s, V.bl true), upd_same, fun D hD => ?_⟩⟩⟩
    have lenk : (ss.map fun s => (keyS s, V.bl true)).length = ss.length := List.length_map ..
    have wk := walk_keysT (d := d) (o := od) (kvs := ss.map fun s => (keyS s, V.bl true))
    rw [lenk] at wk
    refine lc_fun ext_same (bs := ss) wk (fun s => decide (s.length = 1)) headI (fun _ y c => y = .int c) (fun _ h => h) hD (Same.refl _) (by omega) (fun H2 s2 => s2 _ _ upd_same) ?_ ?_
    · rintro j y b H2 H3 NT NF hb sm2 ⟨rfl, kk, vv, qa, e1, rfl, e2⟩ ht hf
      have eb : (keyS b, V.bl true) = (kk, vv) := by
        rw [List.getElem?_map, hb] at e1
        exact Option.some.inj e1
      obtain ⟨rfl, rfl⟩ := Prod.mk.inj eb
      rw [keyS_kV] at e2
      refine ⟨rfl, _, rfl, qa, _, rfl, .inr (.inl (.inl e2)), rfl, _, rfl, ?_⟩
      rw [List.length_map]
      by_cases h1 : b.length = 1
      · refine ite2 (fun _ => ?_) (fun h => absurd (by rw [h1]; rfl) h)
        refine ⟨_, rfl, qa, b.map V.int, 0, .int (headI b), rfl, rfl, .inl (.inl e2), ?_, ht (decide_eq_true h1) _ _ (Same.refl _) rfl⟩
        rw [one_iff h1]
        rfl
      · refine ite2 (fun h => ?_) (fun _ => hf (decide_eq_false h1) _ (Same.refl _))
        exfalso
        have h2 := V.int.inj (of_decide_eq_true h)
        exact h1 (by omega)
    · intro H2 ys sm2 hD2 r2
      have ey : ys = ((ss.filter fun s => decide (s.length = 1)).map headI).map V.int := Paired.eqv (g := V.int) r2
      have ed : H2 d = some (.frz od (dOf ss)) := sm2 _ _ upd_same
      have nDd : D ≠ d := ne_of hD2 ed (by intro z; cases z)
      refine ⟨ed, D, (ss.filter fun s => decide (s.length = 1)).map headI, rfl, SqL.of (by rw [upd_ne nDd, hD2, ey]), fun ns p perm pw np => ?_⟩
      have s3 := unlock_same hd sm2
      refine q _ p ns (s3.trans (same_upd np)) upd_same ⟨lt_of_le_nd pw (perm.nodup_iff.mpr (heads_nd hnd)), fun v => perm.mem_iff.trans heads_mem⟩
end
end B72
set_option Elab.async false
set_option linter.all false
set_option maxRecDepth 100000
set_option maxHeartbeats 4000000
/-! maximal. -/
namespace B72
open PySem PySem.Spec PyProof.Rows L2 R72 Mk72
theorem cut_to (s : Sx) (i : Nat) (hi : i < s.length) : cutV (s.map V.int) none (some (0 + (i : Int))) = (s.take i).map V.int ∧
    ¬ (HT.sIx (s.map V.int).length 0 none = 0 ∧ HT.sIx (s.map V.int).length (s.map V.int).length (some (0 + (i : Int))) = (s.map V.int).length) := by
  rw [Int.zero_add]
  have e : HT.sIx (s.map V.int).length (s.map V.int).length (some (i : Int)) = i := by
    rw [HT.sIx_nat, List.length_map]
    omega
  refine ⟨?_, fun h => ?_⟩
  · unfold cutV
    rw [e, HT.sIx_none, List.drop_zero, Nat.sub_zero, List.map_take]
  · rw [e, List.length_map] at h
    omega
theorem cut_behind (s : Sx) (i : Nat) (hi : i < s.length) : cutV (s.map V.int) (some (0 + (i : Int) + 1)) none = (s.drop (i + 1)).map V.int ∧
    ¬ (HT.sIx (s.map V.int).length 0 (some (0 + (i : Int) + 1)) = 0 ∧ HT.sIx (s.map V.int).length (s.map V.int).length none = (s.map V.int).length) := by
  have e0 : (0 + (i : Int) + 1) = ((i + 1 : Nat) : Int) := by omega
  rw [e0]
  have e : HT.sIx (s.map V.int).length 0 (some ((i + 1 : Nat) : Int)) = i + 1 := by
    rw [HT.sIx_nat, List.length_map]
    omega
  refine ⟨?_, fun h => ?_⟩
  · unfold cutV
    rw [e, HT.sIx_none, List.map_drop]
    refine List.take_of_length_le ?_
    rw [List.length_drop]
    exact Nat.le_refl _
  · rw [e] at h
    omega
theorem range_take {α : Type} (f : α → Nat → α) (a : α) (k : Nat) : (List.range (k + 1)).foldl f a = f ((List.range k).foldl f a) k := by
  rw [List.range_succ, List.foldl_append]
  rfl
section
variable {P : Program} {w : World} {K : PySem.W.Frag} {mg : Str → Option Value} {base : Heap}
/-- maximal(faces) -/
def spMax : Sp := fun vs H Q _ => ∃ v F, vs = [v] ∧ DctS H v F ∧ F.length ≤ 400 ∧ (∀ s ∈ F, s ≠ [] ∧ s.length ≤ 12) ∧ ∀ H' r, Same H H' → TupSs H' r (mx F) → Q r H'
abbrev nMax : List Str := ["faces", "inner", "simplex", "at"]
theorem scMax : FnScope nMax ["faces"] (defScope sMax) := ⟨rfl, rfl, rfl, by decide +kernel, rfl, by decide +kernel, by decide +kernel⟩
theorem ok_max {f : Addr} {fd : FuncData} {k : Nat} (F : Fun K "maximal" "maximal" sMax f fd) (T : Fx mg) : FnOk P w K mg base CX0 (k + 1) f fd ["faces"] spMax := by
  refine F.ok scMax (fun vs H Q E h => ?_) (fun cdv A outer s H vs Q E hr h => ?_)
  · obtain ⟨v, ss, rfl, _⟩ := h
    rfl
  · obtain ⟨v, F, rfl, ⟨d, rfl, hd⟩, hmany, hok, q⟩ := h
    refine ⟨_, pss_cons (ps_set (i := 1) scMax.nd rfl (.inr rfl) pe_dnewT)
      (pss_cons (ps_lock (ps_for PassesOwn.never rfl (pi_keys (pv 0)) (pg_name (i := 2) scMax.nd rfl (.inl rfl))
        (pss_one (ps_for PassesOwn.never rfl (pi_range1 (by rfl) T.zRange (pa_cons (pe_callB call_len_seq (by rfl) T.zLen PySem.boot_len (pa_cons (pv 2) pa_nil)) pa_nil)) (pg_name (i := 3) scMax.nd rfl (.inl rfl))
          (pss_one (ps_dput (hu_of hr) (pv 1) (pe_op op_catA (pe_slice sl_tupA (pv 2) po_none (po_some (pv 3))) (pe_slice sl_tupA (pv 2) (po_some (pe_op op_add (pv 3) pe_int)) po_none)) pe_bl rfl))))))
      (pss_one (ps_ret (pe_callTy call_tuple_of (by rfl) T.zTuple (by decide +kernel) (pa_cons (pe_callB (cr_sortD (enc := encS) (R := IsS) alike_S (hu11 hr)) (by rfl) T.zSorted (by decide +kernel) (pa_cons
        (pe_lock (pe_lc (own := [("simplex", 2)]) (g := gName 2) (tt := tB (tDNotIn (tVar 2) (tVar 1))) (te := tVar 2) rfl scMax.nd (pi_keys (pv 0))
          (blkOk_by (own := [("simplex", 2)]) (N := nMax) (sc := defScope sMax) (by decide +kernel)) (fun _ _ _ _ _ => pg_name (i := 2) scMax.nd rfl (Or.inl rfl))
          (fun _ _ _ _ _ => pts_one (pt_cmp (pc_dnotin (hu_of hr) (pv 2) (pv 1)))) (fun _ _ _ _ _ => pv 2))) pa_nil)) pa_nil))))), ?_⟩
    intro e he
    have nde : d ≠ e := ne_of_none hd he
    have s1 : Same H (upd H e (.dT [])) := same_upd he
    have hd1 : (upd H e (.dT [])) d = some (dOf F) := s1 _ _ hd
    -- the first loop
    refine ⟨d, dOf F, hd1, trivial, fun od => ⟨_, rfl, d, od, rfl, .inr ⟨F.map fun s => (keyS s, V.bl true), upd_same, ?_⟩⟩⟩
    have lenk : (F.map fun s => (keyS s, V.bl true)).length = F.length := List.length_map ..
    have wk := walk_keysT (d := d) (o := od) (kvs := F.map fun s => (keyS s, V.bl true))
    rw [lenk] at wk
    have hle0 : (upd H d (.frz od (dOf F))) e = none := by rw [upd_ne nde.symm]; exact he
    refine for_it wk (fun i σ H' => ∃ o2 o3, σ = [some (.ref d), some (.ref e), o2, o3] ∧ Same (upd H d (.frz od (dOf F))) H' ∧ H' e = some (dOf (innL (F.take i))))
      ⟨none, none, rfl, fun b o q => ?_, ?_⟩ (fun i σ H' _ ⟨_, _, _, sm, _⟩ => sm _ _ upd_same) ?_ ?_
    · by_cases hb : b = d
      · subst hb
        rw [upd_same] at q ⊢
        exact q
      · rw [upd_ne hb] at q ⊢
        exact s1 _ _ q
    · rw [upd_ne nde.symm, upd_same]
      rfl
    · rintro i x σ H' H'' hi ⟨o2, o3, rfl, sm, ei⟩ ⟨rfl, kk, vv, qa, e1, rfl, e2⟩
      have hFi : F[i]? = some F[i] := List.getElem?_eq_getElem hi
      have eb : (keyS F[i], V.bl true) = (kk, vv) := by
        rw [List.getElem?_map, hFi] at e1
        exact Option.some.inj e1
      obtain ⟨rfl, rfl⟩ := Prod.mk.inj eb
      rw [keyS_kV] at e2
      generalize hs : F[i] = s at *
      have hsm : s ∈ F := List.mem_of_getElem? hFi
      have hsl := (hok s hsm).2
      have hl62 : ((s.map V.int).length : Int) < 2 ^ 62 := by
        rw [List.length_map]
        have : (s.length : Int) ≤ 12 := by omega
        exact Int.lt_of_le_of_lt this (by decide)
      refine ⟨_, rfl, qa, _, rfl, .inr (.inl (.inl e2)), _, rfl, by omega, hl62, ?_⟩
      have etn : ((s.map V.int).length : Int).toNat = s.length := by rw [Int.toNat_natCast, List.length_map]
      rw [etn]
      refine for_range (lo := 0) (n := s.length) (fun j σ H3 => ∃ o3, σ = [some (.ref d), some (.ref e), some (.ref qa), o3] ∧ Same (upd H d (.frz od (dOf F))) H3 ∧ H3 qa = some (.tup (s.map V.int)) ∧ H3 e = some (dOf ((List.range j).foldl (fun I i => ins I (cutAt s i)) (innL (F.take i)))))
        ⟨o3, rfl, sm, e2, ei⟩ ?_ ?_
      · rintro j σ H3 hj ⟨o3', rfl, sm3, e23, e3⟩
        obtain ⟨c1, c2⟩ := cut_to s j hj
        obtain ⟨b1, b2⟩ := cut_behind s j hj
        have hI : ((List.range j).foldl (fun I i => ins I (cutAt s i)) (innL (F.take i))).length < sizeLine := by
          have h1 := innS_len (innL (F.take i)) s j
          have h2 := innL_len (F := F.take i) fun u hu => (hok u (List.mem_of_mem_take hu)).2
          rw [List.length_take] at h2
          have h3 : (innL (F.take i)).length ≤ 4800 := by omega
          exact Nat.lt_of_le_of_lt (Nat.le_trans h1 (Nat.add_le_add h3 (Nat.le_trans (Nat.le_of_lt hj) hsl))) (by decide)
        -- the store of a key that stands for cutAt s j
        have store : ∀ (b : Addr) (H4 : Hp), Same H3 H4 → H4 b = some (.tup ((cutAt s j).map V.int)) → ∃ a H5, V.ref e = .ref a ∧ DPut H4 a (.ref b) (.bl true) H5 ∧
            ∃ o3, ([some (.ref d), some (.ref e), some (.ref qa), some (.int (0 + (j : Int)))] : List (Option V)) = [some (.ref d), some (.ref e), some (.ref qa), o3] ∧ Same (upd H d (.frz od (dOf F))) H5 ∧ H5 qa = some (.tup (s.map V.int)) ∧ H5 e = some (dOf ((List.range (j + 1)).foldl (fun I i => ins I (cutAt s i)) (innL (F.take i)))) := by
          intro b H4 s4 hb
          have e4 := s4 _ _ e3
          refine ⟨e, _, rfl, DPut.t (k := keyS (cutAt s j)) e4 (by rw [keyS_kV]; exact hb) (by rw [List.length_map]; exact hI), _, rfl, fun c o q => ?_, ?_, ?_⟩
          · rw [upd_ne (ne_of_none q hle0)]
            exact s4 _ _ (sm3 _ _ q)
          · rw [upd_ne (ne_of (s4 _ _ e23) e4 (by intro z; cases z))]
            exact s4 _ _ e23
          · rw [upd_same, putK_of, range_take]
            rfl
        refine ⟨_, rfl, _, rfl, _, rfl, _, rfl, qa, _, rfl, .inl (.inl e23), fun z => absurd z c2, fun _ p1 np1 => ?_⟩
        rw [c1]
        have t1 : Same H3 (upd H3 p1 (.tup ((s.take j).map V.int))) := same_upd np1
        refine ⟨_, rfl, _, rfl, 0 + (j : Int), 1, rfl, rfl, _, rfl, qa, _, rfl, .inl (.inl (t1 _ _ e23)), fun z => absurd z b2, fun _ p2 np2 => ?_⟩
        rw [b1]
        have t2 : Same (upd H3 p1 (.tup ((s.take j).map V.int))) (upd (upd H3 p1 (.tup ((s.take j).map V.int))) p2 (.tup ((s.drop (j + 1)).map V.int))) := same_upd np2
        have x1 := t2 _ _ (show (upd H3 p1 (.tup ((s.take j).map V.int))) p1 = _ from upd_same)
        refine ⟨p1, p2, _, _, rfl, rfl, .inl (.inl x1), .inl (.inl upd_same), ?_, fun z => ?_, fun z1 z2 => ?_, fun z1 z2 p3 np3 => ?_⟩
        · rw [List.length_map, List.length_map, List.length_take, List.length_drop]
          exact Nat.le_trans (show min j s.length + (s.length - (j + 1)) ≤ 24 by omega) (by decide)
        · refine store p2 _ (t1.trans t2) ?_
          rw [upd_same]
          have : s.take j = [] := List.map_eq_nil_iff.mp z
          rw [cutAt, this, List.nil_append]
        · refine store p1 _ (t1.trans t2) ?_
          rw [x1]
          have : s.drop (j + 1) = [] := List.map_eq_nil_iff.mp z2
          rw [cutAt, this, List.append_nil]
        · refine store p3 _ ((t1.trans t2).trans (same_upd np3)) ?_
          rw [upd_same, cutAt, List.map_append]
      · rintro σ H3 ⟨o3', rfl, sm3, e23, e3⟩
        refine ⟨_, _, rfl, sm3, ?_⟩
        rw [take_snoc hFi, innL_snoc]
        exact e3
    · rintro σ H' ⟨o2, o3, rfl, sm, ei⟩
      have ed : H' d = some (.frz od (dOf F)) := sm _ _ upd_same
      refine ⟨ed, ?_⟩
      have sm5 := unlock_same hd sm
      have ei5 : (upd H' d (dOf F)) e = some (dOf (innL F)) := by
        rw [upd_ne nde.symm, ei, List.take_length]
      have ed5 : (upd H' d (dOf F)) d = some (dOf F) := upd_same
      generalize upd H' d (dOf F) = H5 at sm5 ei5 ed5 ⊢
      -- tuple(sorted([simplex for simplex in faces if simplex not in inner]))
      refine ⟨d, dOf F, ed5, trivial, fun od2 => ⟨_, rfl, d, od2, rfl, .inr ⟨F.map fun s => (keyS s, V.bl true), upd_same, fun D hD => ?_⟩⟩⟩
      have wk2 := walk_keysT (d := d) (o := od2) (kvs := F.map fun s => (keyS s, V.bl true))
      rw [lenk] at wk2
      have ei6 : (upd H5 d (.frz od2 (dOf F))) e = some (dOf (innL F)) := by rw [upd_ne nde.symm]; exact ei5
      refine lc_fun ext_same (bs := F) wk2 (fun s => decide (s ∉ innL F)) (fun t => t) IsS (fun kt h => h.kt kt) hD (Same.refl _) (by omega) (fun H2 s2 => s2 _ _ upd_same) ?_ ?_
      · rintro j y b H2 H3 NT NF hb sm2 ⟨rfl, kk, vv, qa, e1, rfl, e2⟩ ht hf
        have eb : (keyS b, V.bl true) = (kk, vv) := by
          rw [List.getElem?_map, hb] at e1
          exact Option.some.inj e1
        obtain ⟨rfl, rfl⟩ := Prod.mk.inj eb
        rw [keyS_kV] at e2
        refine ⟨rfl, _, rfl, _, rfl, e, _, rfl, DGet.t (k := keyS b) (sm2 _ _ ei6) (by rw [keyS_kV]; exact e2), _, rfl, ?_⟩
        rw [valV_of]
        by_cases hin : b ∈ innL F
        · rw [if_pos hin]
          exact hf (decide_eq_false (fun h => h hin)) _ (Same.refl _)
        · rw [if_neg hin]
          exact ⟨_, rfl, ht (decide_eq_true hin) _ _ (Same.refl _) ⟨qa, rfl, e2⟩⟩
      · intro H2 ys sm2 hD2 r2
        rw [List.map_id'] at r2
        have edl : H2 d = some (.frz od2 (dOf F)) := sm2 _ _ upd_same
        have kt := unlock_kt edl
        refine ⟨edl, ?_⟩
        have sm6 := unlock_same ed5 sm2
        have hD6 : (upd H2 d (dOf F)) D = some (.lst ys) := by rw [upd_ne (ne_of hD2 edl (by intro z; cases z))]; exact hD2
        have r6 := IsSs.kt kt r2
        generalize upd H2 d (dOf F) = H6 at sm6 hD6 r6 ⊢
        refine ⟨D, ys, _, rfl, SqL.of hD6, r6, fun v b h => dp_S h, sortable_S fun s hs => (hok s (List.mem_filter.mp hs).1).1, depth_S, fun zs p np rz => ?_⟩
        have s7 : Same H6 (upd H6 p (.lst zs)) := same_upd np
        refine ⟨p, zs, rfl, .inl ⟨SqL.of upd_same, fun l nl => ?_⟩⟩
        have s8 : Same (upd H6 p (.lst zs)) (upd (upd H6 p (.lst zs)) l (.tup zs)) := same_upd nl
        exact q _ _ (sm5.trans (sm6.trans (s7.trans s8))) ⟨l, zs, rfl, upd_same, IsSs.kt ((Same.kt s7).trans (Same.kt s8)) rz⟩
end
end B72
set_option Elab.async false
set_option linter.all false
set_option maxRecDepth 100000
set_option maxHeartbeats 4000000
/-! Complex: made, asked; need_complex, made, simplices_of. -/
namespace B72
open PySem PySem.Spec PyProof.Rows L2 R72 Mk72
theorem up_zip : ∀ {s : Sx}, s.Pairwise (· < ·) → upV (s.map V.int) = true
  | [], _ => rfl
  | [_], _ => rfl
  | a :: b :: r, h => by
    obtain ⟨h1, h2⟩ := List.pairwise_cons.mp h
    have ih := up_zip h2
    unfold upV at ih ⊢
    show (ltV (.int a) (.int b) && (((b :: r).map V.int).zip (((b :: r).map V.int).drop 1)).all fun p => ltV p.1 p.2) = true
    rw [ih, Bool.and_true]
    exact decide_eq_true (h1 b List.mem_cons_self)
theorem Ok.asc {s : Sx} (h : Ok s) : ascM 1 8 (s.map V.int) = true := by
  unfold ascM
  rw [up_zip h.up, Bool.and_true, Bool.and_eq_true]
  refine ⟨?_, ?_⟩
  · have h1 := h.len
    have h2 : 0 < s.length := List.length_pos_iff.mpr h.ne
    simp [lenB]
    omega
  · rw [List.all_eq_true]
    intro v hv
    obtain ⟨i, hi, rfl⟩ := List.mem_map.mp hv
    have := h.bd i hi
    simp [inB]
    omega
theorem Ok.genP {ss : List Sx} (h : ∀ s ∈ ss, Ok s) : ∀ t ∈ genP ss, Ok t := fun t ht => by
  obtain ⟨n, s, hs, q⟩ := mem_genP.mp ht
  exact (h s hs).sub q n
theorem Ok.mx {F : List Sx} (h : ∀ s ∈ F, Ok s) : ∀ t ∈ mx F, Ok t := fun t ht => h t (mem_mx.mp ht).1
theorem genP_many {ss : List Sx} (h : ∀ s ∈ ss, Ok s) : (genP ss).length ≤ 127 := ok_many (genP_closed ss).nd (Ok.genP h)
theorem mx_len (F : List Sx) : (mx F).length ≤ F.length := by
  unfold mx
  rw [List.length_mergeSort]
  exact List.length_filter_le _ _
section
variable {P : Program} {w : World} {K : PySem.W.Frag} {mg : Str → Option Value} {base : Heap}
/-- Complex.__init__(self, simplices) -/
def spCInit (C : Addr) : Sp := fun vs H Q _ => ∃ a dx v ss, vs = [.ref a, v] ∧ H a = some (.ins C dx []) ∧ TupSs H v ss ∧ ss.length ≤ 400 ∧ (∀ s ∈ ss, Ok s) ∧
  ∀ H', (∀ b o, b ≠ a → H b = some o → H' b = some o) → IsCx C H' (.ref a) (genP ss) (mx (genP ss)) → Q .non H'
abbrev nCInit : List Str := ["self", "simplices", "index", "simplex"]
theorem scCInit : FnScope nCInit ["self", "simplices"] (defScope sCInit) := ⟨rfl, rfl, rfl, by decide +kernel, rfl, by decide +kernel, by decide +kernel⟩
theorem ok_cinit {C f : Addr} {fd : FuncData} {k : Nat} (hk : 4 ≤ k) (F : Fun K "__init__" "Complex.__init__" sCInit f fd) (T : Fx mg) (TC : Cx72 K mg C) (c1 : Cal72 P w K mg base 1 "is_list" spList) (c2 : Cal72 P w K mg base 4 "is_simplex" spSimp)
    (c3 : Cal72 P w K mg base 2 "generated" spGen) (c4 : Cal72 P w K mg base 1 "maximal" spMax) : FnOk P w K mg base CX0 (k + 1) f fd ["self", "simplices"] (spCInit C) := by
  refine F.ok scCInit (fun vs H Q E h => ?_) (fun cdv A outer s H vs Q E hr h => ?_)
  · obtain ⟨a, _, v, ss, rfl, _⟩ := h
    rfl
  · obtain ⟨a, dx, v, ss, rfl, ha, hv, hmany, hok, q⟩ := h
    have hv0 := hv
    obtain ⟨t, xs, rfl, ht, rss⟩ := hv
    refine ⟨_, pss_cons (ps_if (pt_not (pt_val (C8.pe_c c1 hr (by omega) (by rfl) (pa_cons (pv 1) (pa_cons pe_int (pa_cons (C8.pe_gc (by rfl) (cmg T.cFaces)) pa_nil)))))) (pss_one ps_never) pss_nil)
      (pss_cons (ps_for PassesOwn.never rfl (pi_enumT (by rfl) T.zEnum (pa_cons (pv 1) pa_nil)) (pg_tup rfl (pgs_cons (pg_name (i := 2) scCInit.nd rfl (.inl rfl)) (pgs_cons (pg_name (i := 3) scCInit.nd rfl (.inl rfl)) pgs_nil)))
        (pss_one (ps_if (pt_not (pt_val (C8.pe_c c2 hr hk (by rfl) (pa_cons (pv 3) pa_nil)))) (pss_one ps_never) pss_nil)))
      (pss_cons (ps_fld (pv 0) (C8.pe_c c3 hr (by omega) (by rfl) (pa_cons (pv 1) pa_nil)) rfl)
      (pss_one (ps_fld (pv 0) (C8.pe_c c4 hr (by omega) (by rfl) (pa_cons (pe_fld (pv 0) rfl) pa_nil)) rfl)))), ?_⟩
    have xlen := Paired.len rss
    have hsq : SqT K H t xs := .inl (.inl ht)
    -- if not is_list(simplices, 0, MOST_FACES)
    refine ⟨_, rfl, _, some xs.length, 0, 400, rfl, Shp.tup (.inl ht), _, rfl, ?_⟩
    have e0 : lenB 0 400 (some xs.length) = true := by simp [lenB]; omega
    rw [e0]
    refine iteF ?_
    -- for index, simplex in enumerate(simplices)
    refine ⟨_, rfl, t, xs, rfl, hsq, ?_⟩
    refine for_it (walk_enumT (K := K) (a := t) (xs := xs)) (fun i σ H' => ∃ o2 o3, σ = [some (.ref a), some (.ref t), o2, o3] ∧ Same H H') ⟨none, none, rfl, Same.refl H⟩ (fun i σ H' _ ⟨_, _, _, sm⟩ => sqT_sm hsq sm) ?_ ?_
    · rintro i x σ H' H'' hi ⟨o2, o3, rfl, sm⟩ ⟨Tt, x0, y0, rfl, nT, rfl, e1, e2⟩
      obtain ⟨s', hs', b, rfl, hb⟩ := Paired.at rss (show xs[i]? = some y0 from e2)
      have hsok := hok s' (List.mem_of_getElem? hs')
      have s2 : Same H' (upd H' Tt (.tup [x0, .ref b])) := same_upd nT
      refine ⟨Tt, _, rfl, .inl (.inl upd_same), rfl, _, _, rfl, _, _, rfl, rfl, ?_⟩
      refine ⟨_, rfl, b, s'.map V.int, rfl, .inl (s2 _ _ (sm _ _ hb)), fun x hx => ?_, fun H3 s3 => ⟨_, rfl, ?_⟩⟩
      · obtain ⟨j, _, rfl⟩ := List.mem_map.mp hx
        exact ⟨_, rfl⟩
      · rw [Ok.asc hsok]
        exact iteF ⟨_, _, rfl, sm.trans (s2.trans s3)⟩
    · rintro σ H' ⟨o2, o3, rfl, sm⟩
      have lens : ∀ s ∈ ss, s.length ≤ 12 := fun s hs => by have := (hok s hs).len; omega
      -- self.faces = generated(simplices)
      refine ⟨_, rfl, _, ss, rfl, .inl (hv0.kt (Same.kt sm)), lens, Nat.le_trans (genP_many hok) (by decide), fun H1 p s1 ep => ?_⟩
      have ha1 : H1 a = some (.ins C dx []) := s1 _ _ (sm _ _ ha)
      have npa : p ≠ a := ne_of ep ha1 (by intro z; cases z)
      refine ⟨_, rfl, a, C, dx, [], rfl, ha1, TC.ins.cl, TC.nF, (by show 0 < 1000; decide), ?_⟩
      have ep2 : (upd H1 a (.ins C dx (putF "faces" (.ref p) []))) p = some (dOf (genP ss)) := by rw [upd_ne npa]; exact ep
      have hok2 := Ok.genP hok
      -- self.tops = maximal(self.faces)
      refine ⟨_, rfl, a, C, dx, _, .ref p, rfl, upd_same, TC.ins.cl, TC.nF, (by rw [lookup_putF, if_pos rfl]), _, genP ss, rfl, ⟨p, rfl, ep2⟩, Nat.le_trans (genP_many hok) (by decide), fun s hs => ⟨(hok2 s hs).ne, by have := (hok2 s hs).len; omega⟩, fun H2 r s2 hr2 => ?_⟩
      have ha2 : H2 a = some (.ins C dx (putF "faces" (.ref p) [])) := s2 _ _ upd_same
      refine ⟨_, rfl, a, C, dx, _, rfl, ha2, TC.ins.cl, TC.nT, (by show 1 < 1000; decide), ?_⟩
      have np2 : p ≠ a := npa
      refine q _ (fun b o nb e => ?_) ⟨a, dx, p, r, rfl, upd_same, ?_, ?_⟩
      · rw [upd_ne nb]
        refine s2 _ _ ?_
        rw [upd_ne nb]
        exact s1 _ _ (sm _ _ e)
      · rw [upd_ne np2]
        exact s2 _ _ ep2
      · refine hr2.kt fun b zs e => ?_
        rw [upd_ne (ne_of e ha2 (by intro z; cases z))]
        exact e
/-- (v,) in self, v flat -/
def hasV (F : List Sx) : V → Bool
  | .int i => decide ([i] ∈ F)
  | _ => false
def spCHas (C : Addr) : Sp := fun vs H Q _ => ∃ a b x T F G, vs = [.ref a, .ref b] ∧ IsCx C H (.ref a) F G ∧ H b = some (.tup [x]) ∧ flatT x = some T ∧ (∀ s ∈ F, Ok s) ∧ ∀ H', Same H H' → Q (.bl (hasV F x)) H'
abbrev nCHas : List Str := ["self", "simplex"]
theorem scCHas : FnScope nCHas ["self", "simplex"] (defScope sCHas) := ⟨rfl, rfl, rfl, by decide +kernel, rfl, by decide +kernel, by decide +kernel⟩
theorem ok_chas {C f : Addr} {fd : FuncData} {k : Nat} (hk : 4 ≤ k) (F : Fun K "__contains__" "Complex.__contains__" sCHas f fd) (TC : Cx72 K mg C) (c2 : Cal72 P w K mg base 4 "is_simplex" spSimp) : FnOk P w K mg base CX0 (k + 1) f fd ["self", "simplex"] (spCHas C) := by
  refine F.ok scCHas (fun vs H Q E h => ?_) (fun cdv A outer s H vs Q E hr h => ?_)
  · obtain ⟨a, b, x, _, _, _, rfl, _⟩ := h
    rfl
  · obtain ⟨a, b, x, ty, ss, G, rfl, hcx, hb, hx, hok, q⟩ := h
    refine ⟨_, pss_one (ps_ret (pe_and (C8.pe_c c2 hr hk (by rfl) (pa_cons (pv 1) pa_nil)) (pe_one (pe_cmp (pc_din (hu_of hr) (pv 1) (pe_fld (pv 0) rfl)))))), ?_⟩
    refine ⟨_, rfl, b, [x], rfl, .inl hb, fun y hy => ?_, fun H1 s1 => ⟨_, rfl, ?_⟩⟩
    · obtain rfl := List.mem_singleton.mp hy
      exact ⟨_, hx⟩
    · obtain ⟨a', dx, d, t, ea, ha, hd, _⟩ := hcx.sm s1
      cases ea
      cases hA : ascM 1 8 [x] with
      | false =>
        refine iteF ?_
        have e : hasV ss x = false := by
          cases x <;> try rfl
          rename_i i
          refine decide_eq_false fun hi => ?_
          have := Ok.asc (hok _ hi)
          rw [show ([i] : Sx).map V.int = [V.int i] from rfl, hA] at this
          cases this
        have q' := q H1 s1
        rw [e] at q'
        exact q'
      | true =>
        have hI : ∃ i, x = .int i := by
          have h2 : inB 0 30 x = true := by
            simp [ascM] at hA
            exact hA.2.1
          exact inB_int h2
        obtain ⟨i, rfl⟩ := hI
        refine iteT ?_
        refine ⟨_, rfl, _, rfl, a, C, dx, _, .ref d, rfl, ha, TC.ins.cl, TC.nF, cxF_faces _ _, d, _, rfl, DGet.t (k := keyS [i]) hd (by rw [keyS_kV]; exact s1 _ _ hb), ?_⟩
        rw [valV_of]
        have q' := q H1 s1
        by_cases hin : [i] ∈ ss
        · rw [if_pos hin]
          have e : hasV ss (.int i) = true := decide_eq_true hin
          rw [e] at q'
          exact q'
        · rw [if_neg hin]
          have e : hasV ss (.int i) = false := decide_eq_false hin
          rw [e] at q'
          exact q'
/-- need_complex(value) -/
def spNeedC (C : Addr) : Sp := fun vs H Q _ => ∃ v F G, vs = [v] ∧ IsCx C H v F G ∧ Q .non H
theorem scNeedC : FnScope ["value"] ["value"] (defScope sNeedC) := ⟨rfl, rfl, rfl, by decide +kernel, rfl, by decide +kernel, by decide +kernel⟩
theorem ok_needc {C f : Addr} {fd : FuncData} {k : Nat} (F : Fun K "need_complex" "need_complex" sNeedC f fd) (T : Fx mg) (TC : Cx72 K mg C) : FnOk P w K mg base CX0 (k + 1) f fd ["value"] (spNeedC C) := by
  refine F.ok scNeedC (fun vs H Q E h => ?_) (fun cdv A outer s H vs Q E hr h => ?_)
  · obtain ⟨v, _, _, rfl, _⟩ := h
    rfl
  · obtain ⟨v, ss, G, rfl, ⟨a, dx, d, t, rfl, ha, _⟩, q⟩ := h
    refine ⟨_, pss_one (ps_if (pt_not (pt_val (pe_callB (C8.call_isC TC.ins) (by rfl) T.zIsi (by decide +kernel) (pa_cons (pv 0) (pa_cons (pe_glob (v := .ref C) (by rfl) TC.mgC rfl) pa_nil))))) (pss_one ps_never) pss_nil), ?_⟩
    exact ⟨_, rfl, a, dx, _, rfl, ha, true, rfl, q⟩
/-- made(simplices), of a list -/
def spMade (C : Addr) : Sp := fun vs H Q _ => ∃ v ss, vs = [v] ∧ LstSs H v ss ∧ (∀ s ∈ ss, Ok s) ∧ ∀ H' r, Same H H' → IsCx C H' r (genP (mx (genP ss))) (mx (genP (mx (genP ss)))) → Q r H'
theorem scMade : FnScope ["simplices"] ["simplices"] (defScope sMade) := ⟨rfl, rfl, rfl, by decide +kernel, rfl, by decide +kernel, by decide +kernel⟩
theorem ok_made {C f : Addr} {fd : FuncData} {k : Nat} (hk : 6 ≤ k) (F : Fun K "made" "made" sMade f fd) (c1 : C8.Mak P w K mg base 5 "Complex" C (spCInit C) []) (c3 : Cal72 P w K mg base 2 "generated" spGen) (c4 : Cal72 P w K mg base 1 "maximal" spMax) :
    FnOk P w K mg base CX0 (k + 1) f fd ["simplices"] (spMade C) := by
  refine F.ok scMade (fun vs H Q E h => ?_) (fun cdv A outer s H vs Q E hr h => ?_)
  · obtain ⟨v, _, rfl, _⟩ := h
    rfl
  · obtain ⟨v, ss, rfl, hv, hok, q⟩ := h
    refine ⟨_, pss_one (ps_ret (C8.pe_mk c1 hr hk (by rfl) (pa_cons (C8.pe_c c4 hr (by omega) (by rfl) (pa_cons (C8.pe_c c3 hr (by omega) (by rfl) (pa_cons (pv 0) pa_nil)) pa_nil)) pa_nil))), ?_⟩
    have hok2 := Ok.genP hok
    have hok3 := Ok.mx hok2
    refine ⟨_, rfl, _, ss, rfl, .inr hv, fun s hs => by have := (hok s hs).len; omega, Nat.le_trans (genP_many hok) (by decide), fun H1 p s1 ep => ?_⟩
    refine ⟨_, genP ss, rfl, ⟨p, rfl, ep⟩, Nat.le_trans (genP_many hok) (by decide), fun s hs => ⟨(hok2 s hs).ne, by have := (hok2 s hs).len; omega⟩, fun H2 r s2 hr2 => ?_⟩
    intro x dx nx ndx nex
    refine ⟨x, dx, r, mx (genP ss), rfl, upd_same, hr2.kt fun b zs e => ?_, Nat.le_trans (mx_len _) (Nat.le_trans (genP_many hok) (by decide)), hok3, fun H3 k3 hcx => ⟨rfl, ?_⟩⟩
    · rw [upd_ne (ne_of_none e nx), upd_ne (ne_of_none e ndx)]
      exact e
    · refine q H3 _ (s1.trans (s2.trans fun b o e => k3 b o (ne_of_none e nx) ?_)) hcx
      rw [upd_ne (ne_of_none e nx), upd_ne (ne_of_none e ndx)]
      exact e
/-- simplices_of(shape) -/
def spSOf (C : Addr) : Sp := fun vs H Q _ => ∃ v F G, vs = [v] ∧ IsCx C H v F G ∧ (∀ s ∈ F, Ok s) ∧ F.length ≤ 1000 ∧ ∀ H' p ys, Same H H' → H' p = some (.lst ys) → IsSs H' ys (inOrd F) → Q (.ref p) H'
theorem scSOf : FnScope ["shape"] ["shape"] (defScope sSOf) := ⟨rfl, rfl, rfl, by decide +kernel, rfl, by decide +kernel, by decide +kernel⟩
theorem ok_sof {C f : Addr} {fd : FuncData} {k : Nat} (hk : 1 ≤ k) (F : Fun K "simplices_of" "simplices_of" sSOf f fd) (TC : Cx72 K mg C) (c1 : Cal72 P w K mg base 1 "need_complex" (spNeedC C)) (c2 : Cal72 P w K mg base 1 "in_order" spOrderD) :
    FnOk P w K mg base CX0 (k + 1) f fd ["shape"] (spSOf C) := by
  refine F.ok scSOf (fun vs H Q E h => ?_) (fun cdv A outer s H vs Q E hr h => ?_)
  · obtain ⟨v, _, _, rfl, _⟩ := h
    rfl
  · obtain ⟨v, ss, G, rfl, hcx, hok, hmany, q⟩ := h
    refine ⟨_, pss_cons (ps_expr (C8.pe_c c1 hr hk (by rfl) (pa_cons (pv 0) pa_nil))) (pss_one (ps_ret (C8.pe_c c2 hr hk (by rfl) (pa_cons (pe_fld (pv 0) rfl) pa_nil)))), ?_⟩
    obtain ⟨a, dx, d, t, rfl, ha, hd, hG⟩ := hcx
    exact ⟨_, rfl, _, ss, G, rfl, ⟨a, dx, d, t, rfl, ha, hd, hG⟩, _, rfl, a, C, dx, _, .ref d, rfl, ha, TC.ins.cl, TC.nF, cxF_faces _ _, _, ss, rfl, ⟨d, rfl, hd⟩, hmany, fun s hs => by have := (hok s hs).len; omega, q⟩
end
end B72
set_option Elab.async false
set_option linter.all false
set_option maxRecDepth 100000
set_option maxHeartbeats 4000000
/-! image_in; ascending lists of members; dicts of ints. -/
namespace Mk72
/-- a number put into an ascending list -/
def upIns (a : Int) : List Int → List Int
  | [] => [a]
  | b :: r => if a < b then a :: b :: r else if a = b then b :: r else b :: upIns a r
/-- the ascending list of the members -/
def upOf (l : List Int) : Sx := l.foldr upIns []
theorem mem_upIns {a x : Int} : ∀ {l : List Int}, x ∈ upIns a l ↔ x = a ∨ x ∈ l
  | [] => by simp [upIns]
  | b :: r => by
    unfold upIns
    split
    · simp
    · split
      · rename_i h
        subst h
        simp
      · simp only [List.mem_cons, mem_upIns (l := r)]
        constructor
        · rintro (h | h | h)
          · exact .inr (.inl h)
          · exact .inl h
          · exact .inr (.inr h)
        · rintro (h | h | h)
          · exact .inr (.inl h)
          · exact .inl h
          · exact .inr (.inr h)
theorem up_upIns {a : Int} : ∀ {l : List Int}, l.Pairwise (· < ·) → (upIns a l).Pairwise (· < ·)
  | [], _ => by simp [upIns]
  | b :: r, h => by
    obtain ⟨h1, h2⟩ := List.pairwise_cons.mp h
    unfold upIns
    split
    · rename_i hab
      refine List.pairwise_cons.mpr ⟨fun x hx => ?_, h⟩
      rcases List.mem_cons.mp hx with e | hx
      · omega
      · have := h1 x hx
        omega
    · split
      · exact h
      · refine List.pairwise_cons.mpr ⟨fun x hx => ?_, up_upIns h2⟩
        rcases mem_upIns.mp hx with e | hx
        · omega
        · exact h1 x hx
theorem mem_upOf {x : Int} : ∀ {l : List Int}, x ∈ upOf l ↔ x ∈ l
  | [] => by simp [upOf]
  | a :: l => by
    show x ∈ upIns a (upOf l) ↔ _
    rw [mem_upIns, mem_upOf (l := l), List.mem_cons]
theorem up_upOf : ∀ l : List Int, (upOf l).Pairwise (· < ·)
  | [] => .nil
  | a :: l => up_upIns (up_upOf l)
theorem upOf_eq {ns l : List Int} (h : ns.Pairwise (· < ·)) (m : ∀ x, x ∈ ns ↔ x ∈ l) : ns = upOf l := up_ext h (up_upOf l) fun x => (m x).trans mem_upOf.symm
/-- a map of vertices: pairs, looked up from the left -/
def look (ps : List (Int × Int)) (v : Int) : Option Int := (ps.find? fun p => decide (p.1 = v)).map (·.2)
def app (ps : List (Int × Int)) (v : Int) : Int := (look ps v).getD 0
def img (ps : List (Int × Int)) (s : Sx) : Sx := upOf (s.map (app ps))
theorem mem_img {ps : List (Int × Int)} {s : Sx} {y : Int} : y ∈ img ps s ↔ ∃ x ∈ s, app ps x = y := by
  rw [img, mem_upOf, List.mem_map]
theorem img_sub {ps : List (Int × Int)} {s t : Sx} (h : s.Sublist t) : (img ps s).Sublist (img ps t) :=
  up_sub (up_upOf _) (up_upOf _) fun y hy => by
    obtain ⟨x, hx, e⟩ := mem_img.mp hy
    exact mem_img.mpr ⟨x, h.subset hx, e⟩
theorem img_ne {ps : List (Int × Int)} {s : Sx} (h : s ≠ []) : img ps s ≠ [] := by
  cases s with
  | nil => exact absurd rfl h
  | cons a r =>
    intro e
    have : app ps a ∈ img ps (a :: r) := mem_img.mpr ⟨a, List.mem_cons_self, rfl⟩
    rw [e] at this
    cases this
theorem look_some {ps : List (Int × Int)} {v : Int} : (look ps v).isSome = true ↔ v ∈ ps.map (·.1) := by
  unfold look
  rw [Option.isSome_map, List.find?_isSome]
  constructor
  · rintro ⟨p, hp, e⟩
    exact List.mem_map.mpr ⟨p, hp, of_decide_eq_true e⟩
  · intro h
    obtain ⟨p, hp, e⟩ := List.mem_map.mp h
    exact ⟨p, hp, decide_eq_true e⟩
theorem app_mem {ps : List (Int × Int)} {v : Int} (h : v ∈ ps.map (·.1)) : ∃ p ∈ ps, p.1 = v ∧ app ps v = p.2 := by
  have hs := look_some.mpr h
  unfold look at hs
  rw [Option.isSome_map] at hs
  obtain ⟨p, hp⟩ := Option.isSome_iff_exists.mp hs
  have h1 := List.find?_some hp
  refine ⟨p, List.mem_of_find?_eq_some hp, by simpa using h1, ?_⟩
  unfold app look
  rw [hp]
  rfl
end Mk72
namespace B72
open PySem PySem.Spec PyProof.Rows L2 R72 Mk72
def eK (p : Int × Int) : Key × V := (Sum.inl p.1, V.int p.2)
theorem valV_eK (ps : List (Int × Int)) (v : Int) : valV (ps.map eK) (Sum.inl v) = (look ps v).map V.int := by
  induction ps with
  | nil => rfl
  | cons p ps ih =>
    by_cases e : p.1 = v
    · unfold valV look
      rw [List.map_cons, List.find?_cons_of_pos (by simp [eK, e]), List.find?_cons_of_pos (by simp [e])]
      rfl
    · unfold valV look at ih ⊢
      rw [List.map_cons, List.find?_cons_of_neg (by simp [eK, e]), List.find?_cons_of_neg (by simp [e]), ih]
theorem mergeK_go : ∀ (more kvs : List (Key × V)), ((kvs ++ more).map (·.1)).Nodup → mergeK kvs more = kvs ++ more
  | [], kvs, _ => by simp [mergeK]
  | kv :: more, kvs, h => by
    have hn : valV kvs kv.1 = none := by
      cases q : valV kvs kv.1 with
      | none => rfl
      | some v =>
        exfalso
        have hm := valV_in q
        rw [List.map_append, List.map_cons] at h
        have := (List.nodup_append.mp h).2.2 _ hm kv.1 List.mem_cons_self
        exact this rfl
    have e : mergeK kvs (kv :: more) = mergeK (kvs ++ [(kv.1, kv.2)]) more := by
      show mergeK (putK kvs kv.1 kv.2) more = _
      rw [putK_new _ hn]
    rw [e, mergeK_go more (kvs ++ [(kv.1, kv.2)]) (by rw [List.append_assoc]; exact h), List.append_assoc]
    rfl
theorem mergeK_nd {more : List (Key × V)} (h : (more.map (·.1)).Nodup) : mergeK [] more = more := mergeK_go more [] h
theorem eK_nd {ps : List (Int × Int)} (h : (ps.map (·.1)).Nodup) : ((ps.map eK).map (·.1)).Nodup := by
  rw [List.map_map]
  have : ((·.1) ∘ eK : Int × Int → Key) = Sum.inl ∘ (·.1) := rfl
  rw [this, ← List.map_map]
  exact List.Pairwise.map Sum.inl (fun a b ne e => ne (Sum.inl.inj e)) h

/-- a set comprehension of ints: the set of the results -/
theorem sc_fun {P : Program} {w : World} {J : It} {G : Hp → Prop} {Y : Nat → Hp → V → Hp → Prop} {β : Type} {bs : List β} (wk : Walk J bs.length G Y) (f : β → Int)
    {g : TG} {te : TE} {vs : List Nat} {σ : L2.St} {H1 : Hp} {D : Addr} {Qd : Hp → Prop} (hD : H1 D = none) (hb : bs.length ≤ 1000) (hG : ∀ H, Same H1 H → G H)
    (hs : ∀ (i : Nat) (x : V) (b : β) (H H' : Hp) (NT : V → Hp → Prop), bs[i]? = some b → Same H1 H → Y i H x H' → (∀ H4, Same H H4 → NT (.int (f b)) H4) → g x (wipe σ vs) H' fun σ2 H2 => wipe σ2 vs = wipe σ vs ∧ te σ2 H2 NT)
    (hd : ∀ (H : Hp) (S : Int → Bool) (n : Nat), Same H1 H → H D = some (SetO w D S n) → (∀ j, S j = true ↔ j ∈ bs.map f) → n ≤ bs.length → Qd H) :
    ∃ W : Nat → Nat → Hp → Prop, (∃ m, W 0 m (upd H1 D ((intSet P w).ob D (intSet P w).e0))) ∧ ∀ i m H, W i m H →
      (J.stop i H ∧ Qd H) ∨ (J.go i H ∧ ∃ Nx : Hp → Prop, (∀ H', Nx H' → ∃ m', m' < m ∧ W (i + 1) m' H') ∧ ∀ x H', J.yld i H x H' → g x (wipe σ vs) H' fun σ2 H2 => wipe σ2 vs = wipe σ vs ∧ tYes σ2 H2 fun b H3 =>
        if b = true then te σ2 H3 fun y H4 => ∃ t t', H4 D = some ((intSet P w).ob D t) ∧ (intSet P w).put t y t' ∧ Nx (upd H4 D ((intSet P w).ob D t')) else Nx H3) := by
  let Pv : Nat → Hp → Prop := fun i H => Same H1 H ∧ ∃ S n, H D = some (SetO w D S n) ∧ (∀ j, S j = true ↔ j ∈ (bs.take i).map f) ∧ n ≤ i
  refine ⟨fun i m H => m = bs.length - i ∧ i ≤ bs.length ∧ Pv i H, ⟨bs.length, by simp, Nat.zero_le _, Same.md _ (Same.refl _) hD, fun _ => false, 0, upd_same, fun j => by simp, Nat.le_refl _⟩, ?_⟩
  rintro i m H ⟨rfl, hi, sm, S, n, e, hS, hn⟩
  by_cases hlt : i < bs.length
  · refine .inr ⟨wk.goes i H hlt (hG H sm), Pv (i + 1), fun H' p' => ⟨bs.length - (i + 1), by omega, rfl, hlt, p'⟩, fun x H' y => ?_⟩
    have hbi : bs[i]? = some bs[i] := List.getElem?_eq_getElem hlt
    refine hs i x bs[i] H H' _ hbi sm (wk.yields i H x H' hlt (hG H sm) y) fun H4 s4 => ?_
    refine ⟨(S, n), _, s4 _ _ e, ⟨f bs[i], rfl, Nat.lt_of_le_of_lt (show n + 1 ≤ 1001 by omega) (by decide), rfl⟩, Same.md _ (sm.trans s4) hD, _, _, upd_same, fun j => ?_, ?_⟩
    · show (S j || decide (j = f bs[i])) = true ↔ _
      rw [Bool.or_eq_true, hS j, decide_eq_true_eq, List.take_add_one, hbi, List.map_append, List.mem_append]
      simp
    · show (if S (f bs[i]) = true then n else n + 1) ≤ i + 1
      split <;> omega
  · have ei : i = bs.length := by omega
    subst ei
    rw [List.take_length] at hS
    exact .inl ⟨wk.stops H (hG H sm), hd H S n sm e hS hn⟩
section
variable {P : Program} {w : World} {K : PySem.W.Frag} {mg : Str → Option Value} {base : Heap}
/-- image_in(names, simplex) -/
def spImgIn : Sp := fun vs H Q _ => ∃ d ps v s, vs = [.ref d, v] ∧ H d = some (.dK (ps.map eK)) ∧ IsS H v s ∧ s.length ≤ 12 ∧ (∀ x ∈ s, x ∈ ps.map (·.1)) ∧ ∀ H' r, Same H H' → IsS H' r (img ps s) → Q r H'
abbrev nImgIn : List Str := ["names", "simplex", "vertex"]
theorem scImgIn : FnScope nImgIn ["names", "simplex"] (defScope sImgIn) := ⟨rfl, rfl, rfl, by decide +kernel, rfl, by decide +kernel, by decide +kernel⟩
theorem ok_imgin {f : Addr} {fd : FuncData} {k : Nat} (F : Fun K "image_in" "image_in" sImgIn f fd) (T : Fx mg) : FnOk P w K mg base CX0 (k + 1) f fd ["names", "simplex"] spImgIn := by
  refine F.ok scImgIn (fun vs H Q E h => ?_) (fun cdv A outer s H vs Q E hr h => ?_)
  · obtain ⟨d, _, v, _, rfl, _⟩ := h
    rfl
  · obtain ⟨d, ps, v, sx, rfl, hd, ⟨a, rfl, ha⟩, hlen, hin, q⟩ := h
    refine ⟨_, pss_one (ps_ret (pe_callTy call_tuple_of (by rfl) T.zTuple (by decide +kernel) (pa_cons (pe_callB (cr_sortedSet rfl) (by rfl) T.zSorted (by decide +kernel) (pa_cons
        (pe_scG (own := [("vertex", 2)]) (g := gName 2) (tt := tYes) (te := tDGet (tVar 0) (tVar 2)) (intSet P w) rfl scImgIn.nd (pi_tup (pv 1))
          (blkOk_by (own := [("vertex", 2)]) (N := nImgIn) (sc := defScope sImgIn) (by decide +kernel)) (fun _ _ _ _ _ => pg_name (i := 2) scImgIn.nd rfl (Or.inl rfl)) (fun _ _ _ _ _ => pts_nil)
          (fun _ _ _ _ _ => pe_dget (hu_of hr) (pv 0) (pv 2) (fun _ _ => rfl))) pa_nil)) pa_nil))), ?_⟩
    have hsq : SqT K H a (sx.map V.int) := .inl (.inl ha)
    refine ⟨_, rfl, a, rfl, ⟨_, hsq⟩, fun D hD => ?_⟩
    refine sc_fun (P := P) (w := w) (bs := sx) (walk_tup' (K := K) (a := a) (xs := sx.map V.int) (List.length_map ..)) (app ps) hD (by omega) (fun H' s => sqT_sm hsq s) ?_ ?_
    · rintro i x b H2 H3 NT hb sm ⟨rfl, hx⟩ ht
      obtain ⟨z, hz, rfl⟩ := get_int hx
      obtain rfl : b = z := Option.some.inj (hb.symm.trans hz)
      have hm := hin b (List.mem_of_getElem? hb)
      have hl : look ps b = some (app ps b) := by
        obtain ⟨y, hy⟩ := Option.isSome_iff_exists.mp (look_some.mpr hm)
        rw [app, hy]
        rfl
      refine ⟨rfl, _, rfl, _, rfl, d, .int (app ps b), rfl, ?_, ht _ (Same.refl _)⟩
      have g := DGet.k (k := Sum.inl b) (sm _ _ hd)
      rw [valV_eK, hl] at g
      exact g
    · intro H2 S n sm e hS hn
      refine ⟨D, S, n, rfl, e, by omega, fun ns p up mem len np => ?_⟩
      have ens : ns = img ps sx := upOf_eq up fun x => (mem x).trans (hS x)
      subst ens
      have s3 : Same H2 (upd H2 p (.lst ((img ps sx).map V.int))) := same_upd np
      refine ⟨p, _, rfl, .inl ⟨SqL.of upd_same, fun l nl => ?_⟩⟩
      have s4 : Same (upd H2 p (.lst ((img ps sx).map V.int))) (upd (upd H2 p (.lst ((img ps sx).map V.int))) l (.tup ((img ps sx).map V.int))) := same_upd nl
      exact q _ _ (sm.trans (s3.trans s4)) ⟨l, rfl, upd_same⟩
end
end B72
set_option Elab.async false
set_option linter.all false
set_option maxRecDepth 100000
set_option maxHeartbeats 4000000
/-! is_map. -/
namespace B72
open PySem PySem.Spec PyProof.Rows L2 R72 Mk72
theorem eqvAll_ints : ∀ xs ys : List Int, PyData.eqvAll (xs.map .int) (ys.map .int) = decide (xs = ys)
  | [], [] => by simp [PyData.eqvAll]
  | [], _ :: _ => by simp [PyData.eqvAll]
  | _ :: _, [] => by simp [PyData.eqvAll]
  | x :: xs, y :: ys => by
    simp only [List.map_cons, PyData.eqvAll, PyData.eqv, eqvAll_ints xs ys]
    by_cases h : x = y <;> simp [h]
theorem dpa_ints {K : PySem.W.Frag} {H : Hp} : ∀ ns : List Int, DpAll K H (ns.map V.int) (ns.map .int)
  | [] => .nil
  | n :: ns => .cons (.int n) (dpa_ints ns)
theorem shaped_tints (ns : List Int) : SeqAt.shaped (.tuple (ns.map PyData.int)) = true := by
  have h1 := PySem.W.depthAll_ints ns
  have h2 : PyData.depth (.tuple (ns.map PyData.int)) ≤ 64 := by simp only [PyData.depth]; omega
  show (PyData.canLay0 (.tuple (ns.map PyData.int)) && decide (PyData.depth (.tuple (ns.map PyData.int)) ≤ 64)) = true
  rw [Bool.and_eq_true]
  exact ⟨by simp only [PyData.canLay0]; exact PySem.W.canLayAll0_ints ns, decide_eq_true h2⟩
theorem ne_ints {K : PySem.W.Frag} {H : Hp} {p q : Addr} {xs ys : List Int} {Q : VK} (h1 : H p = some (.lst (xs.map V.int))) (h2 : H q = some (.lst (ys.map V.int))) (h : Q (.bl (!decide (xs = ys))) H) : rNeD K (.ref p) (.ref q) H Q := by
  refine ⟨.list (xs.map .int), .list (ys.map .int), .lst (SqL.of h1) (dpa_ints xs), .lst (SqL.of h2) (dpa_ints ys), PySem.W.shaped_ints xs, PySem.W.shaped_ints ys, ?_⟩
  rw [PyData.eqv, eqvAll_ints]
  exact h
theorem eq_tints {K : PySem.W.Frag} {H : Hp} {v u : V} {s t : Sx} {Q : VK} (h1 : IsS H v s) (h2 : IsS H u t) (h : Q (.bl (decide (s = t))) H) : rEqD K v u H Q := by
  obtain ⟨a, rfl, ha⟩ := h1
  obtain ⟨b, rfl, hb⟩ := h2
  refine ⟨.tuple (s.map .int), .tuple (t.map .int), .tup (.inl (.inl ha)) (dpa_ints s), .tup (.inl (.inl hb)) (dpa_ints t), shaped_tints s, shaped_tints t, ?_⟩
  rw [PyData.eqv, eqvAll_ints]
  exact h
/-- an item of a told map -/
inductive En where
  | pair (a : Int) (b : V)
  | bad
def En.isP : En → Bool
  | .pair _ _ => true
  | .bad => false
def En.fst : En → Int
  | .pair a _ => a
  | .bad => 0
def En.snd : En → V
  | .pair _ b => b
  | .bad => .non
def toI : V → Int
  | .int n => n
  | _ => 0
def psOf (es : List En) : List (Int × Int) := es.map fun e => (e.fst, toI e.snd)
inductive To where
  | tup (es : List En)
  | oth
def IsPr (H : Hp) (v : V) (a : Int) (b : V) : Prop := ∃ p, v = .ref p ∧ H p = some (.tup [.int a, b]) ∧ ∃ T, flatT b = some T
def IsEn (H : Hp) (v : V) : En → Prop
  | .pair a b => IsPr H v a b
  | .bad => ∃ o, Shp H v o ∧ o ≠ some 2
def IsTo (H : Hp) (v : V) (n : Nat) : To → Prop
  | .tup es => ∃ a xs, v = .ref a ∧ Rd H a (.tup xs) ∧ Paired (IsEn H) xs es ∧ es.length ≤ 100 ∧ (es.length = n → FzT H a xs)
  | .oth => Shp H v none
theorem Shp.sm {H H' : Hp} (k : Same H H') {v : V} {o : Option Nat} (h : Shp H v o) : Shp H' v o := by
  cases h with
  | tup h => exact .tup (rd_sm h k)
  | lst h => exact .lst (k _ _ h)
  | flat h => exact .flat h
theorem IsEn.sm {H H' : Hp} (k : Same H H') {v : V} : ∀ {e : En}, IsEn H v e → IsEn H' v e
  | .pair _ _, ⟨p, h1, h2, h3⟩ => ⟨p, h1, k _ _ h2, h3⟩
  | .bad, ⟨o, h1, h2⟩ => ⟨o, h1.sm k, h2⟩
theorem fz_sm {H H' : Hp} (k : Same H H') {a : Addr} {xs : List V} (h : FzT H a xs) : FzT H' a xs := let ⟨o, e, d⟩ := h; ⟨o, k _ _ e, d⟩
theorem IsTo.sm {H H' : Hp} (k : Same H H') {v : V} {n : Nat} : ∀ {t : To}, IsTo H v n t → IsTo H' v n t
  | .tup _, ⟨a, xs, h1, h2, h3, h4, h5⟩ => ⟨a, xs, h1, rd_sm h2 k, Paired.mp (fun _ _ q => q.sm k) h3, h4, fun e => fz_sm k (h5 e)⟩
  | .oth, h => Shp.sm k h
theorem IsEn.shp {H : Hp} {v : V} : ∀ {e : En}, IsEn H v e → ∃ o, Shp H v o ∧ lenB 2 2 o = e.isP
  | .pair a b, ⟨p, h1, h2, _⟩ => ⟨_, h1 ▸ Shp.tup (.inl h2), rfl⟩
  | .bad, ⟨o, h1, h2⟩ => ⟨o, h1, by
    cases o with
    | none => rfl
    | some n =>
      have : n ≠ 2 := fun e => h2 (by rw [e])
      simp [lenB, En.isP]
      omega⟩
def allIn (F1 F2 : List Sx) (es : List En) : Bool := es.all fun e => hasV F1 (.int e.fst) && hasV F2 e.snd
def mapM (F1 G1 F2 : List Sx) (own : List Int) : To → Bool
  | .oth => false
  | .tup es => decide (es.length = own.length) && (es.all En.isP && (allIn F1 F2 es && (decide (es.map En.fst = own) && G1.all fun s => decide (img (psOf es) s ∈ F2))))
theorem hasV_int {F : List Sx} {v : V} (h : hasV F v = true) : v = .int (toI v) := by
  cases v <;> simp [hasV] at h
  rfl
theorem ps_fst (es : List En) : (psOf es).map (·.1) = es.map En.fst := by
  unfold psOf
  rw [List.map_map]
  rfl
theorem pairs_of {H : Hp} {K : PySem.W.Frag} {F1 F2 : List Sx} : ∀ {xs : List V} {es : List En}, Paired (IsEn H) xs es → es.all En.isP = true → allIn F1 F2 es = true →
    ∃ ps : List Addr, xs = ps.map V.ref ∧ Paired (fun p (kv : Key × V) => SqT K H p [kV kv.1, kv.2]) ps ((psOf es).map eK)
  | _, _, .nil, _, _ => ⟨[], rfl, .nil⟩
  | _, _, .cons (b := .bad) _ _, h, _ => by simp [En.isP] at h
  | _, _ :: es', .cons (b := .pair a b) hpr t, h1, h2 => by
    obtain ⟨p, e1, e2, _⟩ := (show IsPr H _ a b from hpr)
    rw [List.all_cons, Bool.and_eq_true] at h1
    have h2' : (hasV F1 (.int a) && hasV F2 b) = true ∧ allIn F1 F2 es' = true := by
      unfold allIn at h2
      rw [List.all_cons, Bool.and_eq_true] at h2
      exact h2
    obtain ⟨ps, r1, r2⟩ := pairs_of t h1.2 h2'.2
    have eb := hasV_int (Bool.and_eq_true_iff.mp h2'.1).2
    refine ⟨p :: ps, by rw [e1, r1]; rfl, .cons (.inl (.inl ?_)) r2⟩
    show H p = some (.tup [.int a, .int (toI b)])
    rw [← eb]
    exact e2
/-- the class's own methods -/
structure Own72 (P : Program) (w : World) (K : PySem.W.Frag) (mg : Str → Option Value) (base : Heap) (C : Addr) : Prop where
  has : ∃ f fd, FnOk P w K mg base CX0 5 f fd ["self", "simplex"] (spCHas C) ∧ Binds K fd ["self", "simplex"] [] ∧ PySem.W.findIn K (.ref C) "__contains__" = some (some (.ref f)) ∧ PySem.W.isFn K (.ref f) = true
  fac : ∃ p g fd, PropOf K C "facets" p g ∧ FnOk P w K mg base CX0 1 g fd ["self"] (getSp C "tops") ∧ Binds K fd ["self"] []
section
variable {P : Program} {w : World} {K : PySem.W.Frag} {mg : Str → Option Value} {base : Heap}
def rDictF (K : PySem.W.Frag) : List V → Hp → VK → Prop := fun xs H Q => ∃ (a : Addr) (ps : List Addr) (kvs : List (Key × V)), xs = [.ref a] ∧ FzT H a (ps.map V.ref) ∧ Paired (fun p kv => SqT K H p [kV kv.1, kv.2]) ps kvs ∧
    ∀ p, H p = none → Q (.ref p) (upd H p (.dK (mergeK [] kvs)))
/-- a complex that is well made -/
structure CxOk (F G : List Sx) : Prop where
  cl : Closed F
  ok : ∀ s ∈ F, Ok s
  sub : ∀ s ∈ G, s ∈ F
  many : G.length ≤ 1000
theorem CxOk.len {F G : List Sx} (h : CxOk F G) : F.length ≤ 127 := ok_many h.cl.nd h.ok
theorem CxOk.vx {F G : List Sx} (h : CxOk F G) {s : Sx} (hs : s ∈ F) {x : Int} (hx : x ∈ s) : [x] ∈ F := h.cl.dn s hs _ (List.singleton_sublist.mpr hx) (by simp)
def spIsMap (C : Addr) : Sp := fun vs H Q _ => ∃ v1 v2 v t F1 G1 F2 G2 own, vs = [v1, v2, v] ∧ IsCx C H v1 F1 G1 ∧ IsCx C H v2 F2 G2 ∧ CxOk F1 G1 ∧ CxOk F2 G2 ∧ UpMem own F1 ∧ own.length ≤ 1000 ∧ IsTo H v own.length t ∧
  ∀ H', Same H H' → Q (.bl (mapM F1 G1 F2 own t)) H'
abbrev nIsMap : List Str := ["one", "other", "names", "own", "pair", "vertex", "image", "simplex"]
theorem scIsMap : FnScope nIsMap ["one", "other", "names"] (defScope sIsMap) := ⟨rfl, rfl, rfl, by decide +kernel, rfl, by decide +kernel, by decide +kernel⟩
abbrev tImgD (K : PySem.W.Frag) (i j : Nat) : TE := tCall spImgIn [] C8.E0 (tCons (tCB (rDictF K) (tCons (tVar i) tNil)) (tCons (tVar j) tNil))
theorem ok_ismap {C f : Addr} {fd : FuncData} {k : Nat} (hk : 5 ≤ k) (F : Fun K "is_map" "is_map" sIsMap f fd) (T : Fx mg) (TC : Cx72 K mg C) (O : Own72 P w K mg base C) (c1 : Cal72 P w K mg base 1 "need_complex" (spNeedC C)) (c2 : Cal72 P w K mg base 1 "vertices_in" (spVIn C))
    (c3 : Cal72 P w K mg base 1 "is_list" spList) (c4 : Cal72 P w K mg base 1 "image_in" spImgIn) : FnOk P w K mg base CX0 (k + 1) f fd ["one", "other", "names"] (spIsMap C) := by
  refine F.ok scIsMap (fun vs H Q E h => ?_) (fun cdv A outer s H vs Q E hr h => ?_)
  · obtain ⟨_, _, _, _, _, _, _, _, _, rfl, _⟩ := h
    rfl
  · obtain ⟨v1, v2, v, t, F1, G1, F2, G2, own, rfl, x1, x2, o1, o2, hup, hown, ht, q⟩ := h
    obtain ⟨fh, fdh, Fh, bh, hfi, hfn⟩ := O.has
    obtain ⟨pp, gg, fdg, Hp1, Fg, bg⟩ := O.fac
    apply Exists.intro
    apply And.intro
    · apply pss_cons
      · exact (ps_expr (C8.pe_c c1 hr (by omega) (by rfl) (pa_cons (pv 0) pa_nil)))
      apply pss_cons
      · exact (ps_expr (C8.pe_c c1 hr (by omega) (by rfl) (pa_cons (pv 1) pa_nil)))
      apply pss_cons
      · exact (ps_set (i := 3) scIsMap.nd rfl (.inl rfl) (C8.pe_c c2 hr (by omega) (by rfl) (pa_cons (pv 0) pa_nil)))
      apply pss_cons
      · exact (ps_if (PW.pt (pw_or (pt_not (pt_val (C8.pe_c c3 hr (by omega) (by rfl) (pa_cons (pv 2) (pa_cons (pe_callB call_len_seq (by rfl) T.zLen PySem.boot_len (pa_cons (pv 3) pa_nil)) (pa_cons (pe_callB call_len_seq (by rfl) T.zLen PySem.boot_len (pa_cons (pv 3) pa_nil)) pa_nil))))))
          (pw_or1 (pt_not (pt_val (pe_callB (cr_all rfl) (by rfl) T.zAll (by decide +kernel) (pa_cons
            (pe_lc (own := [("pair", 4)]) (g := gName 4) (tt := tYes) rfl scIsMap.nd (pi_tup (pv 2)) (blkOk_by (own := [("pair", 4)]) (N := nIsMap) (sc := defScope sIsMap) (by decide +kernel))
              (fun _ _ _ _ _ => pg_name (i := 4) scIsMap.nd rfl (Or.inl rfl)) (fun _ _ _ _ _ => pts_nil)
              (fun _ _ _ _ _ => C8.pe_c c3 hr (by omega) (by rfl) (pa_cons (pv 4) (pa_cons pe_int (pa_cons pe_int pa_nil))))) pa_nil)))))))
          (pss_one (ps_ret pe_bl)) pss_nil)
      apply pss_cons
      · exact (ps_if (pt_val (pe_callB (cr_any rfl) (by rfl) T.zAny (by decide +kernel) (pa_cons
            (pe_lc (own := [("vertex", 5), ("image", 6)]) (g := gTup K 2 (gCons (gName 5) (gCons (gName 6) gNil))) (tt := tYes)
              (te := tOrV (tOp (rOwnOut C (spCHas C) C8.E0) (tTup (tCons (tVar 5) tNil)) (tVar 0)) (tOp (rOwnOut C (spCHas C) C8.E0) (tTup (tCons (tVar 6) tNil)) (tVar 1))) rfl scIsMap.nd (pi_tup (pv 2))
              (blkOk_by (own := [("vertex", 5), ("image", 6)]) (N := nIsMap) (sc := defScope sIsMap) (by decide +kernel))
              (fun _ _ _ _ _ => pg_tup rfl (pgs_cons (pg_name (i := 5) scIsMap.nd rfl (Or.inl rfl)) (pgs_cons (pg_name (i := 6) scIsMap.nd rfl (Or.inl rfl)) pgs_nil))) (fun _ _ _ _ _ => pts_nil)
              (fun _ _ _ _ _ => pe_or (pe_cmpR (op_ownOut Fh (hr.mono hk) bh hfi hfn pass0) (pe_tup (pa_cons (pv 5) pa_nil)) (pv 0) (by rfl)) (pe_one (pe_cmpR (op_ownOut Fh (hr.mono hk) bh hfi hfn pass0) (pe_tup (pa_cons (pv 6) pa_nil)) (pv 1) (by rfl))))) pa_nil)))
          (pss_one (ps_ret pe_bl)) pss_nil)
      apply pss_cons
      · exact (ps_if (pt_cmpR (op_neD hr.units) (pe_lc (own := [("vertex", 5), ("image", 6)]) (g := gTup K 2 (gCons (gName 5) (gCons (gName 6) gNil))) (tt := tYes) (te := tVar 5) rfl scIsMap.nd (pi_tup (pv 2))
              (blkOk_by (own := [("vertex", 5), ("image", 6)]) (N := nIsMap) (sc := defScope sIsMap) (by decide +kernel))
              (fun _ _ _ _ _ => pg_tup rfl (pgs_cons (pg_name (i := 5) scIsMap.nd rfl (Or.inl rfl)) (pgs_cons (pg_name (i := 6) scIsMap.nd rfl (Or.inl rfl)) pgs_nil))) (fun _ _ _ _ _ => pts_nil)
              (fun _ _ _ _ _ => pv 5)) (pv 3) (nomark _))
          (pss_one (ps_ret pe_bl)) pss_nil)
      apply pss_one
      exact (ps_ret (pe_callB (cr_all rfl) (by rfl) T.zAll (by decide +kernel) (pa_cons
            (pe_lc (own := [("simplex", 7)]) (g := gName 7) (tt := tYes) (te := tDIn (tImgD K 2 7) (tFld K (tVar 1) "faces")) rfl scIsMap.nd (pi_tup (pe_prop (pv 0) TC.ins.cl Hp1 Fg (hr.mono (by omega)) bg .nil pass0 rfl))
              (blkOk_by (own := [("simplex", 7)]) (N := nIsMap) (sc := defScope sIsMap) (by decide +kernel))
              (fun _ _ _ _ _ => pg_name (i := 7) scIsMap.nd rfl (Or.inl rfl)) (fun _ _ _ _ _ => pts_nil)
              (fun _ _ _ _ _ => pe_cmp (pc_din (hu_of hr) (C8.pe_c c4 hr (by omega) (by rfl) (pa_cons (pe_callTy (call_dictF rfl) (by rfl) T.zDict (by decide +kernel) (pa_cons (pv 2) pa_nil)) (pa_cons (pv 7) pa_nil))) (pe_fld (pv 1) rfl)))) pa_nil)))
    refine ⟨_, rfl, v1, F1, G1, rfl, x1, _, rfl, v2, F2, G2, rfl, x2, _, rfl, v1, F1, G1, rfl, x1, o1.cl.nd, by have := o1.len; omega, fun H1 p ns s1 hp hup2 => ?_⟩
    obtain rfl : ns = own := hup2.eq hup
    have ht1 := ht.sm s1
    have ph : ∀ H', Same H1 H' → SqL K H' p (ns.map V.int) := fun H' s => SqL.of (s _ _ hp)
    have el : ((ns.map V.int).length : Int) = (ns.length : Int) := by rw [List.length_map]
    cases t with
    | oth =>
      refine ⟨_, rfl, _, rfl, p, _, rfl, .inl (ph _ (Same.refl _)), _, rfl, p, _, rfl, .inl (ph _ (Same.refl _)), v, none, _, _, rfl, ht1, false, rfl, ?_⟩
      exact iteT (iteT (q _ s1))
    | tup es =>
      obtain ⟨a, xs, rfl, hrd, hes, hmany, hfz⟩ := ht1
      have xlen := Paired.len hes
      have hsq : SqT K H1 a xs := .inl hrd
      refine ⟨_, rfl, _, rfl, p, _, rfl, .inl (ph _ (Same.refl _)), _, rfl, p, _, rfl, .inl (ph _ (Same.refl _)), _, _, _, _, rfl, .tup hrd, _, rfl, ?_⟩
      rw [el, xlen]
      have elen : lenB (ns.length : Int) (ns.length : Int) (some es.length) = decide (es.length = ns.length) := by
        by_cases h : es.length = ns.length
        · simp [lenB, h]
        · simp [lenB, h]
          omega
      rw [elen]
      by_cases hl : es.length = ns.length
      · rw [decide_eq_true hl]
        refine iteF ?_
        have hfz1 := hfz hl
        refine ⟨_, rfl, a, rfl, ⟨_, hsq⟩, fun D hD => ?_⟩
        refine lc_fun ext_same (bs := es) (walk_tup' (K := K) (a := a) (xs := xs) xlen) (fun _ => true) En.isP (fun _ y c => y = .bl c) (fun _ h => h) hD (Same.refl _) (by omega) (fun H' s => sqT_sm hsq s) ?_ ?_
        · rintro i x b H2 H3 NT NF hb s2 ⟨rfl, hx⟩ ht hf
          obtain ⟨e, he, hen⟩ := Paired.at hes hx
          obtain rfl : b = e := Option.some.inj (hb.symm.trans he)
          obtain ⟨o, ho1, ho2⟩ := (hen.sm s2).shp
          refine ⟨rfl, _, rfl, x, o, 2, 2, rfl, ho1, ?_⟩
          rw [ho2]
          exact ht rfl _ _ (Same.refl _) rfl
        · intro H2 ys s2 hD2 r
          have ey : ys = (es.map En.isP).map V.bl := by
            have e := Paired.eqv (g := V.bl) r
            rw [e, filter_yes]
          refine ⟨D, es.map En.isP, rfl, .inl (.inl (by rw [hD2, ey])), _, rfl, ?_⟩
          have eall : (es.map En.isP).all id = es.all En.isP := by rw [List.all_map]; rfl
          rw [eall]
          cases hA : es.all En.isP with
          | false =>
            refine iteT ?_
            have q' := q H2 (s1.trans s2)
            have e : mapM F1 G1 F2 ns (.tup es) = false := by simp [mapM, hA]
            rw [e] at q'
            exact q'
          | true =>
            refine iteF ?_
            have getP : ∀ {i : Nat} {x : V} {b : En} {H' : Hp}, Same H1 H' → es[i]? = some b → xs[i]? = some x → ∃ a' b', b = .pair a' b' ∧ IsPr H' x a' b' := by
              intro i x b H' s hb hx
              obtain ⟨e, he, hen⟩ := Paired.at hes hx
              obtain rfl : b = e := Option.some.inj (hb.symm.trans he)
              have hp' := List.all_eq_true.mp hA b (List.mem_of_getElem? hb)
              cases b with
              | bad => simp [En.isP] at hp'
              | pair a' b' => exact ⟨a', b', rfl, hen.sm s⟩
            refine ⟨_, rfl, a, rfl, ⟨_, sqT_sm hsq s2⟩, fun D2 hD2' => ?_⟩
            refine lc_fun ext_same (bs := es) (walk_tup' (K := K) (a := a) (xs := xs) xlen) (fun _ => true) (fun e => !(hasV F1 (.int e.fst) && hasV F2 e.snd)) (fun _ y c => y = .bl c) (fun _ h => h) hD2' (Same.refl _) (by omega) (fun H' s => sqT_sm hsq (s2.trans s)) ?_ ?_
            · rintro i x b H3 H4 NT NF hb s3 ⟨rfl, hx⟩ ht hf
              obtain ⟨a', b', rfl, pa, rfl, hpa, Tb, hTb⟩ := getP (s2.trans s3) hb hx
              refine ⟨pa, _, rfl, .inl (.inl hpa), rfl, _, _, rfl, _, _, rfl, rfl, rfl, ?_⟩
              refine ⟨_, rfl, by show 1 ≤ sizeLine; decide, fun p1 n1 => ⟨_, rfl, ?_⟩⟩
              have t1 : Same H4 (upd H4 p1 (.tup [.int a'])) := same_upd n1
              have c1' := x1.sm (s1.trans (s2.trans (s3.trans t1)))
              have c2' := x2.sm (s1.trans (s2.trans (s3.trans t1)))
              obtain ⟨ia, dx, d, tt, rfl, hia, hx1⟩ := id x1
              refine ⟨ia, dx, _, rfl, (s1.trans (s2.trans (s3.trans t1))) _ _ hia, ia, p1, .int a', _, F1, G1, rfl, c1', upd_same, rfl, o1.ok, fun H5 s5 => ⟨_, rfl, ?_⟩⟩
              refine ⟨_, rfl, ?_⟩
              cases h1 : hasV F1 (.int a') with
              | false =>
                refine iteT ?_
                refine ht rfl _ _ (t1.trans s5) ?_
                show V.bl true = V.bl (!(hasV F1 (.int a') && hasV F2 b'))
                rw [h1]
                rfl
              | true =>
                refine iteF ?_
                refine ⟨_, rfl, by show 1 ≤ sizeLine; decide, fun p2 n2 => ⟨_, rfl, ?_⟩⟩
                have t2 : Same H5 (upd H5 p2 (.tup [b'])) := same_upd n2
                have tt2 := s1.trans (s2.trans (s3.trans (t1.trans (s5.trans t2))))
                obtain ⟨ib, dx2, d2, tb, rfl, hib, hx2⟩ := id x2
                refine ⟨ib, dx2, _, rfl, tt2 _ _ hib, ib, p2, b', _, F2, G2, rfl, x2.sm tt2, upd_same, hTb, o2.ok, fun H6 s6 => ⟨_, rfl, ?_⟩⟩
                refine ht rfl _ _ (t1.trans (s5.trans (t2.trans s6))) ?_
                show V.bl (!hasV F2 b') = V.bl (!(hasV F1 (.int a') && hasV F2 b'))
                rw [h1]
                rfl
            · intro H3 ys s3 hD3 r
              have ey : ys = (es.map fun e => !(hasV F1 (.int e.fst) && hasV F2 e.snd)).map V.bl := by
                have e := Paired.eqv (g := V.bl) r
                rw [e, filter_yes]
              refine ⟨D2, _, rfl, .inl (.inl (by rw [hD3, ey])), _, rfl, ?_⟩
              have eany : (es.map fun e => !(hasV F1 (.int e.fst) && hasV F2 e.snd)).any id = !allIn F1 F2 es := by
                rw [List.any_map]
                unfold allIn
                rw [List.not_all_eq_any_not]
                rfl
              rw [eany]
              have s13 := s1.trans (s2.trans s3)
              cases hB : allIn F1 F2 es with
              | false =>
                refine iteT ?_
                have q' := q H3 s13
                have e : mapM F1 G1 F2 ns (.tup es) = false := by simp [mapM, hB]
                rw [e] at q'
                exact q'
              | true =>
                refine iteF ?_
                refine ⟨_, rfl, a, rfl, ⟨_, sqT_sm hsq (s2.trans s3)⟩, fun D4 hD4' => ?_⟩
                refine lc_fun ext_same (bs := es) (walk_tup' (K := K) (a := a) (xs := xs) xlen) (fun _ => true) En.fst (fun _ y c => y = .int c) (fun _ h => h) hD4' (Same.refl _) (by omega) (fun H' s => sqT_sm hsq (s2.trans (s3.trans s))) ?_ ?_
                · rintro i x b H5 H6 NT NF hb s5 ⟨rfl, hx⟩ ht hf
                  obtain ⟨a', b', rfl, pa, rfl, hpa, Tb, hTb⟩ := getP (s2.trans (s3.trans s5)) hb hx
                  exact ⟨pa, _, rfl, .inl (.inl hpa), rfl, _, _, rfl, _, _, rfl, rfl, rfl, _, rfl, ht rfl _ _ (Same.refl _) rfl⟩
                · intro H5 ys s5 hD5 r
                  have ey : ys = (es.map En.fst).map V.int := by
                    have e := Paired.eqv (g := V.int) r
                    rw [e, filter_yes]
                  have s25 := s2.trans (s3.trans s5)
                  refine ⟨_, rfl, ne_ints (by rw [hD5, ey]) (s25 _ _ hp) ⟨_, rfl, ?_⟩⟩
                  by_cases hE : es.map En.fst = ns
                  · rw [decide_eq_true hE]
                    refine iteF ?_
                    -- all images
                    obtain ⟨ia, dx, d, tt, rfl, hia, hd, hG⟩ := id x1
                    obtain ⟨ib, dx2, d2, tb, rfl, hib, hd2, hG2⟩ := id x2
                    have s15 := s1.trans s25
                    obtain ⟨gt, gs, rfl, hgt, hgs⟩ := hG.kt (Same.kt s15)
                    refine ⟨_, rfl, ia, dx, _, rfl, s15 _ _ hia, ia, dx, _, _, rfl, s15 _ _ hia, cxF_tops _ _, gt, rfl, ⟨_, .inl (.inl hgt)⟩, fun D6 hD6' => ?_⟩
                    have glen := Paired.len hgs
                    refine lc_fun ext_same (bs := G1) (walk_tup' (K := K) (a := gt) (xs := gs) glen) (fun _ => true) (fun s => decide (img (psOf es) s ∈ F2)) (fun _ y c => y = .bl c) (fun _ h => h) hD6' (Same.refl _) (by have := o1.many; omega) (fun H' s => sqT_sm (.inl (.inl hgt)) s) ?_ ?_
                    · rintro i x b H7 H8 NT NF hb s7 ⟨rfl, hx⟩ ht hf
                      obtain ⟨e, he, hen⟩ := Paired.at hgs hx
                      obtain rfl : b = e := Option.some.inj (hb.symm.trans he)
                      have hbG := List.mem_of_getElem? hb
                      have s17 := s25.trans s7
                      obtain ⟨ps, exs, hprs⟩ := pairs_of (K := K) (Paired.mp (fun _ _ h => h.sm s17) hes) hA hB
                      refine ⟨rfl, _, rfl, a, ps, _, rfl, exs ▸ fz_sm s17 hfz1, hprs, fun pd nd => ?_⟩
                      have nod : (((psOf es).map eK).map (·.1)).Nodup := eK_nd (by rw [ps_fst, hE]; exact up_nodup hup.1)
                      rw [mergeK_nd nod]
                      have t7 := same_upd (o := .dK ((psOf es).map eK)) nd
                      refine ⟨_, rfl, pd, psOf es, x, b, rfl, upd_same, hen.kt ((Same.kt s7).trans (Same.kt t7)), ?_, fun z hz => ?_, fun H9 r9 s9 hr9 => ?_⟩
                      · have := (o1.ok b (o1.sub b hbG)).len
                        omega
                      · rw [ps_fst, hE]
                        exact (hup.2 z).mpr (o1.vx (o1.sub b hbG) hz)
                      · obtain ⟨ra, rfl, hra⟩ := hr9
                        have s19 := s1.trans (s17.trans (t7.trans s9))
                        refine ⟨_, rfl, ib, C, dx2, _, .ref d2, rfl, s19 _ _ hib, TC.ins.cl, TC.nF, cxF_faces _ _, d2, _, rfl, DGet.t (k := keyS (img (psOf es) b)) (s19 _ _ hd2) (by rw [keyS_kV]; exact hra), ?_⟩
                        refine ht rfl _ _ (t7.trans s9) ?_
                        rw [valV_of]
                        by_cases hin : img (psOf es) b ∈ F2
                        · rw [if_pos hin, decide_eq_true hin]
                          rfl
                        · rw [if_neg hin, decide_eq_false hin]
                          rfl
                    · intro H7 ys s7 hD7 r
                      have ey : ys = (G1.map fun s => decide (img (psOf es) s ∈ F2)).map V.bl := by
                        have e := Paired.eqv (g := V.bl) r
                        rw [e, filter_yes]
                      refine ⟨D6, _, rfl, .inl (.inl (by rw [hD7, ey])), ?_⟩
                      have e : (G1.map fun s => decide (img (psOf es) s ∈ F2)).all id = mapM F1 G1 F2 ns (.tup es) := by
                        rw [List.all_map]
                        simp [mapM, hA, hB, hE, hl]
                      rw [e]
                      exact q H7 (s15.trans s7)
                  · rw [decide_eq_false hE]
                    refine iteT ?_
                    have q' := q H5 (s1.trans s25)
                    have e : mapM F1 G1 F2 ns (.tup es) = false := by simp [mapM, hE]
                    rw [e] at q'
                    exact q'
      · rw [decide_eq_false hl]
        refine iteT (iteT ?_)
        have q' := q H1 s1
        have e : mapM F1 G1 F2 ns (.tup es) = false := by simp [mapM, hl]
        rw [e] at q'
        exact q'
end
end B72
set_option Elab.async false
set_option linter.all false
set_option maxRecDepth 100000
set_option maxHeartbeats 4000000
/-! need_map, image_of, fixed_simplices. -/
namespace B72
open PySem PySem.Spec PyProof.Rows L2 R72 Mk72
section
variable {P : Program} {w : World} {K : PySem.W.Frag} {mg : Str → Option Value} {base : Heap}
structure MapArgs (C : Addr) (H : Hp) (v1 v2 v : V) (F1 G1 F2 G2 : List Sx) (own : List Int) (t : To) : Prop where
  x1 : IsCx C H v1 F1 G1
  x2 : IsCx C H v2 F2 G2
  o1 : CxOk F1 G1
  o2 : CxOk F2 G2
  up : UpMem own F1
  len : own.length ≤ 1000
  to : IsTo H v own.length t
theorem MapArgs.sm {C : Addr} {H H' : Hp} {v1 v2 v : V} {F1 G1 F2 G2 : List Sx} {own : List Int} {t : To} (k : Same H H') (m : MapArgs C H v1 v2 v F1 G1 F2 G2 own t) : MapArgs C H' v1 v2 v F1 G1 F2 G2 own t :=
  ⟨m.x1.sm k, m.x2.sm k, m.o1, m.o2, m.up, m.len, m.to.sm k⟩
/-- what a map that holds is -/
structure MapYes (F1 G1 F2 : List Sx) (own : List Int) (es : List En) : Prop where
  len : es.length = own.length
  isP : es.all En.isP = true
  inn : allIn F1 F2 es = true
  fst : es.map En.fst = own
  img : ∀ s ∈ G1, img (psOf es) s ∈ F2
theorem mapYes {F1 G1 F2 : List Sx} {own : List Int} {t : To} (h : mapM F1 G1 F2 own t = true) : ∃ es, t = .tup es ∧ MapYes F1 G1 F2 own es := by
  cases t with
  | oth => simp [mapM] at h
  | tup es =>
    simp only [mapM, Bool.and_eq_true, decide_eq_true_eq] at h
    obtain ⟨h1, h2, h3, h4, h5⟩ := h
    exact ⟨es, rfl, h1, h2, h3, h4, fun s hs => of_decide_eq_true (List.all_eq_true.mp h5 s hs)⟩
theorem MapYes.nod {F1 G1 F2 : List Sx} {own : List Int} {es : List En} (y : MapYes F1 G1 F2 own es) (u : UpMem own F1) : (((psOf es).map eK).map (·.1)).Nodup := eK_nd (by rw [ps_fst, y.fst]; exact up_nodup u.1)
def spNeedM (C : Addr) : Sp := fun vs H Q _ => ∃ v1 v2 v t F1 G1 F2 G2 own, vs = [v1, v2, v] ∧ MapArgs C H v1 v2 v F1 G1 F2 G2 own t ∧ mapM F1 G1 F2 own t = true ∧ ∀ H', Same H H' → Q .non H'
theorem scNeedM : FnScope ["one", "other", "names"] ["one", "other", "names"] (defScope sNeedM) := ⟨rfl, rfl, rfl, by decide +kernel, rfl, by decide +kernel, by decide +kernel⟩
theorem ok_needm {C f : Addr} {fd : FuncData} {k : Nat} (hk : 6 ≤ k) (F : Fun K "need_map" "need_map" sNeedM f fd) (c1 : Cal72 P w K mg base 6 "is_map" (spIsMap C)) : FnOk P w K mg base CX0 (k + 1) f fd ["one", "other", "names"] (spNeedM C) := by
  refine F.ok scNeedM (fun vs H Q E h => ?_) (fun cdv A outer s H vs Q E hr h => ?_)
  · obtain ⟨_, _, _, _, _, _, _, _, _, rfl, _⟩ := h
    rfl
  · obtain ⟨v1, v2, v, t, F1, G1, F2, G2, own, rfl, m, hm, q⟩ := h
    apply Exists.intro
    apply And.intro
    · apply pss_one
      exact ps_if (pt_not (pt_val (C8.pe_c c1 hr hk (by rfl) (pa_cons (pv 0) (pa_cons (pv 1) (pa_cons (pv 2) pa_nil)))))) (pss_one ps_never) pss_nil
    refine ⟨_, rfl, _, rfl, _, rfl, v1, v2, v, t, F1, G1, F2, G2, own, rfl, m.x1, m.x2, m.o1, m.o2, m.up, m.len, m.to, fun H' s => ⟨_, rfl, ?_⟩⟩
    rw [hm]
    exact iteF (q H' s)
def spImgOf (C : Addr) : Sp := fun vs H Q _ => ∃ v1 v2 v t F1 G1 F2 G2 own, vs = [v1, v2, v] ∧ MapArgs C H v1 v2 v F1 G1 F2 G2 own t ∧ mapM F1 G1 F2 own t = true ∧
  ∀ H' r es, Same H H' → t = .tup es → IsCx C H' r (genP (mx (genP (G1.map (img (psOf es)))))) (mx (genP (mx (genP (G1.map (img (psOf es))))))) → Q r H'
abbrev nImgOf : List Str := ["one", "other", "names", "simplex"]
theorem scImgOf : FnScope nImgOf ["one", "other", "names"] (defScope sImgOf) := ⟨rfl, rfl, rfl, by decide +kernel, rfl, by decide +kernel, by decide +kernel⟩
theorem ok_imgof {C f : Addr} {fd : FuncData} {k : Nat} (hk : 7 ≤ k) (F : Fun K "image_of" "image_of" sImgOf f fd) (T : Fx mg) (TC : Cx72 K mg C) (O : Own72 P w K mg base C) (c1 : Cal72 P w K mg base 7 "need_map" (spNeedM C)) (c2 : Cal72 P w K mg base 7 "made" (spMade C))
    (c4 : Cal72 P w K mg base 1 "image_in" spImgIn) : FnOk P w K mg base CX0 (k + 1) f fd ["one", "other", "names"] (spImgOf C) := by
  refine F.ok scImgOf (fun vs H Q E h => ?_) (fun cdv A outer s H vs Q E hr h => ?_)
  · obtain ⟨_, _, _, _, _, _, _, _, _, rfl, _⟩ := h
    rfl
  · obtain ⟨v1, v2, v, t, F1, G1, F2, G2, own, rfl, m, hm, q⟩ := h
    obtain ⟨pp, gg, fdg, Hp1, Fg, bg⟩ := O.fac
    apply Exists.intro
    apply And.intro
    · apply pss_cons
      · exact ps_expr (C8.pe_c c1 hr (by omega) (by rfl) (pa_cons (pv 0) (pa_cons (pv 1) (pa_cons (pv 2) pa_nil))))
      apply pss_one
      exact ps_ret (C8.pe_c c2 hr (by omega) (by rfl) (pa_cons (pe_lc (own := [("simplex", 3)]) (g := gName 3) (tt := tYes) (te := tImgD K 2 3) rfl scImgOf.nd (pi_tup (pe_prop (pv 0) TC.ins.cl Hp1 Fg (hr.mono (by omega)) bg .nil pass0 rfl))
              (blkOk_by (own := [("simplex", 3)]) (N := nImgOf) (sc := defScope sImgOf) (by decide +kernel))
              (fun _ _ _ _ _ => pg_name (i := 3) scImgOf.nd rfl (Or.inl rfl)) (fun _ _ _ _ _ => pts_nil)
              (fun _ _ _ _ _ => C8.pe_c c4 hr (by omega) (by rfl) (pa_cons (pe_callTy (call_dictF rfl) (by rfl) T.zDict (by decide +kernel) (pa_cons (pv 2) pa_nil)) (pa_cons (pv 3) pa_nil)))) pa_nil))
    refine ⟨_, rfl, _, rfl, _, rfl, v1, v2, v, t, F1, G1, F2, G2, own, rfl, m, hm, fun H1 s1 => ?_⟩
    obtain ⟨es, rfl, y⟩ := mapYes hm
    obtain ⟨a, xs, rfl, hrd, hes, hmany, hfz⟩ := m.to.sm s1
    have hfz1 := hfz y.len
    obtain ⟨ia, dx, d, tt, rfl, hia, hd, hG⟩ := id m.x1
    obtain ⟨gt, gs, rfl, hgt, hgs⟩ := hG.kt (Same.kt s1)
    refine ⟨_, rfl, ia, dx, _, rfl, s1 _ _ hia, ia, dx, _, _, rfl, s1 _ _ hia, cxF_tops _ _, gt, rfl, ⟨_, .inl (.inl hgt)⟩, fun D6 hD6' => ?_⟩
    have glen := Paired.len hgs
    refine lc_fun ext_same (bs := G1) (walk_tup' (K := K) (a := gt) (xs := gs) glen) (fun _ => true) (img (psOf es)) IsS (fun kt h => h.kt kt) hD6' (Same.refl _) (by have := m.o1.many; omega) (fun H' s => sqT_sm (.inl (.inl hgt)) s) ?_ ?_
    · rintro i x b H7 H8 NT NF hb s7 ⟨rfl, hx⟩ ht hf
      obtain ⟨e, he, hen⟩ := Paired.at hgs hx
      obtain rfl : b = e := Option.some.inj (hb.symm.trans he)
      have hbG := List.mem_of_getElem? hb
      obtain ⟨ps, exs, hprs⟩ := pairs_of (K := K) (Paired.mp (fun _ _ h => h.sm s7) hes) y.isP y.inn
      refine ⟨rfl, _, rfl, a, ps, _, rfl, exs ▸ fz_sm s7 hfz1, hprs, fun pd nd => ?_⟩
      rw [mergeK_nd (y.nod m.up)]
      have t7 := same_upd (o := .dK ((psOf es).map eK)) nd
      refine ⟨_, rfl, pd, psOf es, x, b, rfl, upd_same, hen.kt ((Same.kt s7).trans (Same.kt t7)), ?_, fun z hz => ?_, fun H9 r9 s9 hr9 => ?_⟩
      · have := (m.o1.ok b (m.o1.sub b hbG)).len
        omega
      · rw [ps_fst, y.fst]
        exact (m.up.2 z).mpr (m.o1.vx (m.o1.sub b hbG) hz)
      · exact ht rfl _ _ (t7.trans s9) hr9
    · intro H7 ys s7 hD7 r
      rw [filter_yes] at r
      refine ⟨_, _, rfl, ⟨D6, ys, rfl, hD7, r⟩, fun s hs => ?_, fun H8 r8 s8 x8 => q H8 r8 es (s1.trans (s7.trans s8)) rfl x8⟩
      obtain ⟨g, hg, rfl⟩ := List.mem_map.mp hs
      exact m.o2.ok _ (y.img g hg)
def spFixed (C : Addr) : Sp := fun vs H Q _ => ∃ v1 v t F1 G1 own, vs = [v1, v] ∧ MapArgs C H v1 v1 v F1 G1 F1 G1 own t ∧ mapM F1 G1 F1 own t = true ∧
  ∀ H' p ys es, Same H H' → t = .tup es → H' p = some (.lst ys) → IsSs H' ys (inOrd (F1.filter fun s => decide (img (psOf es) s = s))) → Q (.ref p) H'
abbrev nFixed : List Str := ["shape", "names", "simplex"]
theorem scFixed : FnScope nFixed ["shape", "names"] (defScope sFixed) := ⟨rfl, rfl, rfl, by decide +kernel, rfl, by decide +kernel, by decide +kernel⟩
theorem ok_fixed {C f : Addr} {fd : FuncData} {k : Nat} (hk : 7 ≤ k) (F : Fun K "fixed_simplices" "fixed_simplices" sFixed f fd) (T : Fx mg) (TC : Cx72 K mg C) (c1 : Cal72 P w K mg base 7 "need_map" (spNeedM C)) (c2 : Cal72 P w K mg base 1 "in_order" spOrderL)
    (c4 : Cal72 P w K mg base 1 "image_in" spImgIn) : FnOk P w K mg base CX0 (k + 1) f fd ["shape", "names"] (spFixed C) := by
  refine F.ok scFixed (fun vs H Q E h => ?_) (fun cdv A outer s H vs Q E hr h => ?_)
  · obtain ⟨_, _, _, _, _, _, rfl, _⟩ := h
    rfl
  · obtain ⟨v1, v, t, F1, G1, own, rfl, m, hm, q⟩ := h
    apply Exists.intro
    apply And.intro
    · apply pss_cons
      · exact ps_expr (C8.pe_c c1 hr (by omega) (by rfl) (pa_cons (pv 0) (pa_cons (pv 0) (pa_cons (pv 1) pa_nil))))
      apply pss_one
      exact ps_ret (C8.pe_c c2 hr (by omega) (by rfl) (pa_cons (pe_lock (pe_lc (own := [("simplex", 2)]) (g := gName 2) (tt := tTest (tOp (rEqD K) (tImgD K 1 2) (tVar 2))) (te := tVar 2) rfl scFixed.nd (pi_keys (pe_fld (pv 0) rfl))
              (blkOk_by (own := [("simplex", 2)]) (N := nFixed) (sc := defScope sFixed) (by decide +kernel))
              (fun _ _ _ _ _ => pg_name (i := 2) scFixed.nd rfl (Or.inl rfl))
              (fun _ _ _ _ _ => pts_one (pt_cmpR (op_eqD hr.units) (C8.pe_c c4 hr (by omega) (by rfl) (pa_cons (pe_callTy (call_dictF rfl) (by rfl) T.zDict (by decide +kernel) (pa_cons (pv 1) pa_nil)) (pa_cons (pv 2) pa_nil))) (pv 2) (nomark _)))
              (fun _ _ _ _ _ => pv 2))) pa_nil))
    refine ⟨_, rfl, _, rfl, _, rfl, v1, v1, v, t, F1, G1, F1, G1, own, rfl, m, hm, fun H1 s1 => ?_⟩
    obtain ⟨es, rfl, y⟩ := mapYes hm
    obtain ⟨a, xs, rfl, hrd, hes, hmany, hfz⟩ := m.to.sm s1
    have hfz1 := hfz y.len
    obtain ⟨ia, dx, d, tt, rfl, hia, hd, hG⟩ := id m.x1
    have hd1 := s1 _ _ hd
    have nad : ia ≠ d := ne_of hia hd (by intro z; cases z)
    have hmanyF := m.o1.len
    refine ⟨d, dOf F1, hd1, trivial, fun od => ⟨_, rfl, ia, C, dx, _, .ref d, rfl, by rw [upd_ne nad]; exact s1 _ _ hia, TC.ins.cl, TC.nF, cxF_faces _ _, d, od, rfl, .inr ⟨F1.map fun s => (keyS s, V.bl true), upd_same, fun D hD => ?_⟩⟩⟩
    have lenk : (F1.map fun s => (keyS s, V.bl true)).length = F1.length := List.length_map ..
    have wk := walk_keysT (d := d) (o := od) (kvs := F1.map fun s => (keyS s, V.bl true))
    rw [lenk] at wk
    have sd : ∀ (b : Addr) (o : HO), H1 b = some o → b ≠ d → (upd H1 d (.frz od (dOf F1))) b = some o := fun b o e n => by rw [upd_ne n]; exact e
    have hfz2 : FzT (upd H1 d (.frz od (dOf F1))) a xs := by
      obtain ⟨o, e, z⟩ := hfz1
      exact ⟨o, sd _ _ e (ne_of e hd1 (by intro z; cases z)), z⟩
    have hes2 : Paired (IsEn (upd H1 d (.frz od (dOf F1)))) xs es := by
      have hp := y.isP
      clear hfz hmany hrd q hm m y hfz2 hfz1
      revert hp
      induction hes with
      | nil => exact fun _ => .nil
      | @cons x e xs' es' h t ih =>
        intro hp
        rw [List.all_cons, Bool.and_eq_true] at hp
        refine .cons ?_ (ih hp.2)
        cases e with
        | bad => simp [En.isP] at hp
        | pair a' b' =>
          obtain ⟨p, e1, e2, e3⟩ := h
          exact ⟨p, e1, sd _ _ e2 (ne_of e2 hd1 (by intro z; cases z)), e3⟩
    refine lc_fun ext_same (bs := F1) wk (fun s => decide (img (psOf es) s = s)) (fun s => s) IsS (fun kt h => h.kt kt) hD (Same.refl _) (by omega) (fun H2 s2 => s2 _ _ upd_same) ?_ ?_
    · rintro j yy b H2 H3 NT NF hb sm2 ⟨rfl, kk, vv, qa, e1, rfl, e2⟩ ht hf
      have eb : (keyS b, V.bl true) = (kk, vv) := by
        rw [List.getElem?_map, hb] at e1
        exact Option.some.inj e1
      obtain ⟨rfl, rfl⟩ := Prod.mk.inj eb
      rw [keyS_kV] at e2
      have hbF := List.mem_of_getElem? hb
      obtain ⟨ps, exs, hprs⟩ := pairs_of (K := K) (Paired.mp (fun _ _ h => h.sm sm2) hes2) y.isP y.inn
      refine ⟨rfl, _, rfl, a, ps, _, rfl, exs ▸ fz_sm sm2 hfz2, hprs, fun pd nd => ?_⟩
      rw [mergeK_nd (y.nod m.up)]
      have t7 := same_upd (o := .dK ((psOf es).map eK)) nd
      refine ⟨_, rfl, pd, psOf es, _, b, rfl, upd_same, ⟨qa, rfl, t7 _ _ e2⟩, ?_, fun z hz => ?_, fun H9 r9 s9 hr9 => ?_⟩
      · have := (m.o1.ok b hbF).len
        omega
      · rw [ps_fst, y.fst]
        exact (m.up.2 z).mpr (m.o1.vx hbF hz)
      · refine ⟨_, rfl, eq_tints hr9 ⟨qa, rfl, s9 _ _ (t7 _ _ e2)⟩ ⟨_, rfl, ?_⟩⟩
        refine ite2 (fun h => ?_) (fun h => hf ?_ _ (t7.trans s9))
        · exact ⟨_, rfl, ht h _ _ (t7.trans s9) ⟨qa, rfl, s9 _ _ (t7 _ _ e2)⟩⟩
        · cases hc : decide (img (psOf es) b = b) with
          | false => rfl
          | true => exact absurd hc h
    · intro H2 ys sm2 hD2 r2
      rw [List.map_id'] at r2
      have ed : H2 d = some (.frz od (dOf F1)) := sm2 _ _ upd_same
      have nDd : D ≠ d := ne_of hD2 ed (by intro z; cases z)
      have s3 := unlock_same hd1 sm2
      refine ⟨ed, _, _, rfl, ⟨D, ys, rfl, by rw [upd_ne nDd]; exact hD2, IsSs.kt (unlock_kt ed) r2⟩, Nat.le_trans (List.length_filter_le _ _) (by omega), fun s hs => ?_, fun H8 p zs s8 hp8 r8 => q H8 p zs es (s1.trans (s3.trans s8)) rfl hp8 r8⟩
      have := (m.o1.ok s (List.mem_filter.mp hs).1).len
      omega
end
end B72
set_option Elab.async false
set_option linter.all false
set_option maxRecDepth 100000
set_option maxHeartbeats 4000000
/-! the law's row: _law_taken, _law_pick. -/
namespace B72
open PySem PySem.Spec PyProof.Rows L2 R72 Mk72
section
variable {P : Program} {w : World} {K : PySem.W.Frag} {mg : Str → Option Value} {base : Heap}
theorem sql_to {K : PySem.W.Frag} {H H' : Hp} {a : Addr} {xs : List V} (h : SqL K H a xs) (k : ∀ u, H a = some u → H' a = some u) : SqL K H' a xs := by
  rcases h with (h | ⟨o, h⟩) | h
  · exact .inl (.inl (k _ h))
  · exact .inl (.inr ⟨o, k _ h⟩)
  · exact .inr h
def Row (K : PySem.W.Frag) (sa : Addr) (ns : List Int) (r : Addr) (H : Hp) : Prop := SqL K H sa (ns.map V.int) ∧ (sa ≠ r ∨ ∀ H', SqL K H' sa (ns.map V.int)) ∧ ∃ i n z : Int, H r = some (.lst [.ref sa, .int i, .int n, .int z]) ∧ 0 ≤ i ∧ 0 ≤ n ∧ n < 2147483647
def RowUp (K : PySem.W.Frag) (sa : Addr) (ns : List Int) (r : Addr) (H H' : Hp) : Prop := (∀ b o, b ≠ r → H b = some o → H' b = some o) ∧ Row K sa ns r H ∧ Row K sa ns r H'
variable {sa : Addr} {ns : List Int} {r : Addr}
theorem Row.keep {H H' : Hp} (h : Row K sa ns r H) (k : ∀ b o, H b = some o → H' b = some o) : Row K sa ns r H' := by
  obtain ⟨h1, h2, i, n, z, h3, h4⟩ := h
  exact ⟨sql_to h1 (fun u e => k _ _ e), h2, i, n, z, k _ _ h3, h4⟩
theorem Row.keepR {H H' : Hp} (h : Row K sa ns r H) (k : ∀ b o, b ≠ r → H b = some o → H' b = some o) {i n z : Int} (e : H' r = some (.lst [.ref sa, .int i, .int n, .int z])) (hi : 0 ≤ i) (h0 : 0 ≤ n) (h1 : n < 2147483647) : Row K sa ns r H' := by
  obtain ⟨q1, q2, _⟩ := h
  refine ⟨?_, q2, i, n, z, e, hi, h0, h1⟩
  rcases q2 with q2 | q2
  · exact sql_to q1 (fun u e => k _ _ q2 e)
  · exact q2 H'
theorem RowUp.refl {H : Hp} (h : Row K sa ns r H) : RowUp K sa ns r H H := ⟨fun _ _ _ e => e, h, h⟩
theorem RowUp.of {H H' : Hp} (h : Row K sa ns r H) (s : Same H H') : RowUp K sa ns r H H' := ⟨fun b o _ e => s b o e, h, h.keep s⟩
theorem RowUp.trans {a b c : Hp} (h : RowUp K sa ns r a b) (h' : RowUp K sa ns r b c) : RowUp K sa ns r a c := ⟨fun x o n e => h'.1 x o n (h.1 x o n e), h.2.1, h'.2.2⟩
theorem RowUp.same {a b c : Hp} (h : RowUp K sa ns r a b) (h' : Same b c) : RowUp K sa ns r a c := h.trans (.of h.2.2 h')
theorem Row.rn {H : Hp} (h : Row K sa ns r H) {D : Addr} (n : H D = none) : D ≠ r := by
  obtain ⟨_, _, _, _, _, e, _⟩ := h
  intro z
  rw [z, e] at n
  cases n
theorem RowUp.fr {H H' : Hp} {D : Addr} (h : RowUp K sa ns r H H') (n : H' D = none) : H D = none := by
  cases e : H D with
  | none => rfl
  | some o =>
    have := h.1 D o (h.2.2.rn n) e
    rw [n] at this
    cases this
theorem ext_row : Ext (RowUp K sa ns r) := by
  refine ⟨fun h h' => h.trans h', fun h n => h.fr n, fun {H H' D} o h n => ⟨fun b x nb e => ?_, h.2.1, ?_⟩, fun {H1 H H' D o} h h' n e => h'.1 D o (h.2.1.rn n) e, fun {H H'} h a xs e => h.1 a _ ?_ e⟩
  · rw [upd_ne (ne_of_none e n)]
    exact h.1 b x nb e
  · obtain ⟨q1, q2, i, m, z, q3, q4⟩ := h.2.2
    have hD : D ≠ r := h.2.1.rn n
    refine ⟨?_, q2, i, m, z, by rw [upd_ne hD.symm]; exact q3, q4⟩
    obtain ⟨p1, _⟩ := h.2.1
    rcases q2 with q2 | q2
    · refine sql_to p1 fun u e => ?_
      rw [upd_ne (ne_of_none e n)]
      exact h.1 _ _ q2 e
    · exact q2 _
  · intro z
    obtain ⟨_, _, _, _, _, q, _⟩ := h.2.1
    rw [← z, e] at q
    cases q
/-- _law_taken(row, many) -/
def spTaken (K : PySem.W.Frag) : Sp := fun vs H Q _ => ∃ sa ns r m, vs = [.ref r, .int m] ∧ Row K sa ns r H ∧ 0 < m ∧ m < 1073741824 ∧ ∀ H' x, RowUp K sa ns r H H' → 0 ≤ x → x < m → Q (.int x) H'
abbrev nTaken : List Str := ["_law_row", "_law_many", "_law_found", "_law_cell"]
theorem scTaken : FnScope nTaken ["_law_row", "_law_many"] (defScope sTaken) := ⟨rfl, rfl, rfl, by decide +kernel, rfl, by decide +kernel, by decide +kernel⟩
theorem up_row {H : Hp} (h : Row K sa ns r H) {i n z : Int} (hi : 0 ≤ i) (h0 : 0 ≤ n) (h1 : n < 2147483647) {H0 : Hp} (u : RowUp K sa ns r H0 H) : RowUp K sa ns r H0 (upd H r (.lst [.ref sa, .int i, .int n, .int z])) :=
  ⟨fun b o nb e => by rw [upd_ne nb]; exact u.1 b o nb e, u.2.1, h.keepR (fun b o nb e => by rw [upd_ne nb]; exact e) upd_same hi h0 h1⟩
theorem ok_taken {f : Addr} {fd : FuncData} {k : Nat} (F : Fun K "_law_taken" "_law_taken" sTaken f fd) (T : Fx mg) : FnOk P w K mg base CX0 (k + 1) f fd ["_law_row", "_law_many"] (spTaken K) := by
  refine F.ok scTaken (fun vs H Q E h => ?_) (fun cdv A outer s H vs Q E hr h => ?_)
  · obtain ⟨_, _, _, _, rfl, _⟩ := h
    rfl
  · obtain ⟨sa, ns, r, m, rfl, hrow, hm0, hm1, q⟩ := h
    apply Exists.intro
    apply And.intro
    · apply pss_cons
      · exact ps_if (pt_cmpR op_gt (pe_ix ix_list (pv 0) pe_int (fun _ _ => rfl)) pe_int (nomark _))
          (pss_cons (ps_set (i := 2) scTaken.nd rfl (.inl rfl) (pe_op op_mod (pe_callTy call_int1 (by rfl) T.zInt (by decide +kernel) (pa_cons (pe_ix ix_list (pv 0) pe_int (fun _ _ => rfl)) pa_nil)) (pv 1)))
          (pss_cons (ps_asg (pe_op op_fdiv (pe_ix ix_list (pv 0) pe_int (fun _ _ => rfl)) (pv 1)) (pg_sub (pv 0) pe_int set_list))
          (pss_one (ps_ret (pv 2))))) pss_nil
      apply pss_cons
      · exact ps_asg (pe_op op_add (pe_ix ix_list (pv 0) pe_int (fun _ _ => rfl)) pe_int) (pg_sub (pv 0) pe_int set_list)
      apply pss_cons
      · exact ps_if (pt_cmpR op_gt (pe_ix ix_list (pv 0) pe_int (fun _ _ => rfl)) (pe_callB call_len_seq (by rfl) T.zLen PySem.boot_len (pa_cons (pe_ix ix_list (pv 0) pe_int (fun _ _ => rfl)) pa_nil)) (nomark _))
          (pss_cons (ps_asg (pe_op op_mod (pe_callTy call_int1 (by rfl) T.zInt (by decide +kernel) (pa_cons (pe_op op_add (pe_op op_mul (pe_ix ix_list (pv 0) pe_int (fun _ _ => rfl)) pe_int) pe_int) pa_nil)) pe_int) (pg_sub (pv 0) pe_int set_list))
          (pss_one (ps_ret (pe_op op_mod (pe_callTy call_int1 (by rfl) T.zInt (by decide +kernel) (pa_cons (pe_op op_fdiv (pe_ix ix_list (pv 0) pe_int (fun _ _ => rfl)) pe_int) pa_nil)) (pv 1))))) pss_nil
      apply pss_cons
      · exact ps_set (i := 3) scTaken.nd rfl (.inl rfl) (pe_ix ix_list (pe_ix ix_list (pv 0) pe_int (fun _ _ => rfl)) (pe_op op_sub (pe_ix ix_list (pv 0) pe_int (fun _ _ => rfl)) pe_int) (fun _ _ => rfl))
      apply pss_cons
      · exact ps_asg (pe_op op_mod (pe_callTy call_int1 (by rfl) T.zInt (by decide +kernel) (pa_cons (pe_op op_add (pe_op op_add (pe_op op_mul (pe_ix ix_list (pv 0) pe_int (fun _ _ => rfl)) pe_int) (pv 3)) pe_int) pa_nil)) pe_int) (pg_sub (pv 0) pe_int set_list)
      apply pss_cons
      · exact ps_if (pt_cmpR op_ge (pv 3) (pe_op op_pow pe_int pe_int) (nomark _)) (pss_one (ps_asg (pe_op op_fdiv (pv 3) (pv 1)) (pg_sub (pv 0) pe_int set_list))) pss_nil
      apply pss_one
      exact ps_ret (pe_op op_mod (pe_callTy call_int1 (by rfl) T.zInt (by decide +kernel) (pa_cons (pv 3) pa_nil)) (pv 1))
    have hrow0 := hrow
    obtain ⟨hs, hne, i, n, z, er, hi, hn0, hn1⟩ := hrow
    have cd : CDiv z m := ⟨hm0, hm1⟩
    refine ⟨_, rfl, r, _, 3, _, rfl, rfl, SqL.of er, rfl, z, 0, rfl, rfl, _, rfl, ?_⟩
    by_cases hz : 0 < z
    · rw [decide_eq_true hz]
      refine iteT ?_
      refine ⟨_, rfl, r, _, 3, _, rfl, rfl, SqL.of er, rfl, .inl ⟨_, rfl, _, rfl, z, m, rfl, rfl, hm0, ?_⟩⟩
      refine ⟨_, rfl, r, _, 3, _, rfl, rfl, SqL.of er, rfl, _, rfl, z, m, rfl, rfl, cd, ?_⟩
      refine ⟨_, rfl, r, _, 3, 3, rfl, rfl, er, rfl, _, rfl, ?_⟩
      exact q _ _ (up_row hrow0 hi hn0 hn1 (RowUp.refl hrow0)) (Int.emod_nonneg _ (by omega)) (Int.emod_lt_of_pos _ hm0)
    · rw [decide_eq_false hz]
      refine iteF ?_
      refine ⟨_, rfl, r, _, 1, _, rfl, rfl, SqL.of er, rfl, i, 1, rfl, rfl, ?_⟩
      refine ⟨_, rfl, r, _, 1, 1, rfl, rfl, er, rfl, ?_⟩
      have u1 := up_row (z := z) hrow0 (show 0 ≤ i + 1 by omega) hn0 hn1 (RowUp.refl hrow0)
      show _
      have er1 : (upd H r (.lst [.ref sa, .int (i + 1), .int n, .int z])) r = some (.lst [.ref sa, .int (i + 1), .int n, .int z]) := upd_same
      show tSeq _ _ _ _ (upd H r (.lst [.ref sa, .int (i + 1), .int n, .int z]))
      generalize upd H r (.lst [.ref sa, .int (i + 1), .int n, .int z]) = H1 at u1 er1 ⊢
      have hs1 := u1.2.2.1
      refine ⟨_, rfl, r, _, 1, _, rfl, rfl, SqL.of er1, rfl, _, rfl, r, _, 0, _, rfl, rfl, SqL.of er1, rfl, sa, _, rfl, .inl hs1, _, _, rfl, rfl, _, rfl, ?_⟩
      rw [List.length_map]
      by_cases hl : (ns.length : Int) < i + 1
      · rw [decide_eq_true hl]
        refine iteT ?_
        have h0 := Int.emod_nonneg (n * 48271 + 11) (show (2147483647 : Int) ≠ 0 by decide)
        have h1 := Int.emod_lt_of_pos (n * 48271 + 11) (show (0 : Int) < 2147483647 by decide)
        have hmul : CMul n 48271 := .inl ⟨by omega, by omega⟩
        refine ⟨_, rfl, r, _, 2, _, rfl, rfl, SqL.of er1, rfl, n, 48271, rfl, rfl, hmul, _, 11, rfl, rfl, .inl ⟨_, rfl, _, 2147483647, rfl, rfl, (show (0 : Int) < 2147483647 by decide), ?_⟩⟩
        refine ⟨_, rfl, r, _, 2, 2, rfl, rfl, er1, rfl, ?_⟩
        have u2 := up_row (z := z) u1.2.2 (show 0 ≤ i + 1 by omega) h0 h1 u1
        refine ⟨_, rfl, r, _, 2, _, rfl, rfl, SqL.of upd_same, rfl, _, 7, rfl, rfl, ⟨by decide, by decide⟩, .inl ⟨_, rfl, _, rfl, _, m, rfl, rfl, hm0, ?_⟩⟩
        exact q _ _ u2 (Int.emod_nonneg _ (by omega)) (Int.emod_lt_of_pos _ hm0)
      · rw [decide_eq_false hl]
        refine iteF ?_
        have hil : i.toNat < ns.length := by omega
        have hat : atI (ns.map V.int) (i + 1 - 1) = some (.int ns[i.toNat]) := by
          have e1 : i + 1 - 1 = i := by omega
          rw [e1]
          unfold atI ixN
          rw [if_pos hi]
          rw [if_pos (by rw [List.length_map]; omega)]
          show (ns.map V.int)[i.toNat]? = _
          rw [List.getElem?_map, List.getElem?_eq_getElem hil]
          rfl
        generalize ns[i.toNat] = c at hat
        refine ⟨_, rfl, r, _, 0, _, rfl, rfl, SqL.of er1, rfl, _, rfl, r, _, 1, _, rfl, rfl, SqL.of er1, rfl, i + 1, 1, rfl, rfl, sa, _, i + 1 - 1, _, rfl, rfl, hs1, hat, ?_⟩
        have h0 := Int.emod_nonneg (n * 48271 + c + 11) (show (2147483647 : Int) ≠ 0 by decide)
        have h1 := Int.emod_lt_of_pos (n * 48271 + c + 11) (show (0 : Int) < 2147483647 by decide)
        have hmul : CMul n 48271 := .inl ⟨by omega, by omega⟩
        refine ⟨_, rfl, r, _, 2, _, rfl, rfl, SqL.of er1, rfl, n, 48271, rfl, rfl, hmul, _, rfl, _, c, rfl, rfl, _, 11, rfl, rfl, .inl ⟨_, rfl, _, 2147483647, rfl, rfl, (show (0 : Int) < 2147483647 by decide), ?_⟩⟩
        refine ⟨_, rfl, r, _, 2, 2, rfl, rfl, er1, rfl, ?_⟩
        have u2 := up_row (z := z) u1.2.2 (show 0 ≤ i + 1 by omega) h0 h1 u1
        refine ⟨_, rfl, 10, 18, rfl, rfl, ⟨by decide, by decide, by decide⟩, c, _, rfl, rfl, _, rfl, ?_⟩
        refine ite2 (fun hc => ?_) (fun hc => ?_)
        · refine ⟨_, rfl, _, rfl, c, m, rfl, rfl, ⟨hm0, hm1⟩, _, rfl, r, _, 3, 3, rfl, rfl, upd_same, rfl, ?_⟩
          refine ⟨_, rfl, .inl ⟨_, rfl, _, rfl, c, m, rfl, rfl, hm0, ?_⟩⟩
          exact q _ _ (up_row u2.2.2 (show 0 ≤ i + 1 by omega) h0 h1 u2) (Int.emod_nonneg _ (by omega)) (Int.emod_lt_of_pos _ hm0)
        · refine ⟨_, rfl, .inl ⟨_, rfl, _, rfl, c, m, rfl, rfl, hm0, ?_⟩⟩
          exact q _ _ u2 (Int.emod_nonneg _ (by omega)) (Int.emod_lt_of_pos _ hm0)
/-- _law_pick(row, things), things a list -/
def spPick (K : PySem.W.Frag) : Sp := fun vs H Q _ => ∃ sa ns r p, ∃ xs : List V, vs = [.ref r, .ref p] ∧ Row K sa ns r H ∧ p ≠ r ∧ H p = some (.lst xs) ∧ 0 < xs.length ∧ xs.length ≤ 1000 ∧ ∀ H' (j : Nat) (v : V), RowUp K sa ns r H H' → xs[j]? = some v → Q v H'
theorem scPick : FnScope ["_law_row", "_law_things"] ["_law_row", "_law_things"] (defScope sPick) := ⟨rfl, rfl, rfl, by decide +kernel, rfl, by decide +kernel, by decide +kernel⟩
theorem ok_pick {f : Addr} {fd : FuncData} {k : Nat} (hk : 1 ≤ k) (F : Fun K "_law_pick" "_law_pick" sPick f fd) (T : Fx mg) (c1 : Cal72 P w K mg base 1 "_law_taken" (spTaken K)) : FnOk P w K mg base CX0 (k + 1) f fd ["_law_row", "_law_things"] (spPick K) := by
  refine F.ok scPick (fun vs H Q E h => ?_) (fun cdv A outer s H vs Q E hr h => ?_)
  · obtain ⟨_, _, _, _, _, rfl, _⟩ := h
    rfl
  · obtain ⟨sa, ns, r, p, xs, rfl, hrow, hne, hp, h0, h1, q⟩ := h
    apply Exists.intro
    apply And.intro
    · apply pss_one
      exact ps_ret (pe_ix ix_list (pv 1) (C8.pe_c c1 hr hk (by rfl) (pa_cons (pv 0) (pa_cons (pe_callB call_len_seq (by rfl) T.zLen PySem.boot_len (pa_cons (pv 1) pa_nil)) pa_nil))) (fun _ _ => rfl))
    refine ⟨_, rfl, _, rfl, _, rfl, p, xs, rfl, .inl (SqL.of hp), sa, ns, r, (xs.length : Int), rfl, hrow, by omega, by omega, fun H1 x u1 hx0 hx1 => ?_⟩
    have hx : x.toNat < xs.length := by omega
    refine ⟨p, xs, x, xs[x.toNat], rfl, rfl, SqL.of (u1.1 _ _ hne hp), ?_, q _ x.toNat _ u1 (List.getElem?_eq_getElem hx)⟩
    unfold atI ixN
    rw [if_pos hx0, if_pos (by omega)]
    exact List.getElem?_eq_getElem hx
end
end B72
set_option Elab.async false
set_option linter.all false
set_option maxRecDepth 100000
set_option maxHeartbeats 4000000
/-! _law_alike, of things that are alike. -/
namespace B72
open PySem PySem.Spec PyProof.Rows L2 R72 Mk72
def Alk : Nat → Hp → V → V → Prop
  | 0, _, u, v => u = v ∧ ((∃ i, u = .int i) ∨ ∃ b, u = .bl b)
  | n + 1, H, u, v => ∃ p q xs ys, u = .ref p ∧ v = .ref q ∧ ((H p = some (.lst xs) ∧ H q = some (.lst ys)) ∨ (H p = some (.tup xs) ∧ H q = some (.tup ys))) ∧ xs.length ≤ 1000 ∧ Paired (Alk n H) xs ys
theorem Alk.sm {H H' : Hp} (k : Same H H') : ∀ {n : Nat} {u v : V}, Alk n H u v → Alk n H' u v
  | 0, _, _, h => h
  | _ + 1, _, _, ⟨p, q, xs, ys, e1, e2, h, l, r⟩ => ⟨p, q, xs, ys, e1, e2, h.imp (fun z => ⟨k _ _ z.1, k _ _ z.2⟩) (fun z => ⟨k _ _ z.1, k _ _ z.2⟩), l, Paired.mp (fun _ _ z => Alk.sm k z) r⟩
theorem alk_ints {H : Hp} : ∀ s : List Int, Paired (Alk 0 H) (s.map V.int) (s.map V.int)
  | [] => .nil
  | i :: s => .cons ⟨rfl, .inl ⟨i, rfl⟩⟩ (alk_ints s)
theorem alk_S {H : Hp} {u v : V} {s : Sx} (h : IsS H u s) (h' : IsS H v s) (l : s.length ≤ 1000) : Alk 1 H u v := by
  obtain ⟨a, rfl, ha⟩ := h
  obtain ⟨b, rfl, hb⟩ := h'
  exact ⟨a, b, _, _, rfl, rfl, .inr ⟨ha, hb⟩, by rw [List.length_map]; exact l, alk_ints s⟩
theorem alk_Ss {H : Hp} : ∀ {xs ys : List V} {ss : List Sx}, IsSs H xs ss → IsSs H ys ss → (∀ s ∈ ss, s.length ≤ 1000) → Paired (Alk 1 H) xs ys
  | _, _, _, .nil, .nil, _ => .nil
  | _, _, _, .cons a r, .cons b t, h => .cons (alk_S a b (h _ List.mem_cons_self)) (alk_Ss r t fun s hs => h s (List.mem_cons_of_mem _ hs))
section
variable {P : Program} {w : World} {K : PySem.W.Frag} {mg : Str → Option Value} {base : Heap}
def spAlike (n : Nat) : Sp := fun vs H Q _ => ∃ u v, vs = [u, v] ∧ Alk n H u v ∧ ∀ H', Same H H' → Q (.bl true) H'
abbrev nAlike : List Str := ["_law_found", "_law_due", "_law_k"]
theorem scAlike : FnScope nAlike ["_law_found", "_law_due"] (defScope sAlike) := ⟨rfl, rfl, rfl, by decide +kernel, rfl, by decide +kernel, by decide +kernel⟩
theorem kitAny2 {K : PySem.W.Frag} {a b c : String} {r1 r2 : Bool} (h1 : kitB a b = some r1) (h2 : kitB a c = some r2) : PySem.W.kitAny K (.type a) [.type b, .type c] = some (r1 || r2) := by
  cases r1 with
  | true => exact kitAny_cons (r := true) (kit_ty h1) (fun z => nomatch z) (fun _ => rfl)
  | false =>
    refine kitAny_cons (r := r2) (kit_ty h1) (fun _ => ?_) (fun z => nomatch z)
    cases r2 with
    | true => exact kitAny_cons (r := true) (kit_ty h2) (fun z => nomatch z) (fun _ => rfl)
    | false => exact kitAny_cons (r := false) (kit_ty h2) (fun _ => kitAny_nil) (fun z => nomatch z)
theorem ok_alike0 {f : Addr} {fd : FuncData} {k : Nat} (F : Fun K "_law_alike" "_law_alike" sAlike f fd) (T : Fx mg) : FnOk P w K mg base CX0 (k + 1) f fd ["_law_found", "_law_due"] (spAlike 0) := by
  refine F.ok scAlike (fun vs H Q E h => ?_) (fun cdv A outer s H vs Q E hr h => ?_)
  · obtain ⟨_, _, rfl, _⟩ := h
    rfl
  · obtain ⟨u, v, rfl, ⟨rfl, hv⟩, q⟩ := h
    apply Exists.intro
    apply And.intro
    · apply pss_cons
      · exact ps_if (pt_val (pe_callB call_isiT (by rfl) T.zIsi (by decide +kernel) (pa_cons (pv 1) (pa_cons (pe_tup (pa_cons (pe_bltn (v := .ty "tuple") (by rfl) T.zTuple (by decide +kernel) rfl) (pa_cons (pe_bltn (v := .ty "list") (by rfl) T.zList (by decide +kernel) rfl) pa_nil))) pa_nil)))) pss_never pss_nil
      apply pss_cons
      · exact ps_if (PW.pt (pw_or (pt_cmpR op_isN (pv 1) pe_non (nomark _)) (pw_or1 (pt_val (pe_callB call_isi (by rfl) T.zIsi (by decide +kernel) (pa_cons (pv 1) (pa_cons (pe_bltn (v := .ty "str") (by rfl) T.zStr (by decide +kernel) rfl) pa_nil))))))) pss_never pss_nil
      apply pss_one
      exact ps_ret (pe_and (pe_callB call_isi (by rfl) T.zIsi (by decide +kernel) (pa_cons (pv 0) (pa_cons (pe_bltn (v := .ty "int") (by rfl) T.zInt (by decide +kernel) rfl) pa_nil)))
        (pe_and (pe_cmpR op_eq (pe_callB call_isi (by rfl) T.zIsi (by decide +kernel) (pa_cons (pv 0) (pa_cons (pe_bltn (v := .ty "bool") (by rfl) T.zBool (by decide +kernel) rfl) pa_nil))) (pe_callB call_isi (by rfl) T.zIsi (by decide +kernel) (pa_cons (pv 1) (pa_cons (pe_bltn (v := .ty "bool") (by rfl) T.zBool (by decide +kernel) rfl) pa_nil))) (nomark _))
        (pe_one (pe_cmpR op_eq (pv 0) (pv 1) (nomark _)))))
    obtain ⟨ty, b2, hT, h1, h2, h3, h4, h5, h6, h7⟩ : ∃ (ty : String) (b2 : Bool), flatT u = some ty ∧ kitB ty "tuple" = some false ∧ kitB ty "list" = some false ∧ kitB ty "str" = some false ∧ kitB ty "int" = some true ∧ kitB ty "bool" = some b2 ∧ scal u u = true ∧ decide (u = V.non) = false := by
      rcases hv with ⟨i, rfl⟩ | ⟨b, rfl⟩
      · exact ⟨"int", false, rfl, by decide +kernel, by decide +kernel, by decide +kernel, by decide +kernel, by decide +kernel, rfl, rfl⟩
      · exact ⟨"bool", true, rfl, by decide +kernel, by decide +kernel, by decide +kernel, by decide +kernel, by decide +kernel, rfl, rfl⟩
    refine ⟨_, rfl, by show 2 ≤ sizeLine; decide, fun p n => ⟨u, p, _, .type ty, [.type "tuple", .type "list"], false, rfl, upd_same, .cons (.ty _) (.cons (.ty _) .nil), flatT_ty hT, kitAny2 h1 h2, false, rfl, ?_⟩⟩
    have s1 : Same H (upd H p (.tup [.ty "tuple", .ty "list"])) := same_upd n
    generalize upd H p (.tup [.ty "tuple", .ty "list"]) = H1 at s1 ⊢
    refine iteF ⟨_, rfl, rfl, _, rfl, ?_⟩
    rw [h7]
    refine iteF ⟨_, rfl, u, .ty "str", .type ty, .type "str", false, rfl, .ty _, flatT_ty hT, kit_ty h3, false, rfl, ?_⟩
    refine iteF ⟨_, rfl, u, .ty "int", .type ty, .type "int", true, rfl, .ty _, flatT_ty hT, kit_ty h4, true, rfl, ?_⟩
    refine iteT ⟨_, rfl, u, .ty "bool", .type ty, .type "bool", b2, rfl, .ty _, flatT_ty hT, kit_ty h5, ?_⟩
    refine ⟨_, rfl, u, .ty "bool", .type ty, .type "bool", b2, rfl, .ty _, flatT_ty hT, kit_ty h5, rfl, _, rfl, ?_⟩
    rw [show decide (V.bl b2 = V.bl b2) = true from decide_eq_true rfl]
    refine iteT ⟨_, rfl, _, rfl, h6, ?_⟩
    rw [show decide (u = u) = true from decide_eq_true rfl]
    exact q _ s1
theorem ok_alikeS {f : Addr} {fd : FuncData} {k n j : Nat} (hk : j ≤ k) (F : Fun K "_law_alike" "_law_alike" sAlike f fd) (T : Fx mg) (c1 : Cal72 P w K mg base j "_law_alike" (spAlike n)) : FnOk P w K mg base CX0 (k + 1) f fd ["_law_found", "_law_due"] (spAlike (n + 1)) := by
  refine F.ok scAlike (fun vs H Q E h => ?_) (fun cdv A outer s H vs Q E hr h => ?_)
  · obtain ⟨_, _, rfl, _⟩ := h
    rfl
  · obtain ⟨u, v, rfl, ⟨p, q', xs, ys, rfl, rfl, hxy, hlen, hpr⟩, q⟩ := h
    apply Exists.intro
    apply And.intro
    · apply pss_cons
      · exact ps_if (pt_val (pe_callB call_isiT (by rfl) T.zIsi (by decide +kernel) (pa_cons (pv 1) (pa_cons (pe_tup (pa_cons (pe_bltn (v := .ty "tuple") (by rfl) T.zTuple (by decide +kernel) rfl) (pa_cons (pe_bltn (v := .ty "list") (by rfl) T.zList (by decide +kernel) rfl) pa_nil))) pa_nil))))
          (pss_cons (ps_if (PW.pt (pw_or (pt_not (pt_val (pe_callB call_isiT (by rfl) T.zIsi (by decide +kernel) (pa_cons (pv 0) (pa_cons (pe_tup (pa_cons (pe_bltn (v := .ty "tuple") (by rfl) T.zTuple (by decide +kernel) rfl) (pa_cons (pe_bltn (v := .ty "list") (by rfl) T.zList (by decide +kernel) rfl) pa_nil))) pa_nil)))))
              (pw_or1 (pt_cmpR op_ne (pe_callB call_isi (by rfl) T.zIsi (by decide +kernel) (pa_cons (pv 0) (pa_cons (pe_bltn (v := .ty "list") (by rfl) T.zList (by decide +kernel) rfl) pa_nil))) (pe_callB call_isi (by rfl) T.zIsi (by decide +kernel) (pa_cons (pv 1) (pa_cons (pe_bltn (v := .ty "list") (by rfl) T.zList (by decide +kernel) rfl) pa_nil))) (nomark _))))) pss_never pss_nil)
          (pss_cons (ps_if (pt_cmpR op_ne (pe_callB call_len_seq (by rfl) T.zLen PySem.boot_len (pa_cons (pv 0) pa_nil)) (pe_callB call_len_seq (by rfl) T.zLen PySem.boot_len (pa_cons (pv 1) pa_nil)) (nomark _)) pss_never pss_nil)
          (pss_one (ps_ret (pe_cmpR (op_eqD hr.units)
            (pe_lc (own := [("_law_k", 2)]) (g := gName 2) (tt := tNot (tB (tCall (spAlike n) [] C8.E0 (tCons (tOp (rIx K) (tVar 0) (tVar 2)) (tCons (tOp (rIx K) (tVar 1) (tVar 2)) tNil))))) (te := tVar 2) rfl scAlike.nd
              (pi_range1 (by rfl) T.zRange (pa_cons (pe_callB call_len_seq (by rfl) T.zLen PySem.boot_len (pa_cons (pv 1) pa_nil)) pa_nil))
              (blkOk_by (own := [("_law_k", 2)]) (N := nAlike) (sc := defScope sAlike) (by decide +kernel))
              (fun _ _ _ _ _ => pg_name (i := 2) scAlike.nd rfl (Or.inl rfl))
              (fun _ _ _ _ _ => pts_one (pt_not (pt_val (C8.pe_c c1 hr hk (by rfl) (pa_cons (pe_ix ix_seq (pv 0) (pv 2) (fun _ _ => rfl)) (pa_cons (pe_ix ix_seq (pv 1) (pv 2) (fun _ _ => rfl)) pa_nil))))))
              (fun _ _ _ _ _ => pv 2)) (pe_lst pa_nil) (nomark _)))))) pss_nil
      exact pss_never
    have len2 := Paired.len hpr
    have kinds : ∀ H', Same H H' → ∃ ty bl, TyX K H' (.ref p) (.type ty) ∧ TyX K H' (.ref q') (.type ty) ∧ kitB ty "list" = some bl ∧ (∃ bt, kitB ty "tuple" = some bt ∧ (bt || bl) = true) := by
      intro H' s1
      rcases hxy with ⟨e1, e2⟩ | ⟨e1, e2⟩
      · exact ⟨"list", true, .base (.lst (s1 _ _ e1)), .base (.lst (s1 _ _ e2)), by decide +kernel, false, by decide +kernel, rfl⟩
      · exact ⟨"tuple", false, .base (.tup (s1 _ _ e1)), .base (.tup (s1 _ _ e2)), by decide +kernel, true, by decide +kernel, rfl⟩
    have sq : ∀ H', Same H H' → (SqL K H' p xs ∨ SqT K H' p xs) ∧ (SqL K H' q' ys ∨ SqT K H' q' ys) := by
      intro H' s1
      rcases hxy with ⟨e1, e2⟩ | ⟨e1, e2⟩
      · exact ⟨.inl (SqL.of (s1 _ _ e1)), .inl (SqL.of (s1 _ _ e2))⟩
      · exact ⟨.inr (SqT.of (s1 _ _ e1)), .inr (SqT.of (s1 _ _ e2))⟩
    refine ⟨_, rfl, by show 2 ≤ sizeLine; decide, fun p1 n1 => ?_⟩
    have s1 : Same H (upd H p1 (.tup [.ty "tuple", .ty "list"])) := same_upd n1
    obtain ⟨ty, bl, t1, t2, k1, bt, k2, k3⟩ := kinds _ s1
    refine ⟨_, p1, _, .type ty, [.type "tuple", .type "list"], _, rfl, upd_same, .cons (.ty _) (.cons (.ty _) .nil), t2, kitAny2 k2 k1, true, by rw [k3], ?_⟩
    clear t1 t2
    generalize upd H p1 (.tup [.ty "tuple", .ty "list"]) = H1 at s1 ⊢
    refine iteT ?_
    refine ⟨_, rfl, by show 2 ≤ sizeLine; decide, fun p2 n2 => ?_⟩
    have s2 : Same H1 (upd H1 p2 (.tup [.ty "tuple", .ty "list"])) := same_upd n2
    obtain ⟨ty, bl, t1, t2, k1, bt, k2, k3⟩ := kinds _ (s1.trans s2)
    refine ⟨_, p2, _, .type ty, [.type "tuple", .type "list"], _, rfl, upd_same, .cons (.ty _) (.cons (.ty _) .nil), t1, kitAny2 k2 k1, true, by rw [k3], ?_⟩
    refine iteF ?_
    refine ⟨_, rfl, _, .ty "list", .type ty, .type "list", bl, rfl, .ty _, t1, kit_ty k1, ?_⟩
    refine ⟨_, rfl, _, .ty "list", .type ty, .type "list", bl, rfl, .ty _, t2, kit_ty k1, rfl, _, rfl, ?_⟩
    rw [show (!decide (V.bl bl = V.bl bl)) = false by rw [decide_eq_true rfl]; rfl]
    refine iteF ?_
    clear t1 t2
    have s12 := s1.trans s2
    generalize upd H1 p2 (.tup [.ty "tuple", .ty "list"]) = H2 at s12 ⊢
    clear s2 s1 n2
    obtain ⟨z1, z2⟩ := sq _ s12
    refine ⟨_, rfl, p, xs, rfl, z1, _, rfl, q', ys, rfl, z2, rfl, _, rfl, ?_⟩
    rw [len2, show (!decide (V.int (ys.length : Int) = V.int (ys.length : Int))) = false by rw [decide_eq_true rfl]; rfl]
    refine iteF ?_
    have l62 : (ys.length : Int) < 2 ^ 62 := Int.lt_of_le_of_lt (show (ys.length : Int) ≤ 1000 by omega) (by decide)
    refine ⟨_, rfl, q', ys, rfl, z2, _, rfl, by omega, l62, ?_⟩
    rw [Int.toNat_natCast]
    intro D hD
    refine lc_fun ext_same (bs := ys) (walk_range (lo := 0) (n := ys.length)) (fun _ => false) (fun v => v) (fun _ y c => y = c) (fun _ h => h) hD (Same.refl _) (by omega) (fun _ _ => trivial) ?_ ?_
    · rintro i x b H3 H4 NT NF hb s3 ⟨rfl, rfl⟩ ht hf
      have hi : i < ys.length := (List.getElem?_eq_some_iff.mp hb).1
      obtain ⟨a, ha, hal⟩ := Paired.at' hpr hb
      obtain ⟨w1, w2⟩ := sq _ (s12.trans s3)
      have at1 : atI xs (0 + (i : Int)) = some a := by
        unfold atI ixN
        rw [if_pos (by omega), if_pos (by omega)]
        show xs[(0 + (i : Int)).toNat]? = _
        rw [show (0 + (i : Int)).toNat = i by omega]
        exact ha
      have at2 : atI ys (0 + (i : Int)) = some b := by
        unfold atI ixN
        rw [if_pos (by omega), if_pos (by omega)]
        show ys[(0 + (i : Int)).toNat]? = _
        rw [show (0 + (i : Int)).toNat = i by omega]
        exact hb
      have ix1 : ∀ {R : VK}, R a H4 → rIx K (.ref p) (.int (0 + (i : Int))) H4 R := by
        intro R r
        rcases w1 with w1 | w1
        · exact .inl ⟨p, xs, _, a, rfl, rfl, w1, at1, r⟩
        · exact .inr (.inl ⟨p, xs, _, a, rfl, rfl, w1, at1, r⟩)
      have ix2 : ∀ {R : VK}, R b H4 → rIx K (.ref q') (.int (0 + (i : Int))) H4 R := by
        intro R r
        rcases w2 with w2 | w2
        · exact .inl ⟨q', ys, _, b, rfl, rfl, w2, at2, r⟩
        · exact .inr (.inl ⟨q', ys, _, b, rfl, rfl, w2, at2, r⟩)
      refine ⟨rfl, _, rfl, _, rfl, ix1 ⟨_, rfl, _, rfl, ix2 ⟨a, b, rfl, Alk.sm (s12.trans s3) hal, fun H5 s5 => ⟨true, rfl, ?_⟩⟩⟩⟩
      exact hf rfl _ s5
    · intro H3 zs s3 hD3 r
      have e0 : (ys.filter fun _ => false).map (fun v : V => v) = [] := by simp
      rw [e0] at r
      cases r
      refine ⟨by show 0 ≤ sizeLine; decide, fun p3 n3 => ?_⟩
      have s4 : Same H3 (upd H3 p3 (.lst [])) := same_upd n3
      refine ⟨.list [], .list [], .lst (SqL.of (s4 _ _ hD3)) .nil, .lst (SqL.of upd_same) .nil, by decide +kernel, by decide +kernel, ?_⟩
      exact q _ (s12.trans (s3.trans s4))
end
end B72
set_option Elab.async false
set_option linter.all false
set_option maxRecDepth 100000
set_option maxHeartbeats 4000000
/-! _law_simplex. -/
namespace B72
open PySem PySem.Spec PyProof.Rows L2 R72 Mk72
theorem mapErase : ∀ (l : List Int) (k : Nat), (l.map V.int).eraseIdx k = (l.eraseIdx k).map V.int
  | [], _ => rfl
  | _ :: _, 0 => rfl
  | a :: l, k + 1 => by
    show V.int a :: (l.map V.int).eraseIdx k = V.int a :: (l.eraseIdx k).map V.int
    rw [mapErase l k]
theorem permErase : ∀ (l : List Int) (k : Nat) (h : k < l.length), (l[k] :: l.eraseIdx k).Perm l
  | a :: l, 0, _ => .refl _
  | a :: l, k + 1, h => by
    have h' : k < l.length := by simpa using h
    refine .trans (.swap a l[k] (l.eraseIdx k)) ?_
    exact .cons a (permErase l k h')
def rgI (m : Int) : List Int := (List.range (m - 0).toNat).map fun i => (0 : Int) + (i : Nat)
theorem rgI_V (m : Int) : rgV 0 m = (rgI m).map V.int := by
  unfold rgV rgI
  rw [List.map_map]
  rfl
theorem mem_rgI {m x : Int} : x ∈ rgI m ↔ 0 ≤ x ∧ x < m := by
  unfold rgI
  rw [List.mem_map]
  constructor
  · rintro ⟨i, hi, rfl⟩
    rw [List.mem_range] at hi
    omega
  · rintro ⟨h1, h2⟩
    exact ⟨x.toNat, List.mem_range.mpr (by omega), by omega⟩
theorem rgI_len (m : Int) : (rgI m).length = m.toNat := by
  unfold rgI
  rw [List.length_map, List.length_range]
  omega
theorem rgI_up (m : Int) : (rgI m).Pairwise (· < ·) := by
  unfold rgI
  rw [List.pairwise_map]
  exact List.pairwise_lt_range.imp fun h => by omega
section
variable {P : Program} {w : World} {K : PySem.W.Frag} {mg : Str → Option Value} {base : Heap}
def spLSx (K : PySem.W.Frag) : Sp := fun vs H Q _ => ∃ sa ns r most size, vs = [.ref r, .int most, .int size] ∧ Row K sa ns r H ∧ 0 < most ∧ most ≤ 7 ∧ 0 < size ∧ size ≤ 1000 ∧ ∀ H' v s, RowUp K sa ns r H H' → IsS H' v s → Ok s → Q v H'
abbrev nLSx : List Str := ["_law_row", "_law_most", "_law_size", "_law_left", "_law_found", "_law_turn"]
theorem scLSx : FnScope nLSx ["_law_row", "_law_most", "_law_size"] (defScope sLSx) := ⟨rfl, rfl, rfl, by decide +kernel, rfl, by decide +kernel, by decide +kernel⟩
theorem ok_lsx {f : Addr} {fd : FuncData} {k : Nat} (hk : 1 ≤ k) (F : Fun K "_law_simplex" "_law_simplex" sLSx f fd) (T : Fx mg) (c1 : Cal72 P w K mg base 1 "_law_taken" (spTaken K)) : FnOk P w K mg base CX0 (k + 1) f fd ["_law_row", "_law_most", "_law_size"] (spLSx K) := by
  refine F.ok scLSx (fun vs H Q E h => ?_) (fun cdv A outer s H vs Q E hr h => ?_)
  · obtain ⟨_, _, _, _, _, rfl, _⟩ := h
    rfl
  · obtain ⟨sa, ns, r, most, size, rfl, hrow, hm0, hm1, hz0, hz1, q⟩ := h
    apply Exists.intro
    apply And.intro
    · apply pss_cons
      · exact ps_par (i := 3) (j := 4) (by rfl) scLSx.nd rfl rfl (by decide) rfl rfl (pa_cons (pe_listRg rfl (by rfl) T.zList (prg_1 (by rfl) T.zRange (pv 1))) (pa_cons (pe_lst pa_nil) pa_nil)) (by rfl)
      apply pss_cons
      · exact ps_for PassesOwn.never rfl (pi_range1 (by rfl) T.zRange (pa_cons (pe_callB (call_min2 rfl) (by rfl) T.zMin (by decide +kernel) (pa_cons (pv 1) (pa_cons (pe_op op_add pe_int (C8.pe_c c1 hr hk (by rfl) (pa_cons (pv 0) (pa_cons (pv 2) pa_nil)))) pa_nil))) pa_nil)) (pg_name (i := 5) scLSx.nd rfl (.inl rfl))
          (pss_one (ps_expr (pe_bm PySem.F.plainAttrs_list PySem.F.slot_list_append PySem.F.type_list_append mt_append (pv 4) (pa_cons
            (pe_bm PySem.F.plainAttrs_list PySem.F.slot_list_pop PySem.F.type_list_pop mt_popAt (pv 3) (pa_cons (C8.pe_c c1 hr hk (by rfl) (pa_cons (pv 0) (pa_cons (pe_callB call_len_seq (by rfl) T.zLen PySem.boot_len (pa_cons (pv 3) pa_nil)) pa_nil))) pa_nil)) pa_nil))))
      apply pss_one
      exact ps_ret (pe_callTy call_tuple_of (by rfl) T.zTuple (by decide +kernel) (pa_cons (pe_callB cr_sortedI (by rfl) T.zSorted (by decide +kernel) (pa_cons (pv 4) pa_nil)) pa_nil))
    refine ⟨_, rfl, most, rfl, RgOk.of_le (by decide) (by omega) (by decide) (by omega), fun pl npl => ?_⟩
    rw [rgI_V]
    refine ⟨by show 0 ≤ sizeLine; decide, fun pf npf => ⟨_, _, rfl, ?_⟩⟩
    have u1 : RowUp K sa ns r H (upd H pl (.lst ((rgI most).map V.int))) := RowUp.of hrow (same_upd npl)
    have u2 : RowUp K sa ns r H (upd (upd H pl (.lst ((rgI most).map V.int))) pf (.lst [])) := u1.same (same_upd npf)
    have nfl : pf ≠ pl := fun z => by
      rw [z, upd_same] at npf
      cases npf
    have el : (upd (upd H pl (.lst ((rgI most).map V.int))) pf (.lst [])) pl = some (.lst ((rgI most).map V.int)) := by rw [upd_ne nfl.symm, upd_same]
    have ef : (upd (upd H pl (.lst ((rgI most).map V.int))) pf (.lst [])) pf = some (.lst (([] : List Int).map V.int)) := upd_same
    have npf0 : H pf = none := by rw [upd_ne nfl] at npf; exact npf
    generalize upd (upd H pl (.lst ((rgI most).map V.int))) pf (.lst []) = H2 at u2 el ef ⊢
    have rl : pl ≠ r := hrow.rn npl
    have rf : pf ≠ r := hrow.rn npf0
    refine ⟨_, rfl, _, rfl, _, rfl, sa, ns, r, size, rfl, u2.2.2, hz0, by omega, fun H3 x u3 hx0 hx1 => ?_⟩
    have u3' := u2.trans u3
    have el3 := u3.1 _ _ rl el
    have ef3 := u3.1 _ _ rf ef
    refine ⟨1, x, rfl, rfl, most, 1 + x, rfl, ?_⟩
    obtain ⟨n, en, hn0, hn1⟩ : ∃ n : Nat, (if 1 + x < most then 1 + x else most) = (n : Int) ∧ 0 < n ∧ (n : Int) ≤ most := by
      split
      · exact ⟨(1 + x).toNat, by omega, by omega, by omega⟩
      · exact ⟨most.toNat, by omega, by omega, by omega⟩
    rw [en]
    refine ⟨_, rfl, by omega, Int.lt_of_le_of_lt (show (n : Int) ≤ 7 by omega) (by decide), ?_⟩
    rw [Int.toNat_natCast]
    refine for_range (lo := 0) (n := n) (fun j σ H' => ∃ o5, ∃ left found : List Int, σ = [some (.ref r), some (.int most), some (.int size), some (.ref pl), some (.ref pf), o5] ∧ RowUp K sa ns r H H' ∧ H' pl = some (.lst (left.map V.int)) ∧ H' pf = some (.lst (found.map V.int)) ∧ found.length = j ∧ (found ++ left).Perm (rgI most))
      ⟨none, rgI most, [], rfl, u3', el3, ef3, rfl, .refl _⟩ ?_ ?_
    · rintro j σ H' hj ⟨o5, left, found, rfl, u, e1, e2, hlen, perm⟩
      have hl := perm.length_eq
      rw [List.length_append, rgI_len, hlen] at hl
      have hpos : 0 < left.length := by omega
      refine ⟨_, rfl, ?_⟩
      refine ⟨.inl ⟨rfl, _, SqL.of e2⟩, ?_⟩
      refine ⟨_, rfl, .inl ⟨rfl, _, SqL.of e1⟩, _, rfl, _, rfl, pl, _, rfl, .inl (SqL.of e1), sa, ns, r, _, rfl, u.2.2, by rw [List.length_map]; omega, by rw [List.length_map]; omega, fun H5 y u5 hy0 hy1 => ?_⟩
      rw [List.length_map] at hy1
      have e15 := u5.1 _ _ rl e1
      have e25 := u5.1 _ _ rf e2
      have hyn : y.toNat < left.length := by omega
      have hix : ixN (left.map V.int).length y = some y.toNat := by
        unfold ixN
        rw [if_pos hy0, if_pos (by rw [List.length_map]; omega)]
      refine ⟨pl, _, y, y.toNat, .int left[y.toNat], rfl, rfl, e15, by omega, by omega, (ixN_seq hix).1, by rw [List.getElem?_map, List.getElem?_eq_getElem hyn]; rfl, ?_⟩
      have uu := u.trans u5
      have uu2 : RowUp K sa ns r H (upd H5 pl (.lst ((left.eraseIdx y.toNat).map V.int))) := ext_row.md _ uu npl
      rw [show (left.map V.int).eraseIdx y.toNat = (left.eraseIdx y.toNat).map V.int from mapErase left y.toNat]
      refine ⟨pf, found.map V.int, .int left[y.toNat], rfl, rfl, by rw [upd_ne nfl]; exact e25, ?_, ?_⟩
      · rw [List.length_map, hlen]
        exact Nat.lt_of_lt_of_le (show j < 8 by omega) (by decide)
      · refine ⟨_, left.eraseIdx y.toNat, found ++ [left[y.toNat]], rfl, ext_row.md _ uu2 npf0, by rw [upd_ne nfl.symm, upd_same], by rw [upd_same, List.map_append]; rfl, by rw [List.length_append, hlen]; rfl, ?_⟩
        rw [List.append_assoc]
        refine .trans (List.Perm.append_left found ?_) perm
        exact permErase left _ hyn
    · rintro σ H' ⟨o5, left, found, rfl, u, e1, e2, hlen, perm⟩
      refine ⟨_, rfl, pf, found, rfl, SqL.of e2, fun ms p perm2 pw np => ?_⟩
      refine ⟨p, _, rfl, .inl ⟨SqL.of upd_same, fun l nl => ?_⟩⟩
      have s1 : Same H' (upd H' p (.lst (ms.map V.int))) := same_upd np
      have s2 := same_upd (o := .tup (ms.map V.int)) nl
      refine q _ _ ms (u.same (s1.trans s2)) ⟨l, rfl, upd_same⟩ ⟨fun z => ?_, lt_of_le_nd pw ?_, fun v hv => ?_⟩
      · rw [z] at perm2
        have := perm2.length_eq
        simp at this
        omega
      · refine perm2.nodup_iff.mpr ?_
        have nd : (found ++ left).Nodup := perm.nodup_iff.mpr (up_nodup (rgI_up most))
        exact (List.nodup_append.mp nd).1
      · have h1 : v ∈ rgI most := perm.mem_iff.mp (List.mem_append_left _ (perm2.mem_iff.mp hv))
        have h2 := mem_rgI.mp h1
        omega
end
end B72
set_option Elab.async false
set_option linter.all false
set_option maxRecDepth 100000
set_option maxHeartbeats 4000000
/-! _law_simplices (its text printed by genL4.py). -/
namespace B72
open PySem PySem.Spec PyProof.Rows L2 R72 Mk72
theorem ok_sorted {l ms : List Int} (perm : ms.Perm l) (pw : ms.Pairwise (· ≤ ·)) (nd : l.Nodup) (ne : l ≠ []) (bd : ∀ v ∈ l, 0 ≤ v ∧ v < 7) : Ok ms := by
  refine ⟨fun z => ?_, lt_of_le_nd pw (perm.nodup_iff.mpr nd), fun v hv => bd v (perm.mem_iff.mp hv)⟩
  rw [z] at perm
  exact ne perm.nil_eq.symm
theorem walk_rg (m : Int) : Walk (Itr 0 m.toNat) (rgI m).length (fun _ => True) (YFn fun i => .int (0 + (i : Nat))) := by
  rw [rgI_len]
  exact walk_range
theorem get_rg {m b : Int} {i : Nat} (h : (rgI m)[i]? = some b) : b = 0 + (i : Int) ∧ b < m := by
  have hb := List.mem_of_getElem? h
  unfold rgI at h
  rw [List.getElem?_map] at h
  cases e : (List.range (m - 0).toNat)[i]? with
  | none => rw [e] at h; cases h
  | some j =>
    rw [e] at h
    have h' : (0 : Int) + (j : Nat) = b := Option.some.inj h
    have hj := List.getElem?_eq_some_iff.mp e
    obtain ⟨h1, h2⟩ := hj
    rw [List.getElem_range] at h2
    subst h2
    exact ⟨h'.symm, (mem_rgI.mp hb).2⟩
def outI (m a : Int) : List Int := (rgI m).filter fun v => decide (v ≠ a)
theorem ok_out {m a : Int} (h : 2 ≤ m) (h7 : m ≤ 7) : Ok (outI m a) := by
  refine ⟨fun z => ?_, (rgI_up m).filter _, fun v hv => ?_⟩
  · have h0 : (0 : Int) ∉ outI m a := by rw [z]; exact List.not_mem_nil
    have h1 : (1 : Int) ∉ outI m a := by rw [z]; exact List.not_mem_nil
    unfold outI at h0 h1
    rw [List.mem_filter, decide_eq_true_eq] at h0 h1
    have m0 : (0 : Int) ∈ rgI m := mem_rgI.mpr (by omega)
    have m1 : (1 : Int) ∈ rgI m := mem_rgI.mpr (by omega)
    have e0 : ¬ ((0 : Int) ≠ a) := fun q => h0 ⟨m0, q⟩
    have e1 : ¬ ((1 : Int) ≠ a) := fun q => h1 ⟨m1, q⟩
    omega
  · have := mem_rgI.mp (List.mem_filter.mp hv).1
    omega
section
variable {P : Program} {w : World} {K : PySem.W.Frag} {mg : Str → Option Value} {base : Heap}
theorem cut {R G : Prop} (m : R → G) (p : R) : G := m p
theorem step_tup {sa : Addr} {ns : List Int} {r : Addr} {H0 H : Hp} {xs : List V} {ss : List Sx} {p : Addr} {o : HO} (s : Sx) (ho : o = .tup (s.map V.int)) (u : RowUp K sa ns r H0 H) (h : IsSs H xs ss) (n : H p = none) :
    RowUp K sa ns r H0 (upd H p o) ∧ IsSs (upd H p o) (xs ++ [.ref p]) (ss ++ [s]) :=
  ⟨u.same (same_upd n), Paired.snoc ⟨p, rfl, by rw [upd_same, ho]⟩ (IsSs.kt (Same.kt (same_upd n)) h)⟩
def rTupOf (K : PySem.W.Frag) : List V → Hp → VK → Prop := fun xs H Q => ∃ p ys, xs = [.ref p] ∧ ((SqL K H p ys ∧ ∀ l, H l = none → Q (.ref l) (upd H l (.tup ys))) ∨ (SqT K H p ys ∧ Q (.ref p) H))
def spLSxs (K : PySem.W.Frag) : Sp := fun vs H Q _ => ∃ sa ns r most size, vs = [.ref r, .int most, .int size] ∧ Row K sa ns r H ∧ 5 < most ∧ most ≤ 7 ∧ 2 < size ∧ size ≤ 1000 ∧ ∀ H' v ss, RowUp K sa ns r H H' → TupSs H' v ss → (∀ s ∈ ss, Ok s) → ss.length ≤ 20 → Q v H'
abbrev nLSxs : List Str := ["_law_row", "_law_most", "_law_size", "_law_way", "_law_many", "_law_vertex", "_law_at", "_law_found", "_law_turn"]
theorem scLSxs : FnScope nLSxs ["_law_row", "_law_most", "_law_size"] (defScope sLSxs) := ⟨rfl, rfl, rfl, by decide +kernel, rfl, by decide +kernel, by decide +kernel⟩
abbrev sc0 : Scope := { kind := .function, names := [(".0", .local), ("_law_at", .cell), ("tuple", .globalImplicit), ("range", .globalImplicit), ("_law_many", .cell)], isGenerator := false, isCoroutine := false }
abbrev tInner (K : PySem.W.Frag) : TE := tCB (rTupOf K) (tCons (tLc (iRng1 (tCons (tVar 4) tNil)) (gName 5) (tTest (tOp rNe (tVar 5) (tVar 6))) (tVar 5) [5]) tNil)
abbrev tPairI (K : PySem.W.Frag) : TE := tCB (rTupOf K) (tCons (tCB (rSortedI K) (tCons (tLst (tCons (tVar 6) (tCons (tOp (rI (fun _ j => 0 < j) fun i j => .int (i % j)) (tCB (fun xs H Q => (∃ i, xs = [.int i] ∧ Q (.int i) H) ∨ ∃ k, xs = [.bl k] ∧ Q (.int (if k then 1 else 0)) H) (tCons (tOp (rI0 fun i j => .int (i + j)) (tVar 6) (tC (.int 1))) tNil)) (tVar 4)) tNil))) tNil)) tNil)
theorem ok_lsxs {f : Addr} {fd : FuncData} {k : Nat} (hk : 2 ≤ k) (F : Fun K "_law_simplices" "_law_simplices" sLSxs f fd) (T : Fx mg) (c1 : Cal72 P w K mg base 1 "_law_taken" (spTaken K)) (c2 : Cal72 P w K mg base 2 "_law_simplex" (spLSx K)) :
    FnOk P w K mg base CX0 (k + 1) f fd ["_law_row", "_law_most", "_law_size"] (spLSxs K) := by
  refine F.ok scLSxs (fun vs H Q E h => ?_) (fun cdv A outer s H vs Q E hr h => ?_)
  · obtain ⟨_, _, _, _, _, rfl, _⟩ := h
    rfl
  · obtain ⟨sa, ns, r, most, size, rfl, hrow, hm0, hm1, hz0, hz1, q⟩ := h
    apply Exists.intro
    apply And.intro
    · apply pss_cons
      · exact ps_set (i := 3) scLSxs.nd rfl (.inl rfl) (C8.pe_c c1 hr (by omega) (by rfl) (pa_cons (pv 0) (pa_cons pe_int pa_nil)))
      apply pss_cons
      · exact ps_if (pt_cmpR op_eq (pv 3) pe_int (nomark _))
          (pss_cons (ps_set (i := 4) scLSxs.nd rfl (.inr rfl) (pe_op op_add pe_int (C8.pe_c c1 hr (by omega) (by rfl) (pa_cons (pv 0) (pa_cons (pe_callB (call_min2 rfl) (by rfl) T.zMin (by decide +kernel) (pa_cons (pe_op op_sub (pv 1) pe_int) (pa_cons (pv 2) pa_nil))) pa_nil)))))
          (pss_one (ps_ret (pe_callTy call_tuple_of (by rfl) T.zTuple (by decide +kernel) (pa_cons
            (pe_lc (own := [("_law_at", 6)]) (g := gName 6) (tt := tYes) (te := tInner K) rfl scLSxs.nd (pi_range1 (by rfl) T.zRange (pa_cons (pv 4) pa_nil))
              (blkOk_by (own := [("_law_at", 6)]) (N := nLSxs) (sc := defScope sLSxs) (by decide +kernel))
              (fun _ _ _ _ _ => pg_name (i := 6) scLSxs.nd rfl (.inr rfl)) (fun _ _ _ _ _ => pts_nil)
              (fun _ _ _ _ _ => pe_callTy call_tuple_of (by rfl) T.zTuple (by decide +kernel) (pa_cons
                (pe_lc (own := [("_law_vertex", 5)]) (g := gName 5) (tt := tTest (tOp rNe (tVar 5) (tVar 6))) (te := tVar 5) rfl scLSxs.nd (pi_range1 (by rfl) T.zRange (pa_cons (pv 4) pa_nil))
                  (blkOk_by (own := [("_law_vertex", 5)]) (N := nLSxs) (sc := sc0) (by decide +kernel))
                  (fun _ _ _ _ _ => pg_name (i := 5) scLSxs.nd rfl (.inl rfl)) (fun _ _ _ _ _ => pts_one (pt_cmpR op_ne (pv 5) (pv 6) (nomark _))) (fun _ _ _ _ _ => pv 5)) pa_nil))) pa_nil))))) pss_nil
      apply pss_cons
      · exact ps_if (PW.pt (pw_and (pt_cmpR op_eq (pv 3) pe_int (nomark _)) (pw_and (pt_cmpR op_gt (pv 1) pe_int (nomark _)) (pw_and1 (pt_cmpR op_gt (pv 2) pe_int (nomark _))))))
          (pss_one (ps_ret (pe_tup (pa_cons (pe_tup (pa_cons pe_int (pa_cons pe_int (pa_cons pe_int pa_nil)))) (pa_cons (pe_tup (pa_cons pe_int (pa_cons pe_int (pa_cons pe_int pa_nil)))) (pa_cons (pe_tup (pa_cons pe_int (pa_cons pe_int (pa_cons pe_int pa_nil)))) (pa_cons (pe_tup (pa_cons pe_int (pa_cons pe_int (pa_cons pe_int pa_nil)))) (pa_cons (pe_tup (pa_cons pe_int (pa_cons pe_int (pa_cons pe_int pa_nil)))) (pa_cons (pe_tup (pa_cons pe_int (pa_cons pe_int (pa_cons pe_int pa_nil)))) (pa_cons (pe_tup (pa_cons pe_int (pa_cons pe_int (pa_cons pe_int pa_nil)))) (pa_cons (pe_tup (pa_cons pe_int (pa_cons pe_int (pa_cons pe_int pa_nil)))) (pa_cons (pe_tup (pa_cons pe_int (pa_cons pe_int (pa_cons pe_int pa_nil)))) (pa_cons (pe_tup (pa_cons pe_int (pa_cons pe_int (pa_cons pe_int pa_nil)))) pa_nil))))))))))))) pss_nil
      apply pss_cons
      · exact ps_if (PW.pt (pw_and (pt_cmpR op_eq (pv 3) pe_int (nomark _)) (pw_and (pt_cmpR op_gt (pv 1) pe_int (nomark _)) (pw_and1 (pt_cmpR op_gt (pv 2) pe_int (nomark _))))))
          (pss_cons (ps_set (i := 7) scLSxs.nd rfl (.inl rfl) (pe_lst pa_nil))
          (pss_cons (ps_for PassesOwn.never rfl (pi_range1 (by rfl) T.zRange (pa_cons pe_int pa_nil)) (pg_name (i := 6) scLSxs.nd rfl (.inl rfl))
            (pss_cons (ps_expr (pe_bm PySem.F.plainAttrs_list PySem.F.slot_list_append PySem.F.type_list_append mt_append (pv 7) (pa_cons (pe_callTy call_tuple_of (by rfl) T.zTuple (by decide +kernel) (pa_cons (pe_callB cr_sortedI (by rfl) T.zSorted (by decide +kernel) (pa_cons (pe_lst (pa_cons (pv 6) (pa_cons (pe_op op_mod (pe_callTy call_int1 (by rfl) T.zInt (by decide +kernel) (pa_cons (pe_op op_add (pv 6) pe_int) pa_nil)) pe_int) (pa_cons (pe_op op_mod (pe_callTy call_int1 (by rfl) T.zInt (by decide +kernel) (pa_cons (pe_op op_add (pv 6) pe_int) pa_nil)) pe_int) pa_nil)))) pa_nil)) pa_nil)) pa_nil)))
            (pss_one (ps_expr (pe_bm PySem.F.plainAttrs_list PySem.F.slot_list_append PySem.F.type_list_append mt_append (pv 7) (pa_cons (pe_callTy call_tuple_of (by rfl) T.zTuple (by decide +kernel) (pa_cons (pe_callB cr_sortedI (by rfl) T.zSorted (by decide +kernel) (pa_cons (pe_lst (pa_cons (pv 6) (pa_cons (pe_op op_mod (pe_callTy call_int1 (by rfl) T.zInt (by decide +kernel) (pa_cons (pe_op op_add (pv 6) pe_int) pa_nil)) pe_int) (pa_cons (pe_op op_mod (pe_callTy call_int1 (by rfl) T.zInt (by decide +kernel) (pa_cons (pe_op op_add (pv 6) pe_int) pa_nil)) pe_int) pa_nil)))) pa_nil)) pa_nil)) pa_nil))))))
          (pss_one (ps_ret (pe_callTy call_tuple_of (by rfl) T.zTuple (by decide +kernel) (pa_cons (pv 7) pa_nil)))))) pss_nil
      apply pss_cons
      · exact ps_if (PW.pt (pw_and (pt_cmpR op_eq (pv 3) pe_int (nomark _)) (pw_and (pt_cmpR op_gt (pv 1) pe_int (nomark _)) (pw_and1 (pt_cmpR op_gt (pv 2) pe_int (nomark _))))))
          (pss_cons (ps_set (i := 4) scLSxs.nd rfl (.inr rfl) (pe_op op_add pe_int (C8.pe_c c1 hr (by omega) (by rfl) (pa_cons (pv 0) (pa_cons (pe_op op_sub (pv 1) pe_int) pa_nil)))))
          (pss_one (ps_ret (pe_callTy call_tuple_of (by rfl) T.zTuple (by decide +kernel) (pa_cons
            (pe_lc (own := [("_law_at", 6)]) (g := gName 6) (tt := tYes) (te := tPairI K) rfl scLSxs.nd (pi_range1 (by rfl) T.zRange (pa_cons (pv 4) pa_nil))
              (blkOk_by (own := [("_law_at", 6)]) (N := nLSxs) (sc := defScope sLSxs) (by decide +kernel))
              (fun _ _ _ _ _ => pg_name (i := 6) scLSxs.nd rfl (.inl rfl)) (fun _ _ _ _ _ => pts_nil)
              (fun _ _ _ _ _ => pe_callTy call_tuple_of (by rfl) T.zTuple (by decide +kernel) (pa_cons (pe_callB cr_sortedI (by rfl) T.zSorted (by decide +kernel) (pa_cons (pe_lst (pa_cons (pv 6) (pa_cons (pe_op op_mod (pe_callTy call_int1 (by rfl) T.zInt (by decide +kernel) (pa_cons (pe_op op_add (pv 6) pe_int) pa_nil)) (pv 4)) pa_nil))) pa_nil)) pa_nil))) pa_nil))))) pss_nil
      apply pss_one
      exact ps_ret (pe_callTy call_tuple_of (by rfl) T.zTuple (by decide +kernel) (pa_cons
            (pe_lc (own := [("_law_turn", 8)]) (g := gName 8) (tt := tYes) (te := tCall (spLSx K) [] C8.E0 (tCons (tVar 0) (tCons (tVar 1) (tCons (tVar 2) tNil)))) rfl scLSxs.nd (pi_range1 (by rfl) T.zRange (pa_cons (C8.pe_c c1 hr (by omega) (by rfl) (pa_cons (pv 0) (pa_cons pe_int pa_nil))) pa_nil))
              (blkOk_by (own := [("_law_turn", 8)]) (N := nLSxs) (sc := defScope sLSxs) (by decide +kernel))
              (fun _ _ _ _ _ => pg_name (i := 8) scLSxs.nd rfl (.inl rfl)) (fun _ _ _ _ _ => pts_nil)
              (fun _ _ _ _ _ => C8.pe_c c2 hr hk (by rfl) (pa_cons (pv 0) (pa_cons (pv 1) (pa_cons (pv 2) pa_nil))))) pa_nil))
    -- way
    refine ⟨_, rfl, sa, ns, r, 9, rfl, hrow, by decide, by decide, fun H1 way u1 hw0 hw1 => ?_⟩
    refine ⟨_, rfl, rfl, _, rfl, ?_⟩
    refine ite2 (fun _ => ?_) (fun _ => ?_)
    · -- the faces of a simplex
      refine ⟨_, rfl, _, rfl, most, 1, rfl, rfl, _, rfl, most - 1, size, rfl, ?_⟩
      obtain ⟨c, ec, hc0, hc1⟩ : ∃ c : Int, (if size < most - 1 then size else most - 1) = c ∧ 0 < c ∧ c ≤ most - 1 := by
        split
        · exact ⟨_, rfl, by omega, by omega⟩
        · exact ⟨_, rfl, by omega, by omega⟩
      rw [ec]
      refine ⟨sa, ns, r, c, rfl, u1.2.2, hc0, by omega, fun H2 x u2 hx0 hx1 => ?_⟩
      refine ⟨2, x, rfl, rfl, ?_⟩
      have u12 := u1.trans u2
      obtain ⟨m, em, hm2, hm7⟩ : ∃ m : Int, 2 + x = m ∧ 2 ≤ m ∧ m ≤ 7 := ⟨_, rfl, by omega, by omega⟩
      have m62 : m < 2 ^ 62 := Int.lt_of_le_of_lt hm7 (by decide)
      have m62' : -(2 ^ 62) ≤ m := Int.le_trans (by decide) (show (0 : Int) ≤ m by omega)
      refine ⟨_, rfl, m, congrArg (fun z => [V.int z]) em, m62', m62, fun D hD => ?_⟩
      refine lc_fun ext_same (bs := rgI m) (walk_rg m) (fun _ => true) (fun a => outI m a) IsS (fun kt h => h.kt kt) hD (Same.refl _) (by rw [rgI_len]; omega) (fun _ _ => trivial) ?_ ?_
      · rintro i x0 b H3 H4 NT NF hb s3 ⟨rfl, rfl⟩ ht hf
        obtain ⟨eb, _⟩ := get_rg hb
        refine ⟨rfl, _, rfl, m, congrArg (fun z => [V.int z]) em, m62', m62, fun D2 hD2 => ?_⟩
        refine lc_fun ext_same (bs := rgI m) (walk_rg m) (fun v => decide (v ≠ b)) (fun v => v) (fun _ y c => y = .int c) (fun _ h => h) hD2 (Same.refl _) (by rw [rgI_len]; omega) (fun _ _ => trivial) ?_ ?_
        · rintro j x1 b1 H5 H6 NT2 NF2 hb1 s5 ⟨rfl, rfl⟩ ht2 hf2
          obtain ⟨eb1, _⟩ := get_rg hb1
          refine ⟨rfl, _, rfl, _, rfl, rfl, _, rfl, ?_⟩
          by_cases h : b1 = b
          · have e : (!decide (V.int (0 + (j : Int)) = V.int (0 + (i : Int)))) = false := by rw [← eb, ← eb1, h, decide_eq_true rfl]; rfl
            rw [e]
            exact iteF (hf2 (decide_eq_false fun z => z h) _ (Same.refl _))
          · have e : (!decide (V.int (0 + (j : Int)) = V.int (0 + (i : Int)))) = true := by rw [← eb, ← eb1, decide_eq_false (fun z => h (V.int.inj z))]; rfl
            rw [e]
            exact iteT ⟨_, rfl, ht2 (decide_eq_true h) _ _ (Same.refl _) (congrArg V.int eb1.symm)⟩
        · intro H5 ys s5 hD5 r5
          have ey : ys = (outI m b).map V.int := by
            have e := Paired.eqv (g := V.int) r5
            rw [e, List.map_id']
            rfl
          refine ⟨D2, ys, rfl, .inl ⟨SqL.of hD5, fun l nl => ?_⟩⟩
          exact ht rfl _ _ (s5.trans (same_upd nl)) ⟨l, rfl, by rw [upd_same, ey]⟩
      · intro H5 ys s5 hD5 r5
        rw [filter_yes] at r5
        refine ⟨D, ys, rfl, .inl ⟨SqL.of hD5, fun l nl => ?_⟩⟩
        refine q _ _ _ (u12.same (s5.trans (same_upd nl))) ⟨l, ys, rfl, upd_same, IsSs.kt (Same.kt (same_upd nl)) r5⟩ (fun s hs => ?_) (by rw [List.length_map, rgI_len]; omega)
        obtain ⟨a, _, rfl⟩ := List.mem_map.mp hs
        exact ok_out hm2 hm7
    · refine ⟨_, rfl, rfl, _, rfl, ?_⟩
      refine ite2 (fun _ => ?_) (fun _ => ?_)
      · refine ⟨_, rfl, most, 5, rfl, rfl, _, rfl, ?_⟩
        rw [decide_eq_true hm0]
        refine iteT ⟨_, rfl, size, 2, rfl, rfl, _, rfl, ?_⟩
        rw [decide_eq_true hz0]
        refine iteT ?_
        obtain ⟨xs, ss, hss, ex, es⟩ : ∃ xs ss, IsSs H1 xs ss ∧ xs = [] ∧ ss = [] := ⟨[], [], .nil, rfl, rfl⟩
        refine ⟨by show 3 ≤ sizeLine; decide, fun p0 n0 => ?_⟩
        have z0 := step_tup (o := .tup [.int 0, .int 1, .int 2]) [0, 1, 2] rfl u1 hss n0
        refine ⟨by show 3 ≤ sizeLine; decide, fun p1 n1 => ?_⟩
        have z1 := step_tup (o := .tup [.int 0, .int 1, .int 3]) [0, 1, 3] rfl z0.1 z0.2 n1
        refine ⟨by show 3 ≤ sizeLine; decide, fun p2 n2 => ?_⟩
        have z2 := step_tup (o := .tup [.int 0, .int 2, .int 4]) [0, 2, 4] rfl z1.1 z1.2 n2
        refine ⟨by show 3 ≤ sizeLine; decide, fun p3 n3 => ?_⟩
        have z3 := step_tup (o := .tup [.int 0, .int 3, .int 5]) [0, 3, 5] rfl z2.1 z2.2 n3
        refine ⟨by show 3 ≤ sizeLine; decide, fun p4 n4 => ?_⟩
        have z4 := step_tup (o := .tup [.int 0, .int 4, .int 5]) [0, 4, 5] rfl z3.1 z3.2 n4
        refine ⟨by show 3 ≤ sizeLine; decide, fun p5 n5 => ?_⟩
        have z5 := step_tup (o := .tup [.int 1, .int 2, .int 5]) [1, 2, 5] rfl z4.1 z4.2 n5
        refine ⟨by show 3 ≤ sizeLine; decide, fun p6 n6 => ?_⟩
        have z6 := step_tup (o := .tup [.int 1, .int 3, .int 4]) [1, 3, 4] rfl z5.1 z5.2 n6
        refine ⟨by show 3 ≤ sizeLine; decide, fun p7 n7 => ?_⟩
        have z7 := step_tup (o := .tup [.int 1, .int 4, .int 5]) [1, 4, 5] rfl z6.1 z6.2 n7
        refine ⟨by show 3 ≤ sizeLine; decide, fun p8 n8 => ?_⟩
        have z8 := step_tup (o := .tup [.int 2, .int 3, .int 4]) [2, 3, 4] rfl z7.1 z7.2 n8
        refine ⟨by show 3 ≤ sizeLine; decide, fun p9 n9 => ?_⟩
        have z9 := step_tup (o := .tup [.int 2, .int 3, .int 5]) [2, 3, 5] rfl z8.1 z8.2 n9
        refine ⟨by show 10 ≤ sizeLine; decide, fun pz nz => ?_⟩
        subst ex es
        refine q _ _ _ (z9.1.same (same_upd nz)) ⟨pz, _, rfl, upd_same, IsSs.kt (Same.kt (same_upd nz)) z9.2⟩ ?_ (by decide)
        intro s hs
        simp only [List.nil_append, List.cons_append, List.mem_cons, List.not_mem_nil, or_false] at hs
        rcases hs with rfl | rfl | rfl | rfl | rfl | rfl | rfl | rfl | rfl | rfl
        all_goals exact ⟨by simp, by decide, by decide⟩
      · refine ⟨_, rfl, rfl, _, rfl, ?_⟩
        refine' cut (fun rest => _) _
        rotate_left
        · refine ite2 (fun _ => ?_) (fun _ => ?_)
          · refine ⟨_, rfl, most, 6, rfl, rfl, _, rfl, ?_⟩
            refine ite2 (fun _ => ?_) (fun _ => ?_)
            · refine ⟨_, rfl, size, 2, rfl, rfl, _, rfl, ?_⟩
              rw [decide_eq_true hz0]
              refine iteT ?_
              refine ⟨by show 0 ≤ sizeLine; decide, fun pf npf => ?_⟩
              have s2 : Same H1 (upd H1 pf (.lst [])) := same_upd npf
              refine ⟨7, rfl, by decide, by decide, ?_⟩
              have rf : pf ≠ r := u1.2.2.rn npf
              refine for_range (lo := 0) (n := (7 : Int).toNat) (fun j σ H' => ∃ o6 xs ss, σ = [some (.ref r), some (.int most), some (.int size), some (.int way), none, none, o6, some (.ref pf), none] ∧ Same H1 H' ∧ H' pf = some (.lst xs) ∧ IsSs H' xs ss ∧ (∀ s ∈ ss, Ok s) ∧ ss.length = 2 * j)
                ⟨none, [], [], rfl, s2, upd_same, .nil, by simp, rfl⟩ ?_ ?_
              · rintro j σ H' hj ⟨o6, xs, ss, rfl, sm, e, hss, hok, hl⟩
                have hj7 : j < 7 := hj
                refine ⟨_, rfl, .inl ⟨rfl, _, SqL.of e⟩, ?_⟩
                refine ⟨_, rfl, _, rfl, _, 1, rfl, rfl, .inl ⟨_, rfl, _, 7, rfl, rfl, (show (0 : Int) < 7 by decide), ?_⟩⟩
                refine ⟨_, rfl, _, 3, rfl, rfl, .inl ⟨_, rfl, _, 7, rfl, rfl, (show (0 : Int) < 7 by decide), ?_⟩⟩
                refine ⟨by show 3 ≤ sizeLine; decide, fun pd1 nd1 => ?_⟩
                refine ⟨pd1, [0 + (j : Int), (0 + (j : Int) + 1) % 7, (0 + (j : Int) + 3) % 7], rfl, SqL.of upd_same, fun ms1 p1 perm1 pw1 np1 => ?_⟩
                refine ⟨p1, _, rfl, .inl ⟨SqL.of upd_same, fun l1 nl1 => ?_⟩⟩
                have t1 := (same_upd (o := .lst [.int (0 + (j : Int)), .int ((0 + (j : Int) + 1) % 7), .int ((0 + (j : Int) + 3) % 7)]) nd1).trans ((same_upd (o := .lst (ms1.map V.int)) np1).trans (same_upd (o := .tup (ms1.map V.int)) nl1))
                have ok1 : Ok ms1 := ok_sorted perm1 pw1 (by simp; omega) (by simp) (by intro v hv; simp at hv; omega)
                refine ⟨pf, _, _, rfl, rfl, t1 _ _ e, by rw [Paired.len hss, hl]; exact Nat.lt_of_lt_of_le (show _ < 20 by omega) (by decide), ?_⟩
                obtain ⟨H2, eH2⟩ : ∃ H2, H2 = upd (upd (upd (upd H' pd1 (.lst [.int (0 + (j : Int)), .int ((0 + (j : Int) + 1) % 7), .int ((0 + (j : Int) + 3) % 7)])) p1 (.lst (ms1.map V.int))) l1 (.tup (ms1.map V.int))) pf (.lst (xs ++ [.ref l1])) := ⟨_, rfl⟩
                have el1 : (upd (upd (upd H' pd1 (.lst [.int (0 + (j : Int)), .int ((0 + (j : Int) + 1) % 7), .int ((0 + (j : Int) + 3) % 7)])) p1 (.lst (ms1.map V.int))) l1 (.tup (ms1.map V.int))) pf = some (.lst xs) := t1 _ _ e
                have sm2 : Same H1 H2 := by rw [eH2]; exact Same.md _ (sm.trans t1) npf
                have e2 : H2 pf = some (.lst (xs ++ [.ref l1])) := by rw [eH2]; exact upd_same
                have hss2 : IsSs H2 (xs ++ [.ref l1]) (ss ++ [ms1]) := by rw [eH2]; exact Paired.snoc (IsS.kt (keepT_lst el1) ⟨l1, rfl, upd_same⟩) (IsSs.kt (keepT_lst el1) (IsSs.kt (Same.kt t1) hss))
                have hok2 : ∀ s ∈ ss ++ [ms1], Ok s := fun s hs => (List.mem_append.mp hs).elim (hok s) (fun h => by rw [List.mem_singleton.mp h]; exact ok1)
                have hl2 : (ss ++ [ms1]).length = 2 * j + 1 := by rw [List.length_append, hl]; rfl
                rw [← eH2]
                refine ⟨_, rfl, .inl ⟨rfl, _, SqL.of e2⟩, ?_⟩
                refine ⟨_, rfl, _, rfl, _, 2, rfl, rfl, .inl ⟨_, rfl, _, 7, rfl, rfl, (show (0 : Int) < 7 by decide), ?_⟩⟩
                refine ⟨_, rfl, _, 3, rfl, rfl, .inl ⟨_, rfl, _, 7, rfl, rfl, (show (0 : Int) < 7 by decide), ?_⟩⟩
                refine ⟨by show 3 ≤ sizeLine; decide, fun pd2 nd2 => ?_⟩
                refine ⟨pd2, [0 + (j : Int), (0 + (j : Int) + 2) % 7, (0 + (j : Int) + 3) % 7], rfl, SqL.of upd_same, fun ms2 p2 perm2 pw2 np2 => ?_⟩
                refine ⟨p2, _, rfl, .inl ⟨SqL.of upd_same, fun l2 nl2 => ?_⟩⟩
                have t2 := (same_upd (o := .lst [.int (0 + (j : Int)), .int ((0 + (j : Int) + 2) % 7), .int ((0 + (j : Int) + 3) % 7)]) nd2).trans ((same_upd (o := .lst (ms2.map V.int)) np2).trans (same_upd (o := .tup (ms2.map V.int)) nl2))
                have ok2 : Ok ms2 := ok_sorted perm2 pw2 (by simp; omega) (by simp) (by intro v hv; simp at hv; omega)
                refine ⟨pf, _, _, rfl, rfl, t2 _ _ e2, by rw [Paired.len hss2, hl2]; exact Nat.lt_of_lt_of_le (show _ < 20 by omega) (by decide), ?_⟩
                have el2 := t2 _ _ e2
                refine ⟨_, _, ss ++ [ms1] ++ [ms2], rfl, Same.md _ (sm2.trans t2) npf, upd_same, Paired.snoc (IsS.kt (keepT_lst el2) ⟨l2, rfl, upd_same⟩) (IsSs.kt (keepT_lst el2) (IsSs.kt (Same.kt t2) hss2)), fun s hs => (List.mem_append.mp hs).elim (hok2 s) (fun h => by rw [List.mem_singleton.mp h]; exact ok2), by rw [List.length_append, hl2]; show 2 * j + 1 + 1 = _; omega⟩
              · rintro σ H' ⟨o6, xs, ss, rfl, sm, e, hss, hok, hl⟩
                refine ⟨_, rfl, pf, xs, rfl, .inl ⟨SqL.of e, fun l nl => ?_⟩⟩
                exact q _ _ ss (u1.same (sm.trans (same_upd nl))) ⟨l, xs, rfl, upd_same, IsSs.kt (Same.kt (same_upd nl)) hss⟩ hok (by rw [hl]; decide)
            · exact rest
          · exact rest
        · refine ⟨_, rfl, rfl, _, rfl, ?_⟩
          refine ite2 (fun _ => ?_) (fun _ => ?_)
          · refine ⟨_, rfl, most, 2, rfl, rfl, _, rfl, ?_⟩
            rw [decide_eq_true (show (2 : Int) < most by omega)]
            refine iteT ⟨_, rfl, size, 1, rfl, rfl, _, rfl, ?_⟩
            rw [decide_eq_true (show (1 : Int) < size by omega)]
            refine iteT ?_
            refine ⟨_, rfl, _, rfl, most, 2, rfl, rfl, sa, ns, r, most - 2, rfl, u1.2.2, by omega, by omega, fun H2 x u2 hx0 hx1 => ?_⟩
            refine ⟨3, x, rfl, rfl, ?_⟩
            have u12 := u1.trans u2
            obtain ⟨m, em, hm2, hm7⟩ : ∃ m : Int, 3 + x = m ∧ 3 ≤ m ∧ m ≤ 7 := ⟨_, rfl, by omega, by omega⟩
            have m62 : m < 2 ^ 62 := Int.lt_of_le_of_lt hm7 (by decide)
            have m62' : -(2 ^ 62) ≤ m := Int.le_trans (by decide) (show (0 : Int) ≤ m by omega)
            refine ⟨_, rfl, m, congrArg (fun z => [V.int z]) em, m62', m62, fun D hD => ?_⟩
            refine lc_all ext_same (bs := rgI m) (walk_rg m) (fun _ => true) (fun _ s => Ok s) IsS (fun kt h => h.kt kt) hD (Same.refl _) (by rw [rgI_len]; omega) (fun _ _ => trivial) ?_ ?_
            · rintro i x0 b H3 H4 NT NF hb s3 ⟨rfl, rfl⟩ ht hf
              obtain ⟨eb, hbm⟩ := get_rg hb
              refine ⟨rfl, _, rfl, _, rfl, _, 1, rfl, rfl, .inl ⟨_, rfl, _, rfl, _, m, rfl, congrArg V.int em, (show (0 : Int) < m by omega), ?_⟩⟩
              refine ⟨by show 2 ≤ sizeLine; decide, fun pd nd => ?_⟩
              refine ⟨pd, [0 + (i : Int), (0 + (i : Int) + 1) % m], rfl, SqL.of upd_same, fun ms p perm pw np => ?_⟩
              refine ⟨p, _, rfl, .inl ⟨SqL.of upd_same, fun l nl => ?_⟩⟩
              refine ht rfl _ ms _ ((same_upd nd).trans ((same_upd np).trans (same_upd nl))) (ok_sorted perm pw ?_ (by simp) ?_) ⟨l, rfl, upd_same⟩
              · have hne : 0 + (i : Int) ≠ (0 + (i : Int) + 1) % m := by
                  by_cases h : 0 + (i : Int) + 1 < m
                  · rw [Int.emod_eq_of_lt (by omega) h]
                    omega
                  · rw [show 0 + (i : Int) + 1 = m by omega, Int.emod_self]
                    omega
                exact List.nodup_cons.mpr ⟨by rw [List.mem_singleton]; exact hne, List.nodup_cons.mpr ⟨List.not_mem_nil, .nil⟩⟩
              · have h1 := Int.emod_nonneg (0 + (i : Int) + 1) (show m ≠ 0 by omega)
                have h2 := Int.emod_lt_of_pos (0 + (i : Int) + 1) (show 0 < m by omega)
                intro v hv
                rcases List.mem_cons.mp hv with e | hv
                · omega
                · have e := List.mem_singleton.mp hv
                  rw [e]
                  omega
            · intro H5 ys cs s5 hD5 r1 r2
              rw [filter_yes] at r1
              refine ⟨D, ys, rfl, .inl ⟨SqL.of hD5, fun l nl => ?_⟩⟩
              refine q _ _ cs (u12.same (s5.trans (same_upd nl))) ⟨l, ys, rfl, upd_same, IsSs.kt (Same.kt (same_upd nl)) r2⟩ (fun s hs => ?_) (by rw [← Paired.len r1, rgI_len]; omega)
              obtain ⟨i, hi⟩ := List.getElem?_of_mem hs
              obtain ⟨_, _, h⟩ := Paired.at' r1 hi
              exact h
          · refine ⟨_, rfl, sa, ns, r, 8, rfl, u1.2.2, by decide, by decide, fun H2 x u2 hx0 hx1 => ?_⟩
            refine ⟨x, rfl, Int.le_trans (by decide) hx0, Int.lt_of_lt_of_le hx1 (by decide), fun D hD => ?_⟩
            refine lc_all (ext_row (K := K) (sa := sa) (ns := ns) (r := r)) (bs := rgI x) (walk_rg x) (fun _ => true) (fun _ s => Ok s) IsS (fun kt h => h.kt kt) hD (RowUp.refl u2.2.2) (by rw [rgI_len]; omega) (fun _ _ => trivial) ?_ ?_
            · rintro i x0 b H3 H4 NT NF hb s3 ⟨rfl, rfl⟩ ht hf
              exact ⟨rfl, _, rfl, _, rfl, _, rfl, sa, ns, r, most, size, rfl, s3.2.2, by omega, hm1, by omega, hz1, fun H5 v s u5 hv hs => ht rfl v s H5 u5 hs hv⟩
            · intro H5 ys cs s5 hD5 r1 r2
              rw [filter_yes] at r1
              refine ⟨D, ys, rfl, .inl ⟨SqL.of hD5, fun l nl => ?_⟩⟩
              refine q _ _ cs (u1.trans (u2.trans (s5.same (same_upd nl)))) ⟨l, ys, rfl, upd_same, IsSs.kt (Same.kt (same_upd nl)) r2⟩ (fun s hs => ?_) (by rw [← Paired.len r1, rgI_len]; omega)
              obtain ⟨i, hi⟩ := List.getElem?_of_mem hs
              obtain ⟨_, _, h⟩ := Paired.at' r1 hi
              exact h
end
end B72
set_option Elab.async false
set_option linter.all false
set_option maxRecDepth 100000
set_option maxHeartbeats 4000000
/-! _law_faces, _law_vertices. -/
namespace B72
open PySem PySem.Spec PyProof.Rows L2 R72 Mk72
theorem genL_snoc (ss : List Sx) (s : Sx) : genL (ss ++ [s]) = addAll (genL ss) (parts s) := by
  unfold genL
  rw [List.foldl_append]
  rfl
theorem Ok.genL {ss : List Sx} (h : ∀ s ∈ ss, Ok s) : ∀ t ∈ genL ss, Ok t := fun t ht => by
  obtain ⟨n, s, hs, q⟩ := mem_genL.mp ht
  exact (h s hs).sub q n
theorem genL_many {ss : List Sx} (h : ∀ s ∈ ss, Ok s) : (genL ss).length ≤ 127 := ok_many (genL_nd ss) (Ok.genL h)
def vertsOf (F : List Sx) : List Int := ((inOrd F).filter fun s => decide (s.length = 1)).map headI
theorem up_verts {F : List Sx} (nd : F.Nodup) : UpMem (vertsOf F) F := by
  constructor
  · refine lt_of_le_nd ?_ (heads_nd (inOrd_nd nd))
    unfold vertsOf
    rw [List.pairwise_map]
    refine ((inOrd_pw F).filter _).imp_of_mem fun {a b} ha hb h => ?_
    have h1 := one_iff (of_decide_eq_true (List.mem_filter.mp ha).2)
    have h2 := one_iff (of_decide_eq_true (List.mem_filter.mp hb).2)
    rw [le2_eq, decide_eq_true_eq] at h
    have l1 := of_decide_eq_true (List.mem_filter.mp ha).2
    have l2 := of_decide_eq_true (List.mem_filter.mp hb).2
    rcases h with h | ⟨_, h⟩
    · omega
    · rw [h1, h2] at h
      by_cases e : headI a ≤ headI b
      · exact e
      · exfalso
        have lt : ([headI b] : List Int) < [headI a] := List.Lex.rel (by omega)
        exact List.not_le.mpr lt h
  · intro v
    refine heads_mem.trans mem_inOrd
section
variable {P : Program} {w : World} {K : PySem.W.Frag} {mg : Str → Option Value} {base : Heap}
def spLFaces : Sp := fun vs H Q _ => ∃ v ss, vs = [v] ∧ SeqSs H v ss ∧ (∀ s ∈ ss, Ok s) ∧ ∀ H' p ys, Same H H' → H' p = some (.lst ys) → IsSs H' ys (inOrd (genL ss)) → Q (.ref p) H'
abbrev nLFaces : List Str := ["_law_simplices_here", "_law_met", "_law_simplex_here", "_law_some", "_law_vertex", "_law_part", "_law_pair"]
theorem scLFaces : FnScope nLFaces ["_law_simplices_here"] (defScope sLFaces) := ⟨rfl, rfl, rfl, by decide +kernel, rfl, by decide +kernel, by decide +kernel⟩
theorem ok_lfaces {f : Addr} {fd : FuncData} {k : Nat} (F : Fun K "_law_faces" "_law_faces" sLFaces f fd) (T : Fx mg) : FnOk P w K mg base CX0 (k + 1) f fd ["_law_simplices_here"] spLFaces := by
  refine F.ok scLFaces (fun vs H Q E h => ?_) (fun cdv A outer s H vs Q E hr h => ?_)
  · obtain ⟨_, _, rfl, _⟩ := h
    rfl
  · obtain ⟨v, ss, rfl, hv, hok, q⟩ := h
    obtain ⟨a, xs, rfl, ⟨oa, hoa⟩, hsq, rss⟩ := hv.get (K := K)
    apply Exists.intro
    apply And.intro
    · apply pss_cons
      · exact ps_set (i := 1) scLFaces.nd rfl (.inl rfl) pe_dnewT
      apply pss_cons
      · exact ps_for PassesOwn.never rfl (pi_seqV 0 (pv 0)) (pg_name (i := 2) scLFaces.nd rfl (.inl rfl))
          (pss_cons (ps_set (i := 3) scLFaces.nd rfl (.inl rfl) (pe_lst (pa_cons (pe_tup pa_nil) pa_nil)))
          (pss_cons (ps_for PassesOwn.never rfl (pi_tup (pv 2)) (pg_name (i := 4) scLFaces.nd rfl (.inr rfl))
            (pss_one (ps_set (i := 3) scLFaces.nd rfl (.inl rfl) (pe_op op_cat (pv 3)
              (pe_lc (own := [("_law_part", 5)]) (g := gName 5) (tt := tYes) (te := tOp (rCatA K) (tVar 5) (tTup (tCons (tVar 4) tNil))) rfl scLFaces.nd (pi_list (pv 3)) (blkOk_by (own := [("_law_part", 5)]) (N := nLFaces) (sc := defScope sLFaces) (by decide +kernel))
                (fun _ _ _ _ _ => pg_name (i := 5) scLFaces.nd rfl (Or.inl rfl)) (fun _ _ _ _ _ => pts_nil)
                (fun _ _ _ _ _ => pe_op op_catA (pv 5) (pe_tup (pa_cons (pv 4) pa_nil))))))))
          (pss_one (ps_for PassesOwn.never rfl (pi_list (pe_slice sl_list (pv 3) (po_some pe_int) po_none)) (pg_name (i := 5) scLFaces.nd rfl (.inl rfl))
            (pss_one (ps_dput (hu_of hr) (pv 1) (pv 5) pe_bl rfl))))))
      apply pss_one
      exact ps_ret (pe_lc (own := [("_law_pair", 6)]) (g := gName 6) (tt := tYes) (te := tOp (rIxT K) (tVar 6) (tC (.int 1))) rfl scLFaces.nd
        (pi_list (pe_callB (cr_sortD (enc := enc2) (R := IsLS) alike_2 (hu11 hr)) (by rfl) T.zSorted (by decide +kernel) (pa_cons
          ((pe_lc (own := [("_law_part", 5)]) (g := gName 5) (tt := tYes) (te := tTup (tCons (tCB (rLenS K) (tCons (tVar 5) tNil)) (tCons (tVar 5) tNil))) rfl scLFaces.nd (pi_list (pe_callTy (call_list_dT rfl) (by rfl) T.zList (by decide +kernel) (pa_cons (pv 1) pa_nil)))
            (blkOk_by (own := [("_law_part", 5)]) (N := nLFaces) (sc := defScope sLFaces) (by decide +kernel)) (fun _ _ _ _ _ => pg_name (i := 5) scLFaces.nd rfl (Or.inl rfl)) (fun _ _ _ _ _ => pts_nil)
            (fun _ _ _ _ _ => pe_tup (pa_cons (pe_callB call_len_seq (by rfl) T.zLen PySem.boot_len (pa_cons (pv 5) pa_nil)) (pa_cons (pv 5) pa_nil))))) pa_nil)))
        (blkOk_by (own := [("_law_pair", 6)]) (N := nLFaces) (sc := defScope sLFaces) (by decide +kernel)) (fun _ _ _ _ _ => pg_name (i := 6) scLFaces.nd rfl (Or.inl rfl)) (fun _ _ _ _ _ => pts_nil)
        (fun _ _ _ _ _ => pe_ix ix_tup (pv 6) pe_int (fun _ _ => rfl)))
    intro d hd
    have s1 : Same H (upd H d (.dT [])) := same_upd hd
    have xlen := Paired.len rss
    refine ⟨a, xs, rfl, hsq.imp (fun h => Same.seq s1 h) (fun h => sqT_sm h s1), fun J G wk hG => ?_⟩
    refine for_it wk (fun i σ H' => ∃ o2 o3 o4 o5, σ = [some (.ref a), some (.ref d), o2, o3, o4, o5, none] ∧ Same H H' ∧ H' d = some (dOf (genL (ss.take i))))
      ⟨none, none, none, none, rfl, s1, upd_same⟩ (fun i σ H' _ ⟨_, _, _, _, _, sm, _⟩ => hG H' fun o e => ?_) ?_ ?_
    · rw [upd_ne (ne_of_none hoa hd)] at e
      exact sm _ _ e
    · rintro i x σ H' H'' hi ⟨o2, o3, o4, o5, rfl, sm, e⟩ ⟨rfl, hx⟩
      obtain ⟨sx, hs, hS⟩ := Paired.at rss hx
      have hsm : sx ∈ ss := List.mem_of_getElem? hs
      have hsok := hok sx hsm
      have hlen : sx.length ≤ 12 := by have := hsok.len; omega
      obtain ⟨b, rfl, hb⟩ := hS
      have etake : genL (ss.take (i + 1)) = addAll (genL (ss.take i)) (parts sx) := by rw [take_snoc hs, genL_snoc]
      have hle0 : (genL (ss.take i)).length ≤ 127 := genL_many fun s hs => hok s (List.mem_of_mem_take hs)
      -- some = [()]
      refine ⟨Nat.zero_le _, fun e1 he1 => ⟨by show 1 ≤ sizeLine; decide, fun l hl => ?_⟩⟩
      have t1 : Same H'' (upd H'' e1 (.tup [])) := same_upd he1
      have hl0 : H'' l = none := t1.free hl
      have t2 : Same H'' (upd (upd H'' e1 (.tup [])) l (.lst [.ref e1])) := t1.trans (same_upd hl)
      have hb1 := sm _ _ hb
      refine ⟨_, rfl, b, rfl, ⟨_, .inl (.inl (t2 _ _ hb1))⟩, for_tup (K := K) (a := b) (xs := sx.map V.int) (fun j σ H3 => ∃ o4 l fs, σ = [some (.ref a), some (.ref d), some (.ref b), some (.ref l), o4, o5, none] ∧ Same H'' H3 ∧ H3 l = some (.lst fs) ∧ IsSs H3 fs (subs (sx.take j)))
        ⟨o4, l, [.ref e1], rfl, t2, upd_same, .cons ⟨e1, rfl, by rw [upd_ne (ne_of_none upd_same hl), upd_same]; rfl⟩ .nil⟩ (fun j σ H3 _ ⟨_, _, _, _, sm3, _⟩ => .inl (.inl (sm3 _ _ hb1))) ?_ ?_⟩
      · rintro j y σ H3 hy ⟨o4', l, fs, rfl, sm3, el, rf⟩
        obtain ⟨z, hz, rfl⟩ := get_int hy
        have hj : j < sx.length := (List.getElem?_eq_some_iff.mp hz).1
        refine ⟨_, rfl, _, rfl, l, rfl, ⟨_, SqL.of el⟩, fun D hD => ?_⟩
        have flen := Paired.len rf
        have hsl : (subs (sx.take j)).length ≤ 4096 := by
          rw [subs_len, List.length_take]
          exact Nat.le_trans (Nat.pow_le_pow_right (by decide) (Nat.le_trans (Nat.min_le_right _ _) hlen)) (by decide)
        refine lc_fun ext_same (bs := subs (sx.take j)) (walk_list' (K := K) (a := l) (xs := fs) flen) (fun _ => true) (fun t => t ++ [z]) IsS (fun kt h => h.kt kt) hD (Same.refl _) (by omega) (fun H2 s2 => Same.seq s2 (SqL.of el)) ?_ ?_
        · rintro jj yy bb H4 H5 NT NF hbb sm4 ⟨rfl, hyy⟩ ht hf
          obtain ⟨b', hb', hS⟩ := Paired.at rf hyy
          obtain rfl : bb = b' := Option.some.inj (hbb.symm.trans hb')
          obtain ⟨pa, rfl, hp⟩ := hS
          have hbl : bb.length ≤ 12 := by
            have hm : bb ∈ subs (sx.take j) := List.mem_of_getElem? hbb
            exact Nat.le_trans ((mem_subs _ _).mp hm).length_le (Nat.le_trans (by rw [List.length_take]; exact Nat.min_le_right _ _) hlen)
          refine ⟨rfl, _, rfl, _, rfl, by show 1 ≤ sizeLine; decide, fun p2 n2 => ?_⟩
          have s4 := same_upd (o := .tup [.int z]) n2
          refine ⟨pa, p2, _, _, rfl, rfl, .inl (.inl (s4 _ _ (sm4 _ _ hp))), .inl (.inl upd_same), ?_, fun zz => ?_, fun z1 z2 => absurd z2 (by simp), fun z1 z2 p3 n3 => ?_⟩
          · rw [List.length_map]
            show bb.length + 1 ≤ sizeLine
            exact Nat.le_trans (Nat.succ_le_succ hbl) (by decide)
          · have : bb = [] := List.map_eq_nil_iff.mp zz
            refine ht rfl _ _ s4 ⟨p2, rfl, ?_⟩
            rw [upd_same, this]
            rfl
          · refine ht rfl _ _ (s4.trans (same_upd n3)) ⟨p3, rfl, ?_⟩
            rw [upd_same, List.map_append]
            rfl
        · intro H4 ys sm4 hD4 r4
          rw [filter_yes] at r4
          have ylen := Paired.len r4
          rw [List.length_map] at ylen
          have el4 := sm4 _ _ el
          refine ⟨l, D, fs, ys, rfl, rfl, el4, hD4, ?_, fun p np => ?_⟩
          · rw [ylen, flen]
            exact Nat.le_trans (Nat.add_le_add hsl hsl) (by decide)
          · have s5 := same_upd (o := .lst (fs ++ ys)) np
            refine ⟨_, p, fs ++ ys, rfl, sm3.trans (sm4.trans s5), upd_same, ?_⟩
            rw [take_snoc hz, subs_snoc]
            exact Paired.app (IsSs.kt ((Same.kt sm4).trans (Same.kt s5)) rf) (IsSs.kt (Same.kt s5) r4)
      · rintro σ H3 ⟨o4', l, fs, rfl, sm3, el, rf⟩
        rw [List.length_map, List.take_length] at rf
        refine ⟨_, rfl, 1, rfl, l, fs, rfl, SqL.of el, fun p hp => ?_⟩
        rw [cut_from1]
        have s4 := same_upd (o := .lst (fs.drop 1)) hp
        have rp : IsSs (upd H3 p (.lst (fs.drop 1))) (fs.drop 1) (parts sx) := IsSs.kt (Same.kt s4) (Paired.tail rf)
        have e4 := s4 _ _ (sm3 _ _ e)
        have ep : (upd H3 p (.lst (fs.drop 1))) p = some (.lst (fs.drop 1)) := upd_same
        have sm4 := sm.trans (sm3.trans s4)
        generalize upd H3 p (.lst (fs.drop 1)) = H4 at rp e4 ep sm4 ⊢
        generalize fs.drop 1 = ys at rp ep ⊢
        refine ⟨p, rfl, ⟨_, SqL.of ep⟩, ?_⟩
        have npd : p ≠ d := ne_of ep e4 (by intro z; cases z)
        have ylen := Paired.len rp
        refine for_list (K := K) (a := p) (xs := ys) (fun j σ H3 => ∃ o5, σ = [some (.ref a), some (.ref d), some (.ref b), some (.ref l), o4', o5, none] ∧ Same H H3 ∧ H3 p = some (.lst ys) ∧ IsSs H3 ys (parts sx) ∧ H3 d = some (dOf (addAll (genL (ss.take i)) ((parts sx).take j))))
          ⟨_, rfl, sm4, ep, rp, e4⟩ (fun j σ H3 _ ⟨_, _, _, ep3, _⟩ => SqL.of ep3) ?_ ?_
        · rintro j y σ H3 hy ⟨o3', rfl, sm3, ep3, rp3, e3⟩
          obtain ⟨t, ht, b2, rfl, hb2⟩ := Paired.at rp3 hy
          have hl3 : (addAll (genL (ss.take i)) ((parts sx).take j)).length < sizeLine := by
            have h1 := (len_addAll ((parts sx).take j) (genL (ss.take i))).2
            have h2 := len_parts hlen
            rw [List.length_take] at h1
            exact Nat.lt_of_le_of_lt (Nat.le_trans h1 (Nat.add_le_add hle0 (Nat.le_trans (Nat.min_le_right _ _) h2))) (by decide)
          refine ⟨_, rfl, _, rfl, d, _, rfl, DPut.t (k := keyS t) e3 (by rw [keyS_kV]; exact hb2) (by rw [List.length_map]; exact hl3), ?_⟩
          have kt : KeepT H3 (upd H3 d (.dT (putK ((addAll (genL (ss.take i)) ((parts sx).take j)).map fun s => (keyS s, V.bl true)) (keyS t) (.bl true)))) := fun c xs q => by
            rw [upd_ne (ne_of q e3 (by intro z; cases z))]; exact q
          refine ⟨_, rfl, fun c o q => ?_, ?_, IsSs.kt kt rp3, ?_⟩
          · rw [upd_ne (ne_of_none q hd)]; exact sm3 _ _ q
          · rw [upd_ne npd]; exact ep3
          · rw [upd_same, putK_of, take_snoc ht, addAll_snoc]
            rfl
        · rintro σ H3 ⟨o3', rfl, sm3, ep3, rp3, e3⟩
          rw [ylen, List.take_length] at e3
          rw [← etake] at e3
          exact ⟨_, _, _, _, rfl, sm3, e3⟩
    · rintro σ H' ⟨o2, o3, o4, o5, rfl, sm, e⟩
      rw [xlen, List.take_length] at e
      have hmany := genL_many hok
      -- sorted([(len(part), part) for part in list(met)])
      refine ⟨_, rfl, d, _, rfl, .inl e, fun l bs nl keys => ?_⟩
      have s2 := same_upd (o := .lst (bs.map V.ref)) nl
      have rk : IsSs (upd H' l (.lst (bs.map V.ref))) (bs.map V.ref) (genL ss) := by
        refine IsSs.kt (Same.kt s2) ?_
        have go : ∀ {F : List Sx} {bs : List Addr}, Paired (fun (p : List Key × V) b => H' b = some (.tup (p.1.map kV))) (F.map fun s => (keyS s, V.bl true)) bs → IsSs H' (bs.map V.ref) F := by
          intro F
          induction F with
          | nil =>
            intro bs h
            cases h
            exact .nil
          | cons s F ih =>
            intro bs h
            cases h with
            | cons h t => exact .cons ⟨_, rfl, by rw [← keyS_kV]; exact h⟩ (ih t)
        exact go keys
      refine ⟨l, rfl, ⟨_, SqL.of upd_same⟩, fun D hD => ?_⟩
      refine lc_fun ext_same (bs := genL ss) (walk_list' (K := K) (a := l) (xs := bs.map V.ref) (Paired.len rk)) (fun _ => true) (fun t => t) IsLS (fun kt h => h.kt kt) hD (Same.refl _) (by omega) (fun H2 s2 => SqL.of (s2 _ _ upd_same)) ?_ ?_
      · rintro j y b H2 H3 NT NF hb sm2 ⟨rfl, hy⟩ ht hf
        obtain ⟨b', hb', qa, rfl, e2⟩ := Paired.at rk hy
        obtain rfl : b = b' := Option.some.inj (hb.symm.trans hb')
        have e2 := sm2 _ _ e2
        refine ⟨rfl, _, rfl, qa, _, rfl, .inr (.inl (.inl e2)), _, rfl, by show 2 ≤ sizeLine; decide, fun t nt => ?_⟩
        have st : Same H3 (upd H3 t (.tup [.int (b.map V.int).length, .ref qa])) := same_upd nt
        refine ht rfl _ _ st ⟨t, qa, rfl, ?_, st _ _ e2⟩
        rw [upd_same, List.length_map]
      · intro H2 ys sm2 hD2 r2
        rw [filter_yes, List.map_id'] at r2
        refine ⟨D, ys, genL ss, rfl, SqL.of hD2, r2, fun v b h => dp_LS h, sortable_2 _, depth_2, fun zs p np rz => ?_⟩
        have s3 := same_upd (o := .lst zs) np
        refine ⟨p, rfl, ⟨_, SqL.of upd_same⟩, fun D2 hD2 => ?_⟩
        have zlen : zs.length = (inOrd (genL ss)).length := Paired.len rz
        have olen : (inOrd (genL ss)).length = (genL ss).length := (inOrd_perm _).length_eq
        refine lc_fun ext_same (bs := inOrd (genL ss)) (walk_list' (K := K) (a := p) (xs := zs) zlen) (fun _ => true) (fun t => t) IsS (fun kt h => h.kt kt) hD2 (Same.refl _) (by omega) (fun H4 s4 => SqL.of (s4 _ _ upd_same)) ?_ ?_
        · rintro j y b H4 H5 NT NF hb sm4 ⟨rfl, hy⟩ ht hf
          obtain ⟨b', hb', hS⟩ := Paired.at rz hy
          obtain rfl : b = b' := Option.some.inj (hb.symm.trans hb')
          obtain ⟨pa, pb, rfl, h1, h2⟩ := hS.kt ((Same.kt s3).trans (Same.kt sm4))
          exact ⟨rfl, _, rfl, pa, _, 1, .ref pb, rfl, rfl, .inl (.inl h1), rfl, ht rfl _ _ (Same.refl _) ⟨pb, rfl, h2⟩⟩
        · intro H4 ws sm4 hD4 r4
          rw [filter_yes, List.map_id'] at r4
          exact q H4 D2 ws (sm.trans (s2.trans (sm2.trans (s3.trans sm4)))) hD4 r4
/-- _law_vertices(faces_here) -/
def spLVert : Sp := fun vs H Q _ => ∃ v ss, vs = [v] ∧ LstSs H v ss ∧ ss.length ≤ 1000 ∧ ∀ H' p, Same H H' → H' p = some (.lst (((ss.filter fun s => decide (s.length = 1)).map headI).map V.int)) → Q (.ref p) H'
abbrev nLVert : List Str := ["_law_faces_here", "_law_face"]
theorem scLVert : FnScope nLVert ["_law_faces_here"] (defScope sLVert) := ⟨rfl, rfl, rfl, by decide +kernel, rfl, by decide +kernel, by decide +kernel⟩
theorem ok_lvert {f : Addr} {fd : FuncData} {k : Nat} (F : Fun K "_law_vertices" "_law_vertices" sLVert f fd) (T : Fx mg) : FnOk P w K mg base CX0 (k + 1) f fd ["_law_faces_here"] spLVert := by
  refine F.ok scLVert (fun vs H Q E h => ?_) (fun cdv A outer s H vs Q E hr h => ?_)
  · obtain ⟨_, _, rfl, _⟩ := h
    rfl
  · obtain ⟨v, ss, rfl, ⟨l, fs, rfl, el, rf⟩, hmany, q⟩ := h
    apply Exists.intro
    apply And.intro
    · apply pss_one
      exact ps_ret (pe_lc (own := [("_law_face", 1)]) (g := gName 1) (tt := tTest (tOp rEq (tCB (rLenS K) (tCons (tVar 1) tNil)) (tC (.int 1)))) (te := tOp (rIxT K) (tVar 1) (tC (.int 0))) rfl scLVert.nd (pi_list (pv 0))
          (blkOk_by (own := [("_law_face", 1)]) (N := nLVert) (sc := defScope sLVert) (by decide +kernel)) (fun _ _ _ _ _ => pg_name (i := 1) scLVert.nd rfl (Or.inl rfl))
          (fun _ _ _ _ _ => pts_one (pt_cmpR op_eq (pe_callB call_len_seq (by rfl) T.zLen PySem.boot_len (pa_cons (pv 1) pa_nil)) pe_int (nomark _)))
          (fun _ _ _ _ _ => pe_ix ix_tup (pv 1) pe_int (fun _ _ => rfl)))
    refine ⟨_, rfl, l, rfl, ⟨_, SqL.of el⟩, fun D hD => ?_⟩
    refine lc_fun ext_same (bs := ss) (walk_list' (K := K) (a := l) (xs := fs) (Paired.len rf)) (fun s => decide (s.length = 1)) headI (fun _ y c => y = .int c) (fun _ h => h) hD (Same.refl _) (by omega) (fun H2 s2 => Same.seq s2 (SqL.of el)) ?_ ?_
    · rintro j y b H2 H3 NT NF hb sm2 ⟨rfl, hy⟩ ht hf
      obtain ⟨b', hb', qa, rfl, e2⟩ := Paired.at rf hy
      obtain rfl : b = b' := Option.some.inj (hb.symm.trans hb')
      have e2 := sm2 _ _ e2
      refine ⟨rfl, _, rfl, qa, _, rfl, .inr (.inl (.inl e2)), rfl, _, rfl, ?_⟩
      rw [List.length_map]
      by_cases h1 : b.length = 1
      · refine ite2 (fun _ => ?_) (fun h => absurd (by rw [h1]; rfl) h)
        refine ⟨_, rfl, qa, b.map V.int, 0, .int (headI b), rfl, rfl, .inl (.inl e2), ?_, ht (decide_eq_true h1) _ _ (Same.refl _) rfl⟩
        rw [one_iff h1]
        rfl
      · refine ite2 (fun h => ?_) (fun _ => hf (decide_eq_false h1) _ (Same.refl _))
        exfalso
        have h2 := V.int.inj (of_decide_eq_true h)
        exact h1 (by omega)
    · intro H2 ys sm2 hD2 r2
      have ey := Paired.eqv (g := V.int) r2
      exact q _ _ sm2 (by rw [hD2, ey])
end
end B72
set_option Elab.async false
set_option linter.all false
set_option maxRecDepth 100000
set_option maxHeartbeats 4000000
/-! _law_wide. -/
namespace B72
open PySem PySem.Spec PyProof.Rows L2 R72 Mk72
theorem inV_ints (v : Int) : ∀ s : List Int, inV (.int v) (s.map V.int) = decide (v ∈ s)
  | [] => by simp [inV]
  | a :: s => by
    have ih := inV_ints v s
    unfold inV at ih ⊢
    rw [List.map_cons, List.any_cons, ih]
    have e : eqV (.int a) (.int v) = decide (v = a) := by
      show (a == v) = _
      by_cases h : a = v
      · simp [h]
      · simp [h, Ne.symm h, show ¬ v = a from fun z => h z.symm]
    rw [e]
    by_cases h : v = a <;> by_cases h2 : v ∈ s <;> simp [h, h2]
theorem flat_ints (s : List Int) : (s.map V.int).all flatV = true := by
  rw [List.all_map, List.all_eq_true]
  intro x _
  rfl
section
variable {P : Program} {w : World} {K : PySem.W.Frag} {mg : Str → Option Value} {base : Heap}
def spLWide (K : PySem.W.Frag) : Sp := fun vs H Q _ => ∃ sa ns r most size, vs = [.ref r, .int most, .int size] ∧ Row K sa ns r H ∧ 5 < most ∧ most ≤ 7 ∧ 2 < size ∧ size ≤ 1000 ∧ ∀ H' v ss, RowUp K sa ns r H H' → TupSs H' v ss → (∀ s ∈ ss, Ok s) → ss.length ≤ 30 → Q v H'
abbrev nLWide : List Str := ["_law_row", "_law_most", "_law_size", "_law_way", "_law_base", "_law_tip", "_law_found", "_law_last", "_law_turn", "_law_fresh", "_law_rest", "_law_face", "_law_vertex"]
theorem scLWide : FnScope nLWide ["_law_row", "_law_most", "_law_size"] (defScope sLWide) := ⟨rfl, rfl, rfl, by decide +kernel, rfl, by decide +kernel, by decide +kernel⟩
abbrev tCone (K : PySem.W.Frag) (w : World) : TE := tCB (rTupOf K) (tCons (tCB (rSortedSet w) (tCons (tCB (rSetI K w) (tCons (tOp (rCatA K) (tVar 11) (tTup (tCons (tVar 5) tNil))) tNil)) tNil)) tNil)
theorem ok_lwide {f : Addr} {fd : FuncData} {k : Nat} (hk : 3 ≤ k) (F : Fun K "_law_wide" "_law_wide" sLWide f fd) (T : Fx mg) (c1 : Cal72 P w K mg base 1 "_law_taken" (spTaken K)) (c2 : Cal72 P w K mg base 3 "_law_simplices" (spLSxs K)) (c3 : Cal72 P w K mg base 2 "_law_pick" (spPick K)) :
    FnOk P w K mg base CX0 (k + 1) f fd ["_law_row", "_law_most", "_law_size"] (spLWide K) := by
  refine F.ok scLWide (fun vs H Q E h => ?_) (fun cdv A outer s H vs Q E hr h => ?_)
  · obtain ⟨_, _, _, _, _, rfl, _⟩ := h
    rfl
  · obtain ⟨sa, ns, r, most, size, rfl, hrow, hm0, hm1, hz0, hz1, q⟩ := h
    apply Exists.intro
    apply And.intro
    · apply pss_cons
      · exact ps_par (i := 3) (j := 4) (by rfl) scLWide.nd rfl rfl (by decide) rfl rfl (pa_cons (C8.pe_c c1 hr (by omega) (by rfl) (pa_cons (pv 0) (pa_cons pe_int pa_nil))) (pa_cons (C8.pe_c c2 hr hk (by rfl) (pa_cons (pv 0) (pa_cons (pv 1) (pa_cons (pv 2) pa_nil)))) pa_nil)) (by rfl)
      apply pss_cons
      · exact ps_if (pt_cmpR op_eq (pv 3) pe_int (nomark _))
          (pss_cons (ps_set (i := 5) scLWide.nd rfl (.inr rfl) (C8.pe_c c1 hr (by omega) (by rfl) (pa_cons (pv 0) (pa_cons (pv 1) pa_nil))))
          (pss_one (ps_ret (pe_op op_catA (pe_callTy call_tuple_of (by rfl) T.zTuple (by decide +kernel) (pa_cons
            (pe_lc (own := [("_law_face", 11)]) (g := gName 11) (tt := tYes) (te := tCone K w) rfl scLWide.nd (pi_tup (pv 4))
              (blkOk_by (own := [("_law_face", 11)]) (N := nLWide) (sc := defScope sLWide) (by decide +kernel))
              (fun _ _ _ _ _ => pg_name (i := 11) scLWide.nd rfl (.inl rfl)) (fun _ _ _ _ _ => pts_nil)
              (fun _ _ _ _ _ => pe_callTy call_tuple_of (by rfl) T.zTuple (by decide +kernel) (pa_cons (pe_callB (cr_sortedSet rfl) (by rfl) T.zSorted (by decide +kernel) (pa_cons
                (pe_callTy (cr_setI rfl) (by rfl) T.zSet (by decide +kernel) (pa_cons (pe_op op_catA (pv 11) (pe_tup (pa_cons (pv 5) pa_nil))) pa_nil)) pa_nil)) pa_nil))) pa_nil))
            (pe_tup (pa_cons (pe_tup (pa_cons (pv 5) pa_nil)) pa_nil)))))) pss_nil
      apply pss_cons
      · exact ps_if (pt_cmpR op_eq (pv 3) pe_int (nomark _))
          (pss_cons (ps_asg (pe_tup (pa_cons (pe_lst pa_nil) (pa_cons (pe_tupRg rfl (by rfl) T.zTuple (prg_1 (by rfl) T.zRange (pe_callB (call_min2 rfl) (by rfl) T.zMin (by decide +kernel) (pa_cons (pv 2) (pa_cons (pv 1) pa_nil))))) pa_nil)))
            (pg_tup rfl (pgs_cons (pg_name (i := 6) scLWide.nd rfl (.inl rfl)) (pgs_cons (pg_name (i := 7) scLWide.nd rfl (.inr rfl)) pgs_nil))))
          (pss_cons (ps_for PassesOwn.never rfl (pi_range1 (by rfl) T.zRange (pa_cons (C8.pe_c c1 hr (by omega) (by rfl) (pa_cons (pv 0) (pa_cons pe_int pa_nil))) pa_nil)) (pg_name (i := 8) scLWide.nd rfl (.inl rfl))
            (pss_cons (ps_expr (pe_bm PySem.F.plainAttrs_list PySem.F.slot_list_append PySem.F.type_list_append mt_append (pv 6) (pa_cons (pv 7) pa_nil)))
            (pss_cons (ps_setLc (i := 9) (own := [("_law_vertex", 12)]) (g := gName 12) (tt := tTest (tOp (rIn K true) (tVar 12) (tVar 7))) (te := tVar 12) (by rfl) scLWide.nd rfl rfl (sw_true rfl rfl rfl (by decide +kernel)) (pi_range1 (by rfl) T.zRange (pa_cons (pv 1) pa_nil))
              (blkOk_by (own := [("_law_vertex", 12)]) (N := nLWide) (sc := defScope sLWide) (by decide +kernel))
              (fun _ _ _ _ _ => pg_name (i := 12) scLWide.nd rfl (.inl rfl)) (fun _ _ _ _ _ => pts_one (pt_cmpR op_notIn_seq (pv 12) (pv 7) (by rfl))) (fun _ _ _ _ _ => pv 12))
            (pss_one (ps_if (pt_cmpR (op_neD hr.units) (pv 9) (pe_lst pa_nil) (nomark _))
              (pss_cons (ps_set (i := 10) scLWide.nd rfl (.inl rfl) (pe_callTy call_list_of (by rfl) T.zList (by decide +kernel) (pa_cons (pv 7) pa_nil)))
              (pss_cons (ps_expr (pe_bm PySem.F.plainAttrs_list PySem.F.slot_list_pop PySem.F.type_list_pop mt_popAt (pv 10) (pa_cons (C8.pe_c c1 hr (by omega) (by rfl) (pa_cons (pv 0) (pa_cons (pe_callB call_len_seq (by rfl) T.zLen PySem.boot_len (pa_cons (pv 10) pa_nil)) pa_nil))) pa_nil)))
              (pss_one (ps_set (i := 7) scLWide.nd rfl (.inr rfl) (pe_callTy call_tuple_of (by rfl) T.zTuple (by decide +kernel) (pa_cons (pe_callB cr_sortedI (by rfl) T.zSorted (by decide +kernel) (pa_cons
                (pe_op op_cat (pv 10) (pe_lst (pa_cons (C8.pe_c c3 hr (by omega) (by rfl) (pa_cons (pv 0) (pa_cons (pv 9) pa_nil))) pa_nil))) pa_nil)) pa_nil)))))) pss_nil)))))
          (pss_one (ps_ret (pe_callTy call_tuple_of (by rfl) T.zTuple (by decide +kernel) (pa_cons (pv 6) pa_nil)))))) pss_nil
      apply pss_one
      exact ps_ret (pv 4)
    refine ⟨_, rfl, sa, ns, r, 4, rfl, hrow, by decide, by decide, fun H1 way u1 hw0 hw1 => ?_⟩
    refine ⟨_, rfl, _, rfl, _, rfl, sa, ns, r, most, size, rfl, u1.2.2, hm0, hm1, hz0, hz1, fun H2 vb ss u2 hvb hok hlen => ?_⟩
    have u12 := u1.trans u2
    obtain ⟨ab, xs, rfl, eb, rb⟩ := hvb
    have xlen := Paired.len rb
    refine ⟨_, _, rfl, _, rfl, rfl, _, rfl, ?_⟩
    refine ite2 (fun _ => ?_) (fun _ => ?_)
    · -- a cone
      refine ⟨_, rfl, _, rfl, sa, ns, r, most, rfl, u2.2.2, by omega, by omega, fun H3 tip u3 ht0 ht1 => ?_⟩
      have rb3 : ab ≠ r := by
        obtain ⟨_, _, _, _, _, e, _⟩ := u2.2.2
        exact ne_of eb e (by intro z; cases z)
      have eb3 := u3.1 _ _ rb3 eb
      have rs3 := IsSs.kt ((ext_row (K := K) (sa := sa) (ns := ns) (r := r)).kt u3) rb
      have hsq : SqT K H3 ab xs := .inl (.inl eb3)
      refine ⟨_, rfl, ab, rfl, ⟨_, hsq⟩, fun D hD => ?_⟩
      have okc : ∀ s, Ok s → Ok (upOf (s ++ [tip])) := fun s hs => by
        refine ⟨fun z => ?_, up_upOf _, fun v hv => ?_⟩
        · have : tip ∈ upOf (s ++ [tip]) := mem_upOf.mpr (by simp)
          rw [z] at this
          cases this
        · rcases List.mem_append.mp (mem_upOf.mp hv) with h | h
          · exact hs.bd v h
          · have := List.mem_singleton.mp h
            omega
      refine lc_fun ext_same (bs := ss) (walk_tup' (K := K) (a := ab) (xs := xs) xlen) (fun _ => true) (fun s => upOf (s ++ [tip])) IsS (fun kt h => h.kt kt) hD (Same.refl _) (by omega) (fun H' s => sqT_sm hsq s) ?_ ?_
      · rintro i x b H4 H5 NT NF hb s4 ⟨rfl, hx⟩ ht hf
        obtain ⟨b', hb', pa, rfl, hp⟩ := Paired.at rs3 hx
        obtain rfl : b = b' := Option.some.inj (hb.symm.trans hb')
        have hsok := hok b (List.mem_of_getElem? hb)
        have hsl := hsok.len
        refine ⟨rfl, _, rfl, _, rfl, by show 1 ≤ sizeLine; decide, fun p2 n2 => ?_⟩
        have t2 := same_upd (o := .tup [.int tip]) n2
        refine ⟨pa, p2, _, _, rfl, rfl, .inl (.inl (t2 _ _ (s4 _ _ hp))), .inl (.inl upd_same), ?_, fun zz => ?_, fun z1 z2 => absurd z2 (by simp), fun z1 z2 p3 n3 => ?_⟩
        · rw [List.length_map]
          show b.length + 1 ≤ sizeLine
          exact Nat.le_trans (show b.length + 1 ≤ 10 by omega) (by decide)
        · exact absurd (List.map_eq_nil_iff.mp zz) hsok.ne
        · have t3 := same_upd (o := .tup (b.map V.int ++ [.int tip])) n3
          refine ⟨p3, b ++ [tip], rfl, .inr (.inl (.inl (by rw [upd_same, List.map_append]; rfl))), by rw [List.length_append]; show b.length + 1 ≤ 1000; omega, fun p4 c n4 hc => ?_⟩
          have t4 := same_upd (o := SetO w p4 (fun j => decide (j ∈ b ++ [tip])) c) n4
          have hc2 : c < 64 := by
            rw [List.length_append] at hc
            have : c ≤ b.length + 1 := hc
            omega
          refine ⟨p4, _, c, rfl, upd_same, hc2, fun ms p5 up mem len n5 => ?_⟩
          have t5 := same_upd (o := .lst (ms.map V.int)) n5
          refine ⟨p5, _, rfl, .inl ⟨SqL.of upd_same, fun p6 n6 => ?_⟩⟩
          have t6 := same_upd (o := .tup (ms.map V.int)) n6
          have ems : ms = upOf (b ++ [tip]) := upOf_eq up fun x => (mem x).trans decide_eq_true_iff
          refine ht rfl _ _ (t2.trans (t3.trans (t4.trans (t5.trans t6)))) ⟨p6, rfl, ?_⟩
          rw [upd_same, ems]
      · intro H4 ys s4 hD4 r4
        rw [filter_yes] at r4
        refine ⟨D, ys, rfl, .inl ⟨SqL.of hD4, fun l nl => ?_⟩⟩
        have t5 := same_upd (o := .tup ys) nl
        refine ⟨_, rfl, by show 1 ≤ sizeLine; decide, fun p6 n6 => ⟨by show 1 ≤ sizeLine; decide, fun p7 n7 => ?_⟩⟩
        have t6 := same_upd (o := .tup [.int tip]) n6
        have t7 := same_upd (o := .tup [.ref p6]) n7
        have ylen := Paired.len r4
        rw [List.length_map] at ylen
        have ok1 : Ok [tip] := ⟨by simp, by simp, by intro v hv; have := List.mem_singleton.mp hv; omega⟩
        have uu := u12.trans (u3.same (s4.trans (t5.trans (t6.trans t7))))
        have e6 : (upd (upd (upd H4 l (.tup ys)) p6 (.tup [.int tip])) p7 (.tup [.ref p6])) p6 = some (.tup (([tip] : Sx).map V.int)) := t7 _ _ upd_same
        refine ⟨l, p7, _, _, rfl, rfl, .inl (.inl (t7 _ _ (t6 _ _ upd_same))), .inl (.inl upd_same), ?_, fun zz => ?_, fun z1 z2 => absurd z2 (by simp), fun z1 z2 p8 n8 => ?_⟩
        · show ys.length + 1 ≤ sizeLine
          exact Nat.le_trans (show ys.length + 1 ≤ 40 by omega) (by decide)
        · exact q _ _ [[tip]] uu ⟨p7, _, rfl, upd_same, .cons ⟨p6, rfl, e6⟩ .nil⟩ (fun s hs => by rw [List.mem_singleton.mp hs]; exact ok1) (by show 1 ≤ 30; decide)
        · have t8 := same_upd (o := .tup (ys ++ [.ref p6])) n8
          refine q _ _ (ss.map (fun s => upOf (s ++ [tip])) ++ [[tip]]) (uu.same t8) ⟨p8, _, rfl, upd_same, Paired.app (IsSs.kt (Same.kt (t5.trans (t6.trans (t7.trans t8)))) r4) (.cons ⟨p6, rfl, t8 _ _ e6⟩ .nil)⟩ (fun s hs => ?_) ?_
          · rcases List.mem_append.mp hs with h | h
            · obtain ⟨s', hs', rfl⟩ := List.mem_map.mp h
              exact okc s' (hok s' hs')
            · rw [List.mem_singleton.mp h]
              exact ok1
          · rw [List.length_append, List.length_map]
            show ss.length + 1 ≤ 30
            omega
    · refine ⟨_, rfl, rfl, _, rfl, ?_⟩
      refine ite2 (fun _ => ?_) (fun _ => ?_)
      · -- a chain of simplices
        refine ⟨by show 0 ≤ sizeLine; decide, fun pf npf => ?_⟩
        have t3 := same_upd (o := .lst []) npf
        refine ⟨_, rfl, _, rfl, size, most, rfl, ?_⟩
        obtain ⟨c, ec, hc0, hc1⟩ : ∃ c : Int, (if most < size then most else size) = c ∧ 0 < c ∧ c ≤ 7 := by
          split
          · exact ⟨_, rfl, by omega, by omega⟩
          · exact ⟨_, rfl, by omega, by omega⟩
        rw [ec]
        refine ⟨c, rfl, RgOk.of_le (by decide) (by omega) (by decide) (by omega), fun pl npl => ?_⟩
        rw [rgI_V]
        have t4 := same_upd (o := .tup ((rgI c).map V.int)) npl
        refine ⟨by show 2 ≤ sizeLine; decide, fun pp npp => ?_⟩
        have t5 := same_upd (o := .tup [.ref pf, .ref pl]) npp
        refine ⟨pp, _, rfl, .inl (.inl upd_same), rfl, _, _, rfl, _, _, rfl, rfl, ?_⟩
        have el : (upd (upd (upd H2 pf (.lst [])) pl (.tup ((rgI c).map V.int))) pp (.tup [.ref pf, .ref pl])) pl = some (.tup ((rgI c).map V.int)) := t5 _ _ upd_same
        have ef : (upd (upd (upd H2 pf (.lst [])) pl (.tup ((rgI c).map V.int))) pp (.tup [.ref pf, .ref pl])) pf = some (.lst []) := t5 _ _ (t4 _ _ upd_same)
        have u3 : RowUp K sa ns r H2 (upd (upd (upd H2 pf (.lst [])) pl (.tup ((rgI c).map V.int))) pp (.tup [.ref pf, .ref pl])) := RowUp.of u2.2.2 (t3.trans (t4.trans t5))
        show tSeq _ _ _ _ (upd (upd (upd H2 pf (.lst [])) pl (.tup ((rgI c).map V.int))) pp (.tup [.ref pf, .ref pl]))
        generalize upd (upd (upd H2 pf (.lst [])) pl (.tup ((rgI c).map V.int))) pp (.tup [.ref pf, .ref pl]) = H3 at el ef u3 ⊢
        have rf : pf ≠ r := u2.2.2.rn npf
        have okr : Ok (rgI c) := by
          refine ⟨fun z => ?_, rgI_up c, fun v hv => ?_⟩
          · have := mem_rgI.mpr (show 0 ≤ (0 : Int) ∧ (0 : Int) < c by omega)
            rw [z] at this
            cases this
          · have := mem_rgI.mp hv
            omega
        refine ⟨_, rfl, sa, ns, r, 5, rfl, u3.2.2, by decide, by decide, fun H4 n u4 hn0 hn1 => ?_⟩
        refine ⟨n, rfl, Int.le_trans (by decide) hn0, Int.lt_of_lt_of_le hn1 (by decide), ?_⟩
        have u34 := u3.trans u4
        refine for_range (lo := 0) (n := n.toNat) (fun j σ H' => ∃ o8 o9 o10 a s xs ss', σ = [some (.ref r), some (.int most), some (.int size), some (.int way), some (.ref ab), none, some (.ref pf), some (.ref a), o8, o9, o10, none, none] ∧ RowUp K sa ns r H2 H' ∧ H' pf = some (.lst xs) ∧ IsSs H' xs ss' ∧ (∀ s ∈ ss', Ok s) ∧ ss'.length = j ∧ H' a = some (.tup (s.map V.int)) ∧ Ok s)
          ⟨none, none, none, pl, rgI c, [], [], rfl, u34, u4.1 _ _ rf ef, .nil, by simp, rfl, (ext_row (K := K) (sa := sa) (ns := ns) (r := r)).kt u4 _ _ el, okr⟩ ?_ ?_
        · rintro j σ H' hj ⟨o8, o9, o10, a, s, xs', ss', rfl, u, e, hss, hok', hl, ha, hs⟩
          have hsl := hs.len
          have lenx := Paired.len hss
          refine ⟨_, rfl, .inl ⟨rfl, _, SqL.of e⟩, _, rfl, pf, xs', .ref a, rfl, rfl, e, by rw [lenx, hl]; exact Nat.lt_of_lt_of_le (show j < 10 by omega) (by decide), ?_⟩
          have uA : RowUp K sa ns r H2 (upd H' pf (.lst (xs' ++ [.ref a]))) := ext_row.md _ u npf
          have ktA := keepT_lst (l' := xs' ++ [.ref a]) e
          have haA := ktA _ _ ha
          have hssA : IsSs (upd H' pf (.lst (xs' ++ [.ref a]))) (xs' ++ [.ref a]) (ss' ++ [s]) := Paired.snoc ⟨a, rfl, haA⟩ (IsSs.kt ktA hss)
          have eA : (upd H' pf (.lst (xs' ++ [.ref a]))) pf = some (.lst (xs' ++ [.ref a])) := upd_same
          have hokA : ∀ t ∈ ss' ++ [s], Ok t := fun t ht => (List.mem_append.mp ht).elim (hok' t) (fun h => by rw [List.mem_singleton.mp h]; exact hs)
          have hlA : (ss' ++ [s]).length = j + 1 := by rw [List.length_append, hl]; rfl
          show tSeq _ _ _ _ (upd H' pf (.lst (xs' ++ [.ref a])))
          generalize upd H' pf (.lst (xs' ++ [.ref a])) = HA at uA haA hssA eA ⊢
          -- fresh
          refine ⟨_, rfl, most, rfl, Int.le_trans (by decide) (show (0 : Int) ≤ most by omega), Int.lt_of_le_of_lt hm1 (by decide), fun D hD => ?_⟩
          refine lc_fun ext_same (bs := rgI most) (walk_rg most) (fun v => decide (v ∉ s)) (fun v => v) (fun _ y c => y = .int c) (fun _ h => h) hD (Same.refl _) (by rw [rgI_len]; omega) (fun _ _ => trivial) ?_ ?_
          · rintro i x1 b1 H5 H6 NT2 NF2 hb1 s5 ⟨rfl, rfl⟩ ht2 hf2
            obtain ⟨eb1, _⟩ := get_rg hb1
            refine ⟨rfl, _, rfl, _, rfl, a, _, rfl, .inr (.inl (.inl (s5 _ _ haA))), rfl, flat_ints s, _, rfl, ?_⟩
            have ei : inV (.int (0 + (i : Int))) (s.map V.int) = decide (b1 ∈ s) := by rw [inV_ints, eb1]
            have hgo : (if true = true then !inV (.int (0 + (i : Int))) (s.map V.int) else inV (.int (0 + (i : Int))) (s.map V.int)) = decide (b1 ∉ s) := by
              rw [if_pos rfl, ei, decide_not]
            have go : ∀ c : Bool, (if true = true then !inV (.int (0 + (i : Int))) (s.map V.int) else inV (.int (0 + (i : Int))) (s.map V.int)) = c → decide (b1 ∉ s) = c := fun c h => by rw [← hgo]; exact h
            refine ite2 (fun h => ?_) (fun h => ?_)
            · exact ⟨_, rfl, ht2 (go true h) _ _ (Same.refl _) (congrArg V.int eb1.symm)⟩
            · refine hf2 (go false ?_) _ (Same.refl _)
              simpa using h
          · intro H5 ys s5 hD5 r5
            have ey : ys = ((rgI most).filter fun v => decide (v ∉ s)).map V.int := by
              have e := Paired.eqv (g := V.int) r5
              rw [e, List.map_id']
            obtain ⟨fr, efr⟩ : ∃ fr, fr = (rgI most).filter fun v => decide (v ∉ s) := ⟨_, rfl⟩
            rw [← efr] at ey
            have hD5' : H5 D = some (.lst (fr.map V.int)) := by rw [hD5, ey]
            have hfr : ∀ v ∈ fr, v ∉ s ∧ 0 ≤ v ∧ v < 7 := fun v hv => by
              rw [efr] at hv
              obtain ⟨h1, h2⟩ := List.mem_filter.mp hv
              have h3 := mem_rgI.mp h1
              have h4 := of_decide_eq_true h2
              exact ⟨h4, by omega, by omega⟩
            have hfl : fr.length ≤ 7 := by
              rw [efr]
              refine Nat.le_trans (List.length_filter_le _ _) ?_
              rw [rgI_len]
              omega
            have u5 := uA.same s5
            have e5 := s5 _ _ eA
            have ha5 := s5 _ _ haA
            have hss5 := IsSs.kt (Same.kt s5) hssA
            -- if fresh != []
            refine ⟨_, rfl, by show 0 ≤ sizeLine; decide, fun p6 n6 => ?_⟩
            have t6 := same_upd (o := .lst []) n6
            refine ne_ints (xs := fr) (ys := []) (t6 _ _ hD5') upd_same ⟨_, rfl, ?_⟩
            have u6 := u5.same t6
            have e6 := t6 _ _ e5
            have ha6 := t6 _ _ ha5
            have hss6 := IsSs.kt (Same.kt t6) hss5
            have hD6 := t6 _ _ hD5'
            have lenA : (xs' ++ [V.ref a]).length = (ss' ++ [s]).length := Paired.len hssA
            refine ite2 (fun hc => ?_) (fun hc => ?_)
            · have hne : fr ≠ [] := fun z => by
                rw [z] at hc
                simp at hc
              have hfp : 0 < fr.length := List.length_pos_iff.mpr hne
              have hsp : 0 < s.length := List.length_pos_iff.mpr hs.ne
              refine ⟨_, rfl, a, _, rfl, .inr (.inl (.inl ha6)), fun p7 n7 => ?_⟩
              have t7 := same_upd (o := .lst (s.map V.int)) n7
              have u7 := u6.same t7
              have b7 := u6.fr n7
              have n7f : p7 ≠ pf := fun z => by
                rw [z, e6] at n7
                cases n7
              have n7r : p7 ≠ r := u6.2.2.rn n7
              have nDr : D ≠ r := uA.2.2.rn hD
              have n7D : p7 ≠ D := fun z => by
                rw [z, hD6] at n7
                cases n7
              refine ⟨_, rfl, .inl ⟨rfl, _, SqL.of upd_same⟩, _, rfl, _, rfl, p7, _, rfl, .inl (SqL.of upd_same), sa, ns, r, _, rfl, u7.2.2, by rw [List.length_map]; omega, by rw [List.length_map]; omega, fun H8 y u8 hy0 hy1 => ?_⟩
              rw [List.length_map] at hy1
              have e78 := u8.1 _ _ n7r upd_same
              have hyn : y.toNat < s.length := by omega
              have hix : ixN (s.map V.int).length y = some y.toNat := by
                unfold ixN
                rw [if_pos hy0, if_pos (by rw [List.length_map]; omega)]
              refine ⟨p7, _, y, y.toNat, .int s[y.toNat], rfl, rfl, e78, by omega, by omega, (ixN_seq hix).1, by rw [List.getElem?_map, List.getElem?_eq_getElem hyn]; rfl, ?_⟩
              rw [mapErase]
              have u9 : RowUp K sa ns r H2 (upd H8 p7 (.lst ((s.eraseIdx y.toNat).map V.int))) := ext_row.md _ (u7.trans u8) b7
              have k9 := keepT_lst (l' := (s.eraseIdx y.toNat).map V.int) e78
              have e79 : (upd H8 p7 (.lst ((s.eraseIdx y.toNat).map V.int))) p7 = some (.lst ((s.eraseIdx y.toNat).map V.int)) := upd_same
              have ef9 : (upd H8 p7 (.lst ((s.eraseIdx y.toNat).map V.int))) pf = some (.lst (xs' ++ [.ref a])) := by
                rw [upd_ne n7f.symm]
                exact u8.1 _ _ rf (t7 _ _ e6)
              have eD9 : (upd H8 p7 (.lst ((s.eraseIdx y.toNat).map V.int))) D = some (.lst (fr.map V.int)) := by
                rw [upd_ne n7D.symm]
                exact u8.1 _ _ nDr (t7 _ _ hD6)
              have hss9 := IsSs.kt k9 (IsSs.kt ((ext_row (K := K) (sa := sa) (ns := ns) (r := r)).kt u8) (IsSs.kt (Same.kt t7) hss6))
              generalize upd H8 p7 (.lst ((s.eraseIdx y.toNat).map V.int)) = H9 at u9 e79 ef9 eD9 hss9 ⊢
              refine ⟨_, rfl, _, rfl, _, rfl, sa, ns, r, D, fr.map V.int, rfl, u9.2.2, nDr, eD9, by rw [List.length_map]; omega, by rw [List.length_map]; omega, fun H10 jj v u10 hv => ?_⟩
              obtain ⟨z, hz, rfl⟩ := get_int hv
              have hzf := hfr z (List.mem_of_getElem? hz)
              refine ⟨by show 1 ≤ sizeLine; decide, fun p11 n11 => ?_⟩
              have t11 := same_upd (o := .lst [.int z]) n11
              refine ⟨p7, p11, _, _, rfl, rfl, t11 _ _ (u10.1 _ _ n7r e79), upd_same, ?_, fun p12 n12 => ?_⟩
              · rw [List.length_map]
                show (s.eraseIdx y.toNat).length + 1 ≤ sizeLine
                have := List.length_eraseIdx_le (l := s) (i := y.toNat)
                exact Nat.le_trans (show (s.eraseIdx y.toNat).length + 1 ≤ 10 by omega) (by decide)
              · have t12 := same_upd (o := .lst ((s.eraseIdx y.toNat).map V.int ++ [.int z])) n12
                refine ⟨p12, s.eraseIdx y.toNat ++ [z], rfl, SqL.of (by rw [upd_same, List.map_append]; rfl), fun ms p13 perm pw n13 => ?_⟩
                have t13 := same_upd (o := .lst (ms.map V.int)) n13
                refine ⟨p13, _, rfl, .inl ⟨SqL.of upd_same, fun p14 n14 => ?_⟩⟩
                have t14 := same_upd (o := .tup (ms.map V.int)) n14
                have tt := t11.trans (t12.trans (t13.trans t14))
                have sub : ∀ v ∈ s.eraseIdx y.toNat, v ∈ s := fun v hv => (List.eraseIdx_sublist s y.toNat).subset hv
                refine ⟨_, _, _, p14, ms, _, ss' ++ [s], rfl, u9.trans (u10.same tt), tt _ _ (u10.1 _ _ rf ef9), IsSs.kt (Same.kt tt) (IsSs.kt ((ext_row (K := K) (sa := sa) (ns := ns) (r := r)).kt u10) hss9), hokA, hlA, upd_same, ok_sorted perm pw ?_ (by simp) ?_⟩
                · refine List.nodup_append.mpr ⟨(List.eraseIdx_sublist s y.toNat).nodup (up_nodup hs.up), List.nodup_cons.mpr ⟨List.not_mem_nil, .nil⟩, fun a ha b hb e => ?_⟩
                  rw [List.mem_singleton.mp hb] at e
                  exact hzf.1 (e ▸ sub a ha)
                · intro v hv
                  rcases List.mem_append.mp hv with h | h
                  · exact hs.bd v (sub v h)
                  · rw [List.mem_singleton.mp h]
                    exact hzf.2
            · exact ⟨_, _, _, a, s, _, ss' ++ [s], rfl, u6, e6, hss6, hokA, hlA, ha6, hs⟩
        · rintro σ H' ⟨o8, o9, o10, a, s, xs', ss', rfl, u, e, hss, hok', hl, ha, hs⟩
          refine ⟨_, rfl, pf, xs', rfl, .inl ⟨SqL.of e, fun l nl => ?_⟩⟩
          have t := same_upd (o := .tup xs') nl
          exact q _ _ ss' (u12.trans (u.same t)) ⟨l, xs', rfl, upd_same, IsSs.kt (Same.kt t) hss⟩ hok' (by omega)
      · exact ⟨_, rfl, q _ _ ss u12 ⟨ab, xs, rfl, eb, rb⟩ hok (by omega)⟩
end
end B72
set_option Elab.async false
set_option linter.all false
set_option maxRecDepth 100000
set_option maxHeartbeats 4000000
/-! _law_map. -/
namespace B72
open PySem PySem.Spec PyProof.Rows L2 R72 Mk72
/-! ### names: a dict of ints -/
structure NmOk (own : List Int) (ps : List (Int × Int)) : Prop where
  nd : (ps.map (·.1)).Nodup
  sub : ∀ v ∈ ps.map (·.1), v ∈ own
def putP (ps : List (Int × Int)) (v i : Int) : List (Int × Int) := if v ∈ ps.map (·.1) then ps.map (fun p => if p.1 = v then (v, i) else p) else ps ++ [(v, i)]
def dropP (ps : List (Int × Int)) (v : Int) : List (Int × Int) := ps.filter fun p => decide (p.1 ≠ v)
theorem putK_eK (ps : List (Int × Int)) (v i : Int) : putK (ps.map eK) (Sum.inl v) (.int i) = (putP ps v i).map eK := by
  unfold putK putP
  have e : ((ps.map eK).any fun kv => decide (kv.1 = Sum.inl v)) = decide (v ∈ ps.map (·.1)) := by
    rw [List.any_map]
    induction ps with
    | nil => simp
    | cons p ps ih =>
      rw [List.any_cons, ih]
      by_cases h : p.1 = v
      · simp [eK, h]
      · have h2 : ¬ v = p.1 := fun z => h z.symm
        simp [eK, h, h2]
  rw [e]
  by_cases h : v ∈ ps.map (·.1)
  · rw [if_pos (decide_eq_true h), if_pos h, List.map_map, List.map_map]
    refine List.map_congr_left fun p _ => ?_
    show (if Sum.inl p.1 = (Sum.inl v : Key) then ((Sum.inl p.1 : Key), V.int i) else eK p) = eK (if p.1 = v then (v, i) else p)
    by_cases h2 : p.1 = v
    · rw [if_pos (by rw [h2]), if_pos h2, h2]
      rfl
    · rw [if_neg (fun z => h2 (Sum.inl.inj z)), if_neg h2]
  · rw [if_neg (by simpa using h), if_neg h, List.map_append]
    rfl
theorem putP_fst (ps : List (Int × Int)) (v i : Int) : (putP ps v i).map (·.1) = if v ∈ ps.map (·.1) then ps.map (·.1) else ps.map (·.1) ++ [v] := by
  unfold putP
  by_cases h : v ∈ ps.map (·.1)
  · rw [if_pos h, if_pos h, List.map_map]
    refine List.map_congr_left fun p _ => ?_
    show (if p.1 = v then (v, i) else p).1 = p.1
    by_cases h2 : p.1 = v
    · rw [if_pos h2, h2]
    · rw [if_neg h2]
  · rw [if_neg h, if_neg h, List.map_append]
    rfl
theorem dropK_eK (ps : List (Int × Int)) (v : Int) : dropK (ps.map eK) (Sum.inl v) = (dropP ps v).map eK := by
  unfold dropK dropP
  rw [List.filter_map]
  congr 1
  refine List.filter_congr fun p _ => ?_
  show decide ((Sum.inl p.1 : Key) ≠ Sum.inl v) = decide (p.1 ≠ v)
  by_cases h : p.1 = v
  · simp [h]
  · simp [h]
theorem NmOk.put {own : List Int} {ps : List (Int × Int)} (h : NmOk own ps) {v : Int} (hv : v ∈ own) (i : Int) : NmOk own (putP ps v i) := by
  constructor
  · rw [putP_fst]
    split
    · exact h.nd
    · rename_i hn
      exact List.nodup_append.mpr ⟨h.nd, List.nodup_cons.mpr ⟨List.not_mem_nil, .nil⟩, fun a ha b hb e => hn (by rw [List.mem_singleton.mp hb] at e; exact e ▸ ha)⟩
  · intro x hx
    rw [putP_fst] at hx
    split at hx
    · exact h.sub x hx
    · rcases List.mem_append.mp hx with q | q
      · exact h.sub x q
      · rw [List.mem_singleton.mp q]
        exact hv
theorem NmOk.drop {own : List Int} {ps : List (Int × Int)} (h : NmOk own ps) (v : Int) : NmOk own (dropP ps v) := by
  have hs : ((dropP ps v).map (·.1)).Sublist (ps.map (·.1)) := List.Sublist.map _ List.filter_sublist
  exact ⟨hs.nodup h.nd, fun x hx => h.sub x (hs.subset hx)⟩
theorem NmOk.len {own : List Int} {ps : List (Int × Int)} (h : NmOk own ps) : ps.length ≤ own.length := by
  have := nodup_le _ _ h.nd h.sub
  rwa [List.length_map] at this
theorem NmOk.full {own : List Int} {ps : List (Int × Int)} (h : NmOk own ps) (e : ps.length = own.length) {v : Int} (hv : v ∈ own) : v ∈ ps.map (·.1) := by
  refine Decidable.byContradiction fun hn => ?_
  have h1 : (v :: ps.map (·.1)).Nodup := List.nodup_cons.mpr ⟨hn, h.nd⟩
  have := nodup_le _ own h1 fun x hx => by
    rcases List.mem_cons.mp hx with q | q
    · rw [q]; exact hv
    · exact h.sub x q
  rw [List.length_cons, List.length_map] at this
  omega
/-! ### data of simplices -/
theorem lay_Ss : ∀ G : List Sx, PyData.canLayAll0 (G.map encS) = true ∧ PyData.depthAll (G.map encS) ≤ 8
  | [] => by simp [PyData.canLayAll0, PyData.depthAll]
  | s :: G => by
    obtain ⟨h1, h2⟩ := lay_Ss G
    have h3 := depth_S s
    have h4 : (encS s).canLay0 = true := SeqAt.canLay_of_shaped (shaped_tints s)
    constructor
    · simp [PyData.canLayAll0, h1, h4]
    · simp only [List.map_cons, PyData.depthAll]
      omega
theorem shaped_Ss (G : List Sx) : SeqAt.shaped (.list (G.map encS)) = true := by
  obtain ⟨h1, h2⟩ := lay_Ss G
  show (PyData.canLay0 (.list (G.map encS)) && decide (PyData.depth (.list (G.map encS)) ≤ 64)) = true
  rw [Bool.and_eq_true]
  exact ⟨by simp only [PyData.canLay0]; exact h1, decide_eq_true (by simp only [PyData.depth]; omega)⟩
theorem dpa_Ss {K : PySem.W.Frag} {H : Hp} : ∀ {ys : List V} {G : List Sx}, IsSs H ys G → DpAll K H ys (G.map encS)
  | _, _, .nil => .nil
  | _, _, .cons h t => .cons (dp_S h) (dpa_Ss t)
theorem any_Ss (t : Sx) : ∀ G : List Sx, ((G.map encS).any fun z => PyData.eqv z (encS t)) = decide (t ∈ G)
  | [] => by simp
  | s :: G => by
    rw [List.map_cons, List.any_cons, any_Ss t G]
    have e : PyData.eqv (encS s) (encS t) = decide (s = t) := eqv_tupS s t
    rw [e]
    by_cases h : s = t
    · simp [h]
    · have h2 : ¬ t = s := fun z => h z.symm
      simp [h, h2]
theorem notin_Ss {K : PySem.W.Frag} {H : Hp} {v : V} {p : Addr} {ys : List V} {t : Sx} {G : List Sx} {Q : VK} (h1 : IsS H v t) (h2 : H p = some (.lst ys)) (h3 : IsSs H ys G) (q : Q (.bl (decide (t ∉ G))) H) : rNotInD K v (.ref p) H Q := by
  refine ⟨encS t, G.map encS, dp_S h1, .lst (SqL.of h2) (dpa_Ss h3), shaped_tints t, shaped_Ss G, ?_⟩
  rw [any_Ss, ← decide_not]
  exact q
theorem eq_ints {K : PySem.W.Frag} {H : Hp} {p q : Addr} {xs ys : List Int} {Q : VK} (h1 : H p = some (.lst (xs.map V.int))) (h2 : H q = some (.lst (ys.map V.int))) (h : Q (.bl (decide (xs = ys))) H) : rEqD K (.ref p) (.ref q) H Q := by
  refine ⟨.list (xs.map .int), .list (ys.map .int), .lst (SqL.of h1) (dpa_ints xs), .lst (SqL.of h2) (dpa_ints ys), PySem.W.shaped_ints xs, PySem.W.shaped_ints ys, ?_⟩
  rw [PyData.eqv, eqvAll_ints]
  exact h
theorem hu65 {A : Around} {k : Nat} (hr : Room k A) : A.units + 65 < cLine := by
  have := hr.un
  omega
theorem row_ne {K : PySem.W.Frag} {sa : Addr} {ns : List Int} {r : Addr} {H : Hp} (h : Row K sa ns r H) {p : Addr} {xs : List Int} (e : H p = some (.lst (xs.map V.int))) : p ≠ r := by
  obtain ⟨_, _, i, n, z, q, _⟩ := h
  intro hp
  rw [hp, q] at e
  injection e with e
  injection e with e
  cases xs with
  | nil => cases e
  | cons a xs =>
    injection e with e _
    cases e
theorem row_neS {K : PySem.W.Frag} {sa : Addr} {ns : List Int} {r : Addr} {H : Hp} (h : Row K sa ns r H) {p : Addr} {xs : List V} {F : List Sx} (e : H p = some (.lst xs)) (rs : IsSs H xs F) : p ≠ r := by
  obtain ⟨_, _, i, n, z, q, _⟩ := h
  intro hp
  rw [hp, q] at e
  injection e with e
  injection e with e
  subst e
  cases rs with
  | cons _ t =>
    cases t with
    | cons h2 _ =>
      obtain ⟨_, e2, _⟩ := h2
      cases e2
section
variable {P : Program} {w : World} {K : PySem.W.Frag} {mg : Str → Option Value} {base : Heap}
def vOf (F : List Sx) : List Int := (F.filter fun s => decide (s.length = 1)).map headI
/-- a tuple of pairs of ints -/
def IsNm (H : Hp) (v : V) (ps : List (Int × Int)) : Prop := ∃ a xs, v = .ref a ∧ FzT H a xs ∧ Paired (fun x (p : Int × Int) => IsPr H x p.1 (.int p.2)) xs ps
def spLMap (K : PySem.W.Frag) : Sp := fun vs H Q _ => ∃ sa ns r v1 v2 F G, vs = [.ref r, v1, v2] ∧ Row K sa ns r H ∧ LstSs H v1 F ∧ LstSs H v2 G ∧ F.length ≤ 200 ∧ G.length ≤ 200 ∧ (∀ s ∈ F, Ok s) ∧ (∀ s ∈ G, Ok s) ∧ (vOf F).Nodup ∧
  ∀ H' v, RowUp K sa ns r H H' → (v = .non ∨ ∃ ps, IsNm H' v ps ∧ ps.map (·.1) = vOf F) → Q v H'
abbrev nLMap : List Str := ["_law_row", "_law_faces_here", "_law_others", "_law_own", "_law_far", "_law_again", "_law_names", "_law_vertex", "_law_some", "_law_image", "_law_bad", "_law_face", "_law_one"]
theorem scLMap : FnScope nLMap ["_law_row", "_law_faces_here", "_law_others"] (defScope sLMap) := ⟨rfl, rfl, rfl, by decide +kernel, rfl, by decide +kernel, by decide +kernel⟩
theorem ok_lmap {f : Addr} {fd : FuncData} {k : Nat} (hk : 2 ≤ k) (F : Fun K "_law_map" "_law_map" sLMap f fd) (T : Fx mg) (c1 : Cal72 P w K mg base 1 "_law_vertices" spLVert) (c3 : Cal72 P w K mg base 2 "_law_pick" (spPick K)) :
    FnOk P w K mg base CX0 (k + 1) f fd ["_law_row", "_law_faces_here", "_law_others"] (spLMap K) := by
  refine F.ok scLMap (fun vs H Q E h => ?_) (fun cdv A outer s H vs Q E hr h => ?_)
  · obtain ⟨_, _, _, _, _, _, _, rfl, _⟩ := h
    rfl
  · obtain ⟨sa, ns, r, v1, v2, F1, G1, rfl, hrow, ⟨lf, fs, rfl, elf, rfs⟩, ⟨lg, gs, rfl, elg, rgs⟩, hF, hG, okF, okG, hnd, q⟩ := h
    apply Exists.intro
    apply And.intro
    · apply pss_cons
      · exact ps_par (i := 3) (j := 4) (by rfl) scLMap.nd rfl rfl (by decide) rfl rfl (pa_cons (C8.pe_c c1 hr (by omega) (by rfl) (pa_cons (pv 1) pa_nil)) (pa_cons (C8.pe_c c1 hr (by omega) (by rfl) (pa_cons (pv 2) pa_nil)) pa_nil)) (by rfl)
      apply pss_cons
      · exact ps_for PassesOwn.never rfl (pi_range1 (by rfl) T.zRange (pa_cons pe_int pa_nil)) (pg_name (i := 5) scLMap.nd rfl (.inl rfl))
          (pss_cons (ps_set (i := 6) scLMap.nd rfl (.inr rfl) pe_dnewK)
          (pss_cons (ps_for PassesOwn.never rfl (pi_list (pv 3)) (pg_name (i := 7) scLMap.nd rfl (.inl rfl))
            (pss_cons (ps_set (i := 8) scLMap.nd rfl (.inl rfl) (pe_lst pa_nil))
            (pss_cons (ps_for PassesOwn.never rfl (pi_list (pv 4)) (pg_name (i := 9) scLMap.nd rfl (.inl rfl))
              (pss_cons (ps_dput (hu_of hr) (pv 6) (pv 7) (pv 9) rfl)
              (pss_cons (ps_set (i := 10) scLMap.nd rfl (.inl rfl) pe_int)
              (pss_cons (ps_for PassesOwn.never rfl (pi_list (pv 1)) (pg_name (i := 11) scLMap.nd rfl (.inl rfl))
                (pss_one (ps_if (PW.pt (pw_and (pt_cmpR op_in_seq (pv 7) (pv 11) (by rfl)) (pw_and1 (pt_cmpR (op_eqD hr.units)
                    (pe_lc (own := [("_law_one", 12)]) (g := gName 12) (tt := tB (tDNotIn (tVar 12) (tVar 6))) (te := tVar 12) rfl scLMap.nd (pi_tup (pv 11))
                      (blkOk_by (own := [("_law_one", 12)]) (N := nLMap) (sc := defScope sLMap) (by decide +kernel))
                      (fun _ _ _ _ _ => pg_name (i := 12) scLMap.nd rfl (.inl rfl)) (fun _ _ _ _ _ => pts_one (pt_cmp (pc_dnotin (hu_of hr) (pv 12) (pv 6)))) (fun _ _ _ _ _ => pv 12))
                    (pe_lst pa_nil) (nomark _)))))
                  (pss_one (ps_if (pt_cmpR (op_notInD (hu65 hr)) (pe_callTy call_tuple_of (by rfl) T.zTuple (by decide +kernel) (pa_cons (pe_callB (cr_sortedSet rfl) (by rfl) T.zSorted (by decide +kernel) (pa_cons
                      (pe_callTy (cr_setI rfl) (by rfl) T.zSet (by decide +kernel) (pa_cons
                        (pe_lc (own := [("_law_one", 12)]) (g := gName 12) (tt := tYes) (te := tDGet (tVar 6) (tVar 12)) rfl scLMap.nd (pi_tup (pv 11))
                          (blkOk_by (own := [("_law_one", 12)]) (N := nLMap) (sc := defScope sLMap) (by decide +kernel))
                          (fun _ _ _ _ _ => pg_name (i := 12) scLMap.nd rfl (.inl rfl)) (fun _ _ _ _ _ => pts_nil) (fun _ _ _ _ _ => pe_dget (hu_of hr) (pv 6) (pv 12) (fun _ _ => rfl))) pa_nil)) pa_nil)) pa_nil)) (pv 2) (by rfl))
                    (pss_one (ps_set (i := 10) scLMap.nd rfl (.inl rfl) (pe_op op_add (pv 10) pe_int))) pss_nil)) pss_nil)))
              (pss_one (ps_if (pt_cmpR op_eq (pv 10) pe_int (nomark _)) (pss_one (ps_expr (pe_bm PySem.F.plainAttrs_list PySem.F.slot_list_append PySem.F.type_list_append mt_append (pv 8) (pa_cons (pv 9) pa_nil)))) pss_nil))))))
            (pss_cons (ps_expr (pe_dpop2 (pv 6) (pv 7) pe_non ⟨rfl, rfl, rfl, rfl⟩))
            (pss_one (ps_if (pt_cmpR (op_neD hr.units) (pv 8) (pe_lst pa_nil) (nomark _))
              (pss_one (ps_dput (hu_of hr) (pv 6) (pv 7) (C8.pe_c c3 hr hk (by rfl) (pa_cons (pv 0) (pa_cons (pv 8) pa_nil))) rfl)) pss_nil))))))
          (pss_one (ps_if (pt_cmpR op_eq (pe_callB call_lenD (by rfl) T.zLen PySem.boot_len (pa_cons (pv 6) pa_nil)) (pe_callB call_len_seq (by rfl) T.zLen PySem.boot_len (pa_cons (pv 3) pa_nil)) (nomark _))
            (pss_one (ps_ret (pe_callTy cr_tupF (by rfl) T.zTuple (by decide +kernel) (pa_cons
              (pe_lc (own := [("_law_vertex", 7)]) (g := gName 7) (tt := tYes) (te := tTup (tCons (tVar 7) (tCons (tDGet (tVar 6) (tVar 7)) tNil))) rfl scLMap.nd (pi_list (pv 3))
                (blkOk_by (own := [("_law_vertex", 7)]) (N := nLMap) (sc := defScope sLMap) (by decide +kernel))
                (fun _ _ _ _ _ => pg_name (i := 7) scLMap.nd rfl (.inl rfl)) (fun _ _ _ _ _ => pts_nil) (fun _ _ _ _ _ => pe_tup (pa_cons (pv 7) (pa_cons (pe_dget (hu_of hr) (pv 6) (pv 7) (fun _ _ => rfl)) pa_nil)))) pa_nil)))) pss_nil))))
      apply pss_one
      exact ps_ret pe_non
    refine ⟨_, rfl, _, F1, rfl, ⟨lf, fs, rfl, elf, rfs⟩, by omega, fun H1 po s1 eo => ?_⟩
    refine ⟨_, rfl, _, G1, rfl, LstSs.sm s1 ⟨lg, gs, rfl, elg, rgs⟩, by omega, fun H2 pr s2 er => ⟨_, _, rfl, ?_⟩⟩
    have s12 := s1.trans s2
    have u0 := RowUp.of hrow s12
    have row2 := u0.2.2
    obtain ⟨own, eown⟩ : ∃ own, own = vOf F1 := ⟨_, rfl⟩
    obtain ⟨far, efar⟩ : ∃ far, far = vOf G1 := ⟨_, rfl⟩
    have eo2 : H2 po = some (.lst (own.map V.int)) := by rw [eown]; exact s2 _ _ eo
    have er2 : H2 pr = some (.lst (far.map V.int)) := by rw [efar]; exact er
    have hownl : own.length ≤ 200 := by
      rw [eown]
      unfold vOf
      rw [List.length_map]
      exact Nat.le_trans (List.length_filter_le _ _) hF
    have hfarl : far.length ≤ 200 := by
      rw [efar]
      unfold vOf
      rw [List.length_map]
      exact Nat.le_trans (List.length_filter_le _ _) hG
    rw [← eown] at hnd
    have elf2 := s12 _ _ elf
    have elg2 := s12 _ _ elg
    have rfs2 := IsSs.kt (Same.kt s12) rfs
    have rgs2 := IsSs.kt (Same.kt s12) rgs
    have nor := row_ne row2 eo2
    have nrr := row_ne row2 er2
    have nfr := row_neS row2 elf2 rfs2
    have ngr := row_neS row2 elg2 rgs2
    have flen := Paired.len rfs
    clear eo er s1 s2 elf elg rfs rgs
    refine ⟨4, rfl, by decide, by decide, ?_⟩
    refine for_range (lo := 0) (n := (4 : Int).toNat) (fun i σ H' => ∃ o5 o6 o7 o8 o9 o10 o11, σ = [some (.ref r), some (.ref lf), some (.ref lg), some (.ref po), some (.ref pr), o5, o6, o7, o8, o9, o10, o11, none] ∧ RowUp K sa ns r H2 H')
      ⟨none, none, none, none, none, none, none, rfl, RowUp.refl row2⟩ ?_ ?_
    · rintro i σ H' hi ⟨o5, o6, o7, o8, o9, o10, o11, rfl, u⟩
      intro d hd
      have b2 := u.fr hd
      have ndr : d ≠ r := u.2.2.rn hd
      have ua := u.same (same_upd (o := .dK []) hd)
      refine ⟨_, rfl, po, rfl, ⟨_, SqL.of (ua.1 _ _ nor eo2)⟩, ?_⟩
      refine for_list (K := K) (a := po) (xs := own.map V.int) (fun j σ H' => ∃ o7 o8 o9 o10 o11 ps, σ = [some (.ref r), some (.ref lf), some (.ref lg), some (.ref po), some (.ref pr), some (.int (0 + (i : Int))), some (.ref d), o7, o8, o9, o10, o11, none] ∧ RowUp K sa ns r H2 H' ∧ H' d = some (.dK (ps.map eK)) ∧ NmOk own ps)
        ⟨o7, o8, o9, o10, o11, [], rfl, ua, upd_same, ⟨.nil, by simp⟩⟩ (fun j σ H' _ ⟨_, _, _, _, _, _, _, ub, _⟩ => SqL.of (ub.1 _ _ nor eo2)) ?_ ?_
      · rintro j x σ H3 hx ⟨o7, o8, o9, o10, o11, ps, rfl, u3, e3, hn3⟩
        obtain ⟨v, hvv, rfl⟩ := get_int hx
        have hv : v ∈ own := List.mem_of_getElem? hvv
        refine ⟨by show 0 ≤ sizeLine; decide, fun pm npm => ?_⟩
        have bm := u3.fr npm
        have nmr : pm ≠ r := u3.2.2.rn npm
        have nmd : pm ≠ d := fun z => by
          rw [z, e3] at npm
          cases npm
        have um := u3.same (same_upd (o := .lst []) npm)
        refine ⟨_, rfl, pr, rfl, ⟨_, SqL.of (um.1 _ _ nrr er2)⟩, ?_⟩
        refine for_list (K := K) (a := pr) (xs := far.map V.int) (fun k σ H' => ∃ o9 o10 o11 ps, ∃ sm : List Int, σ = [some (.ref r), some (.ref lf), some (.ref lg), some (.ref po), some (.ref pr), some (.int (0 + (i : Int))), some (.ref d), some (.int v), some (.ref pm), o9, o10, o11, none] ∧ RowUp K sa ns r H2 H' ∧ H' d = some (.dK (ps.map eK)) ∧ NmOk own ps ∧ H' pm = some (.lst (sm.map V.int)) ∧ sm.length ≤ k)
          ⟨o9, o10, o11, ps, [], rfl, um, by rw [upd_ne nmd.symm]; exact e3, hn3, upd_same, Nat.le_refl _⟩ (fun k σ H' _ ⟨_, _, _, _, _, _, ub, _⟩ => SqL.of (ub.1 _ _ nrr er2)) ?_ ?_
        · rintro k x σ H4 hx4 ⟨o9, o10, o11, ps, sm, rfl, u4, e4, hn4, em4, hl4⟩
          obtain ⟨z2, hz2, rfl⟩ := get_int hx4
          have hk4 : k < far.length := (List.getElem?_eq_some_iff.mp hz2).1
          have hpl := hn4.len
          refine ⟨_, rfl, _, rfl, _, rfl, d, _, rfl, DPut.k (k := Sum.inl v) e4 (by rw [List.length_map]; exact Nat.lt_of_le_of_lt (show ps.length ≤ 200 by omega) (by decide)), ?_⟩
          rw [putK_eK]
          have u5 : RowUp K sa ns r H2 (upd H4 d (.dK ((putP ps v z2).map eK))) := (ext_row (K := K) (sa := sa) (ns := ns) (r := r)).md _ u4 b2
          have e5 : (upd H4 d (.dK ((putP ps v z2).map eK))) d = some (.dK ((putP ps v z2).map eK)) := upd_same
          have em5 : (upd H4 d (.dK ((putP ps v z2).map eK))) pm = some (.lst (sm.map V.int)) := by rw [upd_ne nmd]; exact em4
          have hn5 := hn4.put hv z2
          show tSeq _ _ _ _ (upd H4 d (.dK ((putP ps v z2).map eK)))
          generalize upd H4 d (.dK ((putP ps v z2).map eK)) = H5 at u5 e5 em5 ⊢
          generalize putP ps v z2 = ps5 at e5 hn5 ⊢
          have elf5 := u5.1 _ _ nfr elf2
          have rfs5 := IsSs.kt ((ext_row (K := K) (sa := sa) (ns := ns) (r := r)).kt u5) rfs2
          refine ⟨_, rfl, lf, rfl, ⟨_, SqL.of elf5⟩, ?_⟩
          refine for_list (K := K) (a := lf) (xs := fs) (fun m σ H' => ∃ o11, ∃ bad : Int, σ = [some (.ref r), some (.ref lf), some (.ref lg), some (.ref po), some (.ref pr), some (.int (0 + (i : Int))), some (.ref d), some (.int v), some (.ref pm), some (.int z2), some (.int bad), o11, none] ∧ Same H5 H')
            ⟨o11, 0, rfl, Same.refl _⟩ (fun m σ H' _ ⟨_, _, _, sm⟩ => SqL.of (sm _ _ elf5)) ?_ ?_
          · rintro m x σ H6 hx6 ⟨o11', bad, rfl, s6⟩
            obtain ⟨sx, hsx, fa, rfl, hfa⟩ := Paired.at rfs5 hx6
            have hsok := okF sx (List.mem_of_getElem? hsx)
            have hslen := hsok.len
            have hfa6 := s6 _ _ hfa
            refine ⟨_, rfl, _, rfl, fa, _, rfl, .inr (.inl (.inl hfa6)), rfl, flat_ints sx, _, rfl, ?_⟩
            refine ite2 (fun _ => ?_) (fun _ => iteF ⟨_, bad, rfl, s6⟩)
            refine ⟨_, rfl, fa, rfl, ⟨_, .inl (.inl hfa6)⟩, fun D hD => ?_⟩
            have hsq : SqT K H6 fa (sx.map V.int) := .inl (.inl hfa6)
            refine lc_fun ext_same (bs := sx) (walk_tup' (K := K) (a := fa) (xs := sx.map V.int) (List.length_map ..)) (fun b => !(look ps5 b).isSome) (fun b => b) (fun _ y c => y = .int c) (fun _ h => h) hD (Same.refl _) (by omega) (fun H' s => sqT_sm hsq s) ?_ ?_
            · rintro ii y b H7 H8 NT NF hb s7 ⟨rfl, hy⟩ ht hf
              obtain ⟨z, hz, rfl⟩ := get_int hy
              obtain rfl : b = z := Option.some.inj (hb.symm.trans hz)
              have g := DGet.k (k := Sum.inl b) (s7 _ _ (s6 _ _ e5))
              rw [valV_eK] at g
              refine ⟨rfl, _, rfl, _, rfl, d, _, rfl, g, _, rfl, ?_⟩
              cases hlk : look ps5 b with
              | none => exact ⟨_, rfl, ht (by rw [hlk]; rfl) _ _ (Same.refl _) rfl⟩
              | some y => exact hf (by rw [hlk]; rfl) _ (Same.refl _)
            · intro H7 ys s7 hD7 r7
              have ey : ys = (sx.filter fun b => !(look ps5 b).isSome).map V.int := by
                have e := Paired.eqv (g := V.int) r7
                rw [e, List.map_id']
              refine ⟨by show 0 ≤ sizeLine; decide, fun p8 n8 => ?_⟩
              have t8 := same_upd (o := .lst []) n8
              refine eq_ints (xs := sx.filter fun b => !(look ps5 b).isSome) (ys := []) (by rw [t8 _ _ hD7, ey]) upd_same ⟨_, rfl, ?_⟩
              have s8 := s6.trans (s7.trans t8)
              generalize upd H7 p8 (.lst []) = H8 at s8 ⊢
              refine ite2 (fun hc => ?_) (fun _ => ⟨_, bad, rfl, s8⟩)
              have hall : ∀ b ∈ sx, (look ps5 b).isSome = true := fun b hb => by
                have h1 := of_decide_eq_true hc
                rw [List.filter_eq_nil_iff] at h1
                have h2 := h1 b hb
                exact Option.isSome_iff_ne_none.mpr (by simpa using h2)
              have hfa8 := s8 _ _ hfa
              have hsq8 : SqT K H8 fa (sx.map V.int) := .inl (.inl hfa8)
              refine ⟨_, rfl, fa, rfl, ⟨_, hsq8⟩, fun D2 hD2 => ?_⟩
              refine lc_fun ext_same (bs := sx) (walk_tup' (K := K) (a := fa) (xs := sx.map V.int) (List.length_map ..)) (fun _ => true) (fun b => app ps5 b) (fun _ y c => y = .int c) (fun _ h => h) hD2 (Same.refl _) (by omega) (fun H' s => sqT_sm hsq8 s) ?_ ?_
              · rintro ii y b H9 H10 NT NF hb s9 ⟨rfl, hy⟩ ht hf
                obtain ⟨z, hz, rfl⟩ := get_int hy
                obtain rfl : b = z := Option.some.inj (hb.symm.trans hz)
                have hl : look ps5 b = some (app ps5 b) := by
                  obtain ⟨y, hy⟩ := Option.isSome_iff_exists.mp (hall b (List.mem_of_getElem? hb))
                  rw [app, hy]
                  rfl
                have g := DGet.k (k := Sum.inl b) (s9 _ _ (s8 _ _ e5))
                rw [valV_eK, hl] at g
                exact ⟨rfl, _, rfl, _, rfl, d, .int (app ps5 b), rfl, g, ht rfl _ _ (Same.refl _) rfl⟩
              · intro H9 ys2 s9 hD9 r9
                have ey2 : ys2 = (sx.map (app ps5)).map V.int := by
                  have e := Paired.eqv (g := V.int) r9
                  rw [e, filter_yes]
                refine ⟨D2, sx.map (app ps5), rfl, .inl (SqL.of (by rw [hD9, ey2])), by rw [List.length_map]; omega, fun p10 c n10 hc10 => ?_⟩
                have t10 := same_upd (o := SetO w p10 (fun j => decide (j ∈ sx.map (app ps5))) c) n10
                rw [List.length_map] at hc10
                refine ⟨p10, _, c, rfl, upd_same, by omega, fun ms p11 up mem len n11 => ?_⟩
                have t11 := same_upd (o := .lst (ms.map V.int)) n11
                refine ⟨p11, _, rfl, .inl ⟨SqL.of upd_same, fun p12 n12 => ?_⟩⟩
                have t12 := same_upd (o := .tup (ms.map V.int)) n12
                have s12' := s8.trans (s9.trans (t10.trans (t11.trans t12)))
                have u12 := u5.same s12'
                refine ⟨_, rfl, notin_Ss (t := ms) (G := G1) ⟨p12, rfl, upd_same⟩ (u12.1 _ _ ngr elg2) (IsSs.kt ((ext_row (K := K) (sa := sa) (ns := ns) (r := r)).kt u12) rgs2) ⟨_, rfl, ?_⟩⟩
                refine ite2 (fun _ => ⟨_, rfl, bad, 1, rfl, rfl, ?_⟩) (fun _ => ⟨_, bad, rfl, s12'⟩)
                exact ⟨_, bad + 1, rfl, s12'⟩
          · rintro σ H6 ⟨o11', bad, rfl, s6⟩
            have u6 := u5.same s6
            have em6 := s6 _ _ em5
            have e6 := s6 _ _ e5
            refine ⟨_, rfl, rfl, _, rfl, ?_⟩
            refine ite2 (fun _ => ?_) (fun _ => ⟨_, _, _, ps5, sm, rfl, u6, e6, hn5, em6, by omega⟩)
            refine ⟨_, rfl, .inl ⟨rfl, _, SqL.of em6⟩, _, rfl, pm, _, .int z2, rfl, rfl, em6, by rw [List.length_map]; exact Nat.lt_of_le_of_lt (show sm.length ≤ 200 by omega) (by decide), ?_⟩
            refine ⟨_, _, _, ps5, sm ++ [z2], rfl, (ext_row (K := K) (sa := sa) (ns := ns) (r := r)).md _ u6 bm, by rw [upd_ne nmd.symm]; exact e6, hn5, by rw [upd_same, List.map_append]; rfl, ?_⟩
            rw [List.length_append]
            show sm.length + 1 ≤ k + 1
            omega
        · rintro σ H4 ⟨o9, o10, o11, ps, sm, rfl, u3', e3', hn3', em3, hl4⟩
          rw [List.length_map] at hl4
          have hpop : dropK (ps.map eK) (Sum.inl v) = (dropP ps v).map eK := dropK_eK ps v
          cases hvl : valV (ps.map eK) (Sum.inl v) with
          | none =>
            refine ⟨_, rfl, d, rfl, .inl ⟨_, .inl e3'⟩, _, rfl, _, Sum.inl v, e3', rfl, fun y hy => ?_, fun hn => ?_⟩
            · rw [hvl] at hy
              cases hy
            · obtain ⟨ps4, u4, e4, hn4, em4⟩ : ∃ ps4, RowUp K sa ns r H2 H4 ∧ H4 d = some (.dK (ps4.map eK)) ∧ NmOk own ps4 ∧ H4 pm = some (.lst (sm.map V.int)) := ⟨ps, u3', e3', hn3', em3⟩
              -- if some != []
              refine ⟨_, rfl, by show 0 ≤ sizeLine; decide, fun p6 n6 => ?_⟩
              have t6 := same_upd (o := .lst []) n6
              refine ne_ints (xs := sm) (ys := []) (t6 _ _ em4) upd_same ⟨_, rfl, ?_⟩
              have u6 := u4.same t6
              have e6 := t6 _ _ e4
              refine ite2 (fun hc => ?_) (fun hc => ?_)
              · have hne : sm ≠ [] := fun z => by
                  rw [z] at hc
                  simp at hc
                have hsp : 0 < sm.length := List.length_pos_iff.mpr hne
                refine ⟨_, rfl, _, rfl, sa, ns, r, pm, sm.map V.int, rfl, u6.2.2, nmr, t6 _ _ em4, by rw [List.length_map]; exact hsp, by rw [List.length_map]; omega, fun H7 jj y u7 hy => ?_⟩
                obtain ⟨z3, _, rfl⟩ := get_int hy
                have e7 := u7.1 _ _ ndr e6
                refine ⟨_, rfl, _, rfl, d, _, rfl, DPut.k (k := Sum.inl v) e7 (by rw [List.length_map]; have := hn4.len; exact Nat.lt_of_le_of_lt (show ps4.length ≤ 200 by omega) (by decide)), ?_⟩
                rw [putK_eK]
                exact ⟨_, _, _, _, _, _, rfl, (ext_row (K := K) (sa := sa) (ns := ns) (r := r)).md _ (u6.trans u7) b2, upd_same, hn4.put hv z3⟩
              · exact ⟨_, _, _, _, _, _, rfl, u6, e6, hn4⟩
          | some y0 =>
            refine ⟨_, rfl, d, rfl, .inl ⟨_, .inl e3'⟩, _, rfl, _, Sum.inl v, e3', rfl, fun y hy => ?_, fun hn => ?_⟩
            rotate_left
            · rw [hvl] at hn
              cases hn
            · rw [hpop]
              have u4 : RowUp K sa ns r H2 (upd H4 d (.dK ((dropP ps v).map eK))) := (ext_row (K := K) (sa := sa) (ns := ns) (r := r)).md _ u3' b2
              have e4 : (upd H4 d (.dK ((dropP ps v).map eK))) d = some (.dK ((dropP ps v).map eK)) := upd_same
              have em4 : (upd H4 d (.dK ((dropP ps v).map eK))) pm = some (.lst (sm.map V.int)) := by rw [upd_ne nmd]; exact em3
              have hn4 := hn3'.drop v
              generalize upd H4 d (.dK ((dropP ps v).map eK)) = H5 at u4 e4 em4 ⊢
              generalize dropP ps v = ps4 at e4 hn4
              -- if some != []
              refine ⟨_, rfl, by show 0 ≤ sizeLine; decide, fun p6 n6 => ?_⟩
              have t6 := same_upd (o := .lst []) n6
              refine ne_ints (xs := sm) (ys := []) (t6 _ _ em4) upd_same ⟨_, rfl, ?_⟩
              have u6 := u4.same t6
              have e6 := t6 _ _ e4
              refine ite2 (fun hc => ?_) (fun hc => ?_)
              · have hne : sm ≠ [] := fun z => by
                  rw [z] at hc
                  simp at hc
                have hsp : 0 < sm.length := List.length_pos_iff.mpr hne
                refine ⟨_, rfl, _, rfl, sa, ns, r, pm, sm.map V.int, rfl, u6.2.2, nmr, t6 _ _ em4, by rw [List.length_map]; exact hsp, by rw [List.length_map]; omega, fun H7 jj y u7 hy => ?_⟩
                obtain ⟨z3, _, rfl⟩ := get_int hy
                have e7 := u7.1 _ _ ndr e6
                refine ⟨_, rfl, _, rfl, d, _, rfl, DPut.k (k := Sum.inl v) e7 (by rw [List.length_map]; have := hn4.len; exact Nat.lt_of_le_of_lt (show ps4.length ≤ 200 by omega) (by decide)), ?_⟩
                rw [putK_eK]
                exact ⟨_, _, _, _, _, _, rfl, (ext_row (K := K) (sa := sa) (ns := ns) (r := r)).md _ (u6.trans u7) b2, upd_same, hn4.put hv z3⟩
              · exact ⟨_, _, _, _, _, _, rfl, u6, e6, hn4⟩
      · rintro σ H3 ⟨o7, o8, o9, o10, o11, ps, rfl, u3, e3, hn3⟩
        have eo3 := u3.1 _ _ nor eo2
        refine ⟨_, rfl, d, _, rfl, e3, _, rfl, po, _, rfl, .inl (SqL.of eo3), rfl, _, rfl, ?_⟩
        refine ite2 (fun hc => ?_) (fun _ => ⟨_, _, _, _, _, _, _, rfl, u3⟩)
        have hfull : ps.length = own.length := by
          have h1 := V.int.inj (of_decide_eq_true hc)
          rw [List.length_map, List.length_map] at h1
          omega
        refine ⟨_, rfl, po, rfl, ⟨_, SqL.of eo3⟩, fun D hD => ?_⟩
        refine lc_fun ext_same (bs := own) (walk_list' (K := K) (a := po) (xs := own.map V.int) (List.length_map ..)) (fun _ => true) (fun b => (b, app ps b)) (fun H y (p : Int × Int) => IsPr H y p.1 (.int p.2)) (fun kt ⟨a, h1, h2, h3⟩ => ⟨a, h1, kt _ _ h2, h3⟩) hD (Same.refl _) (by omega) (fun H' s => SqL.of (s _ _ eo3)) ?_ ?_
        · rintro ii y b H4 H5 NT NF hb s4 ⟨rfl, hy⟩ ht hf
          obtain ⟨z, hz, rfl⟩ := get_int hy
          obtain rfl : b = z := Option.some.inj (hb.symm.trans hz)
          have hl : look ps b = some (app ps b) := by
            obtain ⟨y, hy⟩ := Option.isSome_iff_exists.mp (look_some.mpr (hn3.full hfull (List.mem_of_getElem? hb)))
            rw [app, hy]
            rfl
          have g := DGet.k (k := Sum.inl b) (s4 _ _ e3)
          rw [valV_eK, hl] at g
          exact ⟨rfl, _, rfl, _, rfl, _, rfl, d, .int (app ps b), rfl, g, by show 2 ≤ sizeLine; decide, fun t nt => ht rfl _ _ (same_upd nt) ⟨t, rfl, upd_same, "int", rfl⟩⟩
        · intro H4 ys s4 hD4 r4
          rw [filter_yes] at r4
          refine ⟨_, rfl, D, ys, rfl, SqL.of hD4, fun qa o nq od => ?_⟩
          have t5 := same_upd (o := .frz o (.tup ys)) nq
          refine q _ _ (u0.trans (u3.same (s4.trans t5))) (.inr ⟨own.map fun b => (b, app ps b), ⟨qa, ys, rfl, ⟨o, upd_same, od⟩, Paired.mp (fun _ _ ⟨a, h1, h2, h3⟩ => ⟨a, h1, t5 _ _ h2, h3⟩) r4⟩, ?_⟩)
          rw [List.map_map, ← eown]
          exact List.map_id' _
    · rintro σ H' ⟨o5, o6, o7, o8, o9, o10, o11, rfl, u⟩
      exact q _ _ (u0.trans u) (.inl rfl)
end
end B72
set_option Elab.async false
set_option linter.all false
set_option maxRecDepth 100000
set_option maxHeartbeats 4000000
/-! The plain law: facets cover the faces; the due answer is the answer. -/
namespace B72
open PySem PySem.Spec PyProof.Rows L2 R72 Mk72
theorem cutAt_sub (t : Sx) (i : Nat) : (cutAt t i).Sublist t := by
  have h : (t.take i ++ t.drop (i + 1)).Sublist (t.take i ++ t.drop i) := by
    refine List.Sublist.append (.refl _) ?_
    rw [show t.drop (i + 1) = (t.drop i).drop 1 by rw [List.drop_drop]]
    exact List.drop_sublist _ _
  rw [List.take_append_drop] at h
  exact h
theorem cutAt_len {t : Sx} {i : Nat} (h : i < t.length) : (cutAt t i).length + 1 = t.length := by
  unfold cutAt
  rw [List.length_append, List.length_take, List.length_drop]
  omega
theorem cover {F : List Sx} (ok : ∀ s ∈ F, Ok s) : ∀ (n : Nat) (s : Sx), 7 - s.length ≤ n → s ∈ F → ∃ g ∈ mx F, s.Sublist g := by
  intro n
  induction n with
  | zero =>
    intro s hn hs
    by_cases h : s ∈ innL F
    · obtain ⟨t, ht, i, hi, rfl⟩ := mem_innL.mp h
      have h1 := cutAt_len hi
      have h2 := (ok t ht).len
      omega
    · exact ⟨s, mem_mx.mpr ⟨hs, h⟩, .refl _⟩
  | succ n ih =>
    intro s hn hs
    by_cases h : s ∈ innL F
    · obtain ⟨t, ht, i, hi, rfl⟩ := mem_innL.mp h
      have h1 := cutAt_len hi
      obtain ⟨g, hg, hsub⟩ := ih t (by omega) ht
      exact ⟨g, hg, (cutAt_sub t i).trans hsub⟩
    · exact ⟨s, mem_mx.mpr ⟨hs, h⟩, .refl _⟩
theorem facesOf_mx {F : List Sx} (cl : Closed F) (ok : ∀ s ∈ F, Ok s) (t : Sx) : FacesOf (mx F) t ↔ t ∈ F := by
  constructor
  · rintro ⟨n, g, hg, hs⟩
    exact cl.dn g (mem_mx.mp hg).1 t hs n
  · intro h
    obtain ⟨g, hg, hs⟩ := cover ok 7 t (by omega) h
    exact ⟨cl.ne t h, g, hg, hs⟩
theorem img_all {F1 F2 : List Sx} {ps : List (Int × Int)} (ok : ∀ s ∈ F1, Ok s) (cl1 : Closed F1) (cl2 : Closed F2) : (∀ g ∈ mx F1, img ps g ∈ F2) ↔ ∀ s ∈ F1, img ps s ∈ F2 := by
  constructor
  · intro h s hs
    obtain ⟨g, hg, hsub⟩ := cover ok 7 s (by omega) hs
    exact cl2.dn _ (h g hg) _ (img_sub hsub) (img_ne (cl1.ne s hs))
  · intro h g hg
    exact h g (mem_mx.mp hg).1
theorem images_eq {F1 L1 : List Sx} {ps : List (Int × Int)} (ok : ∀ s ∈ F1, Ok s) (oki : ∀ s ∈ F1, Ok (img ps s)) (hL : ∀ s, s ∈ L1 ↔ s ∈ F1) :
    inOrd (genP (mx (genP ((mx F1).map (img ps))))) = inOrd (genL (L1.map (img ps))) := by
  refine inOrd_eq ((List.perm_ext_iff_of_nodup (genP_closed _).nd (genL_nd _)).mpr fun t => ?_)
  have ok1 : ∀ s ∈ (mx F1).map (img ps), Ok s := fun s hs => by
    obtain ⟨g, hg, rfl⟩ := List.mem_map.mp hs
    exact oki g (mem_mx.mp hg).1
  rw [mem_genP, facesOf_mx (genP_closed _) (Ok.genP ok1), mem_genP, mem_genL]
  constructor
  · rintro ⟨n, s, hs, hsub⟩
    obtain ⟨g, hg, rfl⟩ := List.mem_map.mp hs
    exact ⟨n, _, List.mem_map.mpr ⟨g, (hL g).mpr (mem_mx.mp hg).1, rfl⟩, hsub⟩
  · rintro ⟨n, s, hs, hsub⟩
    obtain ⟨b, hb, rfl⟩ := List.mem_map.mp hs
    obtain ⟨g, hg, hbg⟩ := cover ok 7 b (by omega) ((hL b).mp hb)
    exact ⟨n, _, List.mem_map.mpr ⟨g, hg, rfl⟩, hsub.trans (img_sub hbg)⟩
theorem img_id {s : Sx} (hs : s.Pairwise (· < ·)) {ps : List (Int × Int)} (h : ∀ v ∈ s, app ps v = v) : img ps s = s := by
  refine (upOf_eq hs fun x => ?_).symm
  rw [List.mem_map]
  constructor
  · intro hx
    exact ⟨x, hx, h x hx⟩
  · rintro ⟨y, hy, e⟩
    rw [← e, h y hy]
    exact hy
theorem app_self {own : List Int} {v : Int} (h : v ∈ own) : app (own.map fun b => (b, b)) v = v := by
  have hm : v ∈ (own.map fun b => (b, b)).map (·.1) := by
    rw [List.map_map]
    exact List.mem_map.mpr ⟨v, h, rfl⟩
  obtain ⟨p, hp, h1, h2⟩ := app_mem hm
  obtain ⟨b, _, rfl⟩ := List.mem_map.mp hp
  rw [h2, ← h1]
/-! ### what the law tells is_map -/
def flatE : V → PyData
  | .int n => .int n
  | .bl b => .bool b
  | _ => .none
theorem dp_flat {K : PySem.W.Frag} {H : Hp} {v : V} {T : String} (h : flatT v = some T) : Dp K H v (flatE v) ∧ (flatE v).canLay0 = true ∧ (flatE v).depth ≤ 1 := by
  cases v <;> simp [flatT] at h <;> subst h
  · exact ⟨.non, by simp [flatE, PyData.canLay0], by simp [flatE, PyData.depth]⟩
  · exact ⟨.bl _, by simp [flatE, PyData.canLay0], by simp [flatE, PyData.depth]⟩
  · exact ⟨.int _, by simp [flatE, PyData.canLay0], by simp [flatE, PyData.depth]⟩
def IsBad (H : Hp) (v : V) : Prop := v = .non ∨ (∃ p a b, v = .ref p ∧ H p = some (.lst [.int a, .int b])) ∨ ∃ p a, v = .ref p ∧ H p = some (.tup [.int a])
def IsEnD (H : Hp) (v : V) : En → Prop
  | .pair a b => IsPr H v a b
  | .bad => IsBad H v
theorem IsEnD.en {H : Hp} {v : V} : ∀ {e : En}, IsEnD H v e → IsEn H v e
  | .pair _ _, h => h
  | .bad, h => by
    rcases (show IsBad H v from h) with rfl | ⟨p, a, b, rfl, hh⟩ | ⟨p, a, rfl, hh⟩
    · exact ⟨none, .flat (T := "NoneType") rfl, by simp⟩
    · exact ⟨none, .lst hh, by simp⟩
    · exact ⟨_, .tup (.inl hh), by simp⟩
def LayD (d : PyData) : Prop := d.canLay0 = true ∧ d.depth ≤ 8
theorem IsEnD.dp {K : PySem.W.Frag} {H : Hp} {v : V} : ∀ {e : En}, IsEnD H v e → ∃ d, Dp K H v d ∧ LayD d
  | .pair a b, ⟨p, h1, h2, T, h3⟩ => by
    subst h1
    obtain ⟨d1, d2, d3⟩ := dp_flat (K := K) (H := H) h3
    refine ⟨.tuple [.int a, flatE b], .tup (.inl (.inl h2)) (.cons (.int a) (.cons d1 .nil)), ?_, ?_⟩
    · simp [PyData.canLay0, PyData.canLayAll0, d2]
    · simp only [PyData.depth, PyData.depthAll]
      omega
  | .bad, h => by
    rcases (show IsBad H v from h) with rfl | ⟨p, a, b, rfl, hh⟩ | ⟨p, a, rfl, hh⟩
    · exact ⟨.none, .non, by simp [PyData.canLay0], by simp [PyData.depth]⟩
    · exact ⟨.list [.int a, .int b], .lst (SqL.of hh) (.cons (.int a) (.cons (.int b) .nil)), by simp [PyData.canLay0, PyData.canLayAll0], by simp [PyData.depth, PyData.depthAll]⟩
    · exact ⟨.tuple [.int a], .tup (.inl (.inl hh)) (.cons (.int a) .nil), by simp [PyData.canLay0, PyData.canLayAll0], by simp [PyData.depth, PyData.depthAll]⟩
/-- [..] == [] -/
theorem eq_nil {K : PySem.W.Frag} {H : Hp} {p q : Addr} {ys : List V} {Q : VK} (h1 : H p = some (.lst ys)) (hd : ∀ y ∈ ys, ∃ d, Dp K H y d ∧ LayD d) (h2 : H q = some (.lst [])) (h : Q (.bl ys.isEmpty) H) : rEqD K (.ref p) (.ref q) H Q := by
  obtain ⟨ds, h3, h4, h5, h6⟩ : ∃ ds, DpAll K H ys ds ∧ PyData.canLayAll0 ds = true ∧ PyData.depthAll ds ≤ 8 ∧ ds.isEmpty = ys.isEmpty := by
    clear h1 h
    induction ys with
    | nil => exact ⟨[], .nil, by simp [PyData.canLayAll0], by simp [PyData.depthAll], rfl⟩
    | cons y ys ih =>
      obtain ⟨d, k1, k2, k3⟩ := hd y List.mem_cons_self
      obtain ⟨ds, q1, q2, q3, _⟩ := ih fun z hz => hd z (List.mem_cons_of_mem _ hz)
      refine ⟨d :: ds, .cons k1 q1, by simp [PyData.canLayAll0, k2, q2], ?_, rfl⟩
      simp only [PyData.depthAll]
      omega
  refine ⟨.list ds, .list [], .lst (SqL.of h1) h3, .lst (SqL.of h2) .nil, ?_, by decide +kernel, ?_⟩
  · show (PyData.canLay0 (.list ds) && decide (PyData.depth (.list ds) ≤ 64)) = true
    rw [Bool.and_eq_true]
    exact ⟨by simp only [PyData.canLay0]; exact h4, decide_eq_true (by simp only [PyData.depth]; omega)⟩
  · have e : PyData.eqv (.list ds) (.list []) = ys.isEmpty := by
      rw [← h6, PyData.eqv]
      cases ds <;> simp [PyData.eqvAll]
    rw [e]
    exact h
theorem IsBad.sm {H H' : Hp} (k : Same H H') {v : V} (h : IsBad H v) : IsBad H' v := by
  rcases h with h | ⟨p, a, b, h1, h2⟩ | ⟨p, a, h1, h2⟩
  · exact .inl h
  · exact .inr (.inl ⟨p, a, b, h1, k _ _ h2⟩)
  · exact .inr (.inr ⟨p, a, h1, k _ _ h2⟩)
theorem IsEnD.sm {H H' : Hp} (k : Same H H') {v : V} : ∀ {e : En}, IsEnD H v e → IsEnD H' v e
  | .pair _ _, ⟨p, h1, h2, h3⟩ => ⟨p, h1, k _ _ h2, h3⟩
  | .bad, h => IsBad.sm k h
def IsToD (H : Hp) (v : V) (n : Nat) : To → Prop
  | .tup es => ∃ a xs, v = .ref a ∧ Rd H a (.tup xs) ∧ Paired (IsEnD H) xs es ∧ es.length ≤ 100 ∧ (es.length = n → FzT H a xs)
  | .oth => Shp H v none
theorem IsToD.to {H : Hp} {v : V} {n : Nat} : ∀ {t : To}, IsToD H v n t → IsTo H v n t
  | .tup _, ⟨a, xs, h1, h2, h3, h4, h5⟩ => ⟨a, xs, h1, h2, Paired.mp (fun _ _ h => h.en) h3, h4, h5⟩
  | .oth, h => h
theorem IsToD.sm {H H' : Hp} (k : Same H H') {v : V} {n : Nat} : ∀ {t : To}, IsToD H v n t → IsToD H' v n t
  | .tup _, ⟨a, xs, h1, h2, h3, h4, h5⟩ => ⟨a, xs, h1, rd_sm h2 k, Paired.mp (fun _ _ q => q.sm k) h3, h4, fun e => fz_sm k (h5 e)⟩
  | .oth, h => Shp.sm k h
end B72
set_option Elab.async false
set_option linter.all false
set_option maxRecDepth 100000
set_option maxHeartbeats 4000000
/-! The law's inner turn: one told value (from its last statement back). -/
namespace B72
open PySem PySem.Spec PyProof.Rows L2 R72 Mk72
def forBody : Stmt → List Stmt
  | .For _ _ b _ _ => b
  | _ => []
def atS (l : List Stmt) (i : Nat) : Stmt := l.getD i (.Pass ⟨0, 0, 0, 0⟩)
abbrev turnB : List Stmt := forBody (atS (defBody sLaw) 1)
abbrev toldB : List Stmt := forBody (atS turnB 7)
abbrev nLaw : List Str := ["_law_script", "_law_row", "_law_turn", "_law_one", "_law_other", "_law_first", "_law_second", "_law_faces_here", "_law_others", "_law_own", "_law_far", "_law_names", "_law_some", "_law_at", "_law_told", "_law_due", "_law_images", "_law_whole", "_law_vertex", "_law_pair", "_law_face"]
theorem scLaw : FnScope nLaw ["_law_script"] (defScope sLaw) := ⟨rfl, rfl, rfl, by decide +kernel, rfl, by decide +kernel, by decide +kernel⟩
abbrev scT2 : Scope := { kind := .function, names := [(".0", .local), ("_law_face", .local), ("tuple", .globalImplicit), ("sorted", .globalImplicit), ("set", .globalImplicit), ("_law_others", .cell), ("_law_told", .cell)], isGenerator := false, isCoroutine := false }
abbrev scT4 : Scope := { kind := .function, names := [(".0", .local), ("_law_face", .local), ("tuple", .globalImplicit), ("sorted", .globalImplicit), ("set", .globalImplicit), ("_law_told", .cell)], isGenerator := false, isCoroutine := false }
abbrev sT (sa r : V) (o2 o3 o4 : Option V) (v1 v2 lf lo po pr : V) (o11 o12 o13 : Option V) (told : V) (o15 o16 o17 : Option V) : L2.St :=
  [some sa, some r, o2, o3, o4, some v1, some v2, some lf, some lo, some po, some pr, o11, o12, o13, some told, o15, o16, o17, none, none, none]
section
variable {P : Program} {w : World} {K : PySem.W.Frag} {mg : Str → Option Value} {base : Heap}
abbrev tImgs (K : PySem.W.Frag) (w : World) : TE := tCB (rTupOf K) (tCons (tCB (rSortedSet w) (tCons (tCB (rSetI K w) (tCons (tLc (iTup K (tVar 20)) (gName 18) tYes (tDGet (tCB (rDictF K) (tCons (tVar 14) tNil)) (tVar 18)) [18]) tNil)) tNil)) tNil)
/-- the facts of one turn -/
structure ToldF (C : Addr) (H : Hp) (v1 v2 told : V) (lf lo po pr : Addr) (F1 F2 L1 L2' : List Sx) (own far : List Int) (t : To) : Prop where
  x1 : IsCx C H v1 F1 (mx F1)
  x2 : IsCx C H v2 F2 (mx F2)
  o1 : CxOk F1 (mx F1)
  o2 : CxOk F2 (mx F2)
  up : UpMem own F1
  uf : UpMem far F2
  ol : own.length ≤ 200
  fl : far.length ≤ 200
  l1 : LstSs H (.ref lf) L1
  l2 : LstSs H (.ref lo) L2'
  m1 : ∀ s, s ∈ L1 ↔ s ∈ F1
  m2 : ∀ s, s ∈ L2' ↔ s ∈ F2
  n1 : L1.length ≤ 200
  n2 : L2'.length ≤ 200
  po : H po = some (.lst (own.map V.int))
  pr : H pr = some (.lst (far.map V.int))
  to : IsToD H told own.length t
theorem ToldF.sm {C : Addr} {H H' : Hp} {v1 v2 told : V} {lf lo po pr : Addr} {F1 F2 L1 L2' : List Sx} {own far : List Int} {t : To} (k : Same H H') (h : ToldF C H v1 v2 told lf lo po pr F1 F2 L1 L2' own far t) : ToldF C H' v1 v2 told lf lo po pr F1 F2 L1 L2' own far t :=
  ⟨h.x1.sm k, h.x2.sm k, h.o1, h.o2, h.up, h.uf, h.ol, h.fl, h.l1.sm k, h.l2.sm k, h.m1, h.m2, h.n1, h.n2, k _ _ h.po, k _ _ h.pr, h.to.sm k⟩
theorem ToldF.args {C : Addr} {H : Hp} {v1 v2 told : V} {lf lo po pr : Addr} {F1 F2 L1 L2' : List Sx} {own far : List Int} {t : To} (h : ToldF C H v1 v2 told lf lo po pr F1 F2 L1 L2' own far t) : MapArgs C H v1 v2 told F1 (mx F1) F2 (mx F2) own t :=
  ⟨h.x1, h.x2, h.o1, h.o2, h.up, by have := h.ol; omega, h.to.to⟩
/-- the calls of the law -/
structure CalL (P : Program) (w : World) (K : PySem.W.Frag) (mg : Str → Option Value) (base : Heap) (C : Addr) : Prop where
  ismap : Cal72 P w K mg base 6 "is_map" (spIsMap C)
  imgof : Cal72 P w K mg base 8 "image_of" (spImgOf C)
  fixed : Cal72 P w K mg base 8 "fixed_simplices" (spFixed C)
  sof : Cal72 P w K mg base 2 "simplices_of" (spSOf C)
  al0 : Cal72 P w K mg base 1 "_law_alike" (spAlike 0)
  al2 : Cal72 P w K mg base 3 "_law_alike" (spAlike 2)
  faces : Cal72 P w K mg base 1 "_law_faces" spLFaces
  verts : Cal72 P w K mg base 1 "_law_vertices" spLVert
  wide : Cal72 P w K mg base 4 "_law_wide" (spLWide K)
  lmap : Cal72 P w K mg base 3 "_law_map" (spLMap K)
  taken : Cal72 P w K mg base 1 "_law_taken" (spTaken K)
  pick : Cal72 P w K mg base 2 "_law_pick" (spPick K)
  mkC : C8.Mak P w K mg base 5 "Complex" C (spCInit C) []
variable {C f : Addr} {cdv : Value} {A : Around} {outer : List Env} {s : Shared} {H0 : Hp} {E : XK} {k : Nat}
/-- tuple(sorted(set([dict(told)[v] for v in face]))) -/
theorem imgs_read {told : V} {fa : Addr} {x0 x1 x2 x3 x4 x5 x6 x7 x8 x9 x10 x11 x12 x13 x15 x16 x17 x18 x19 : Option V} {H : Hp} {es : List En} {F1 G1 F2 : List Sx} {own : List Int} {sx : Sx} {Q : VK}
    (ht : IsToD H told own.length (.tup es)) (y : MapYes F1 G1 F2 own es) (u : UpMem own F1) (hS : H fa = some (.tup (sx.map V.int))) (hl : sx.length ≤ 12) (hin : ∀ x ∈ sx, x ∈ own)
    (q : ∀ H' v, Same H H' → IsS H' v (img (psOf es) sx) → Q v H') :
    tImgs K w [x0, x1, x2, x3, x4, x5, x6, x7, x8, x9, x10, x11, x12, x13, some told, x15, x16, x17, x18, x19, some (.ref fa)] H Q := by
  obtain ⟨a, xs, rfl, hrd, hes, hmany, hfz⟩ := ht
  have hfz1 := hfz y.len
  have hsq : SqT K H fa (sx.map V.int) := .inl (.inl hS)
  refine ⟨_, rfl, fa, rfl, ⟨_, hsq⟩, fun D2 hD2 => ?_⟩
  refine lc_fun ext_same (bs := sx) (walk_tup' (K := K) (a := fa) (xs := sx.map V.int) (List.length_map ..)) (fun _ => true) (fun b => app (psOf es) b) (fun _ y c => y = .int c) (fun _ h => h) hD2 (Same.refl _) (by omega) (fun H' s => sqT_sm hsq s) ?_ ?_
  · rintro ii yy b H3 H4 NT NF hb s3 ⟨rfl, hy⟩ ht hf
    obtain ⟨z, hz, rfl⟩ := get_int hy
    obtain rfl : b = z := Option.some.inj (hb.symm.trans hz)
    obtain ⟨ps, exs, hprs⟩ := pairs_of (K := K) (Paired.mp (fun _ _ h => (h.sm s3).en) hes) y.isP y.inn
    refine ⟨rfl, _, rfl, a, ps, _, rfl, exs ▸ fz_sm s3 hfz1, hprs, fun pd nd => ?_⟩
    rw [mergeK_nd (y.nod u)]
    have t7 := same_upd (o := .dK ((psOf es).map eK)) nd
    have hl2 : look (psOf es) b = some (app (psOf es) b) := by
      obtain ⟨y', hy'⟩ := Option.isSome_iff_exists.mp (look_some.mpr (by rw [ps_fst, y.fst]; exact hin b (List.mem_of_getElem? hb)))
      rw [app, hy']
      rfl
    have g := DGet.k (k := Sum.inl b) (show (upd H4 pd (.dK ((psOf es).map eK))) pd = _ from upd_same)
    rw [valV_eK, hl2] at g
    exact ⟨_, rfl, pd, .int (app (psOf es) b), rfl, g, ht rfl _ _ t7 rfl⟩
  · intro H9 ys2 s9 hD9 r9
    have ey2 : ys2 = (sx.map (app (psOf es))).map V.int := by
      have e := Paired.eqv (g := V.int) r9
      rw [e, filter_yes]
    refine ⟨D2, sx.map (app (psOf es)), rfl, .inl (SqL.of (by rw [hD9, ey2])), by rw [List.length_map]; omega, fun p10 c n10 hc10 => ?_⟩
    have t10 := same_upd (o := SetO w p10 (fun j => decide (j ∈ sx.map (app (psOf es)))) c) n10
    rw [List.length_map] at hc10
    refine ⟨p10, _, c, rfl, upd_same, by omega, fun ms p11 up mem len n11 => ?_⟩
    have t11 := same_upd (o := .lst (ms.map V.int)) n11
    refine ⟨p11, _, rfl, .inl ⟨SqL.of upd_same, fun p12 n12 => ?_⟩⟩
    have t12 := same_upd (o := .tup (ms.map V.int)) n12
    have ems : ms = img (psOf es) sx := upOf_eq up fun x => (mem x).trans decide_eq_true_iff
    exact q _ _ (s9.trans (t10.trans (t11.trans t12))) ⟨p12, rfl, by rw [upd_same, ems]⟩
theorem ToldF.vx {H : Hp} {v1 v2 told : V} {lf lo po pr : Addr} {F1 F2 L1 L2' : List Sx} {own far : List Int} {t : To} (h : ToldF C H v1 v2 told lf lo po pr F1 F2 L1 L2' own far t) {sx : Sx} (hs : sx ∈ L1) : sx.length ≤ 12 ∧ ∀ x ∈ sx, x ∈ own := by
  have h1 := (h.m1 sx).mp hs
  have h2 := (h.o1.ok sx h1).len
  exact ⟨by omega, fun x hx => (h.up.2 x).mpr (h.o1.vx h1 hx)⟩
theorem told34 (T : Fx mg) (L : CalL P w K mg base C) (hr : Room k (A.deeper (envOfC "law" (defScope sLaw) s.heap.objs.size f cdv))) (hk : 8 ≤ k) :
    ∃ t, PSs (cxOf CX0 P w K mg base nLaw "law" (defScope sLaw) f cdv A outer s H0 E).nox (toldB.drop 3) t ∧
      ∀ (D : Ends) (H : Hp) (sa r : V) (o2 o3 o4 : Option V) (v1 v2 : V) (lf lo po pr : Addr) (o11 o12 o13 : Option V) (told : V) (o16 o17 : Option V) (F1 F2 L1 L2' : List Sx) (own far : List Int) (tt : To) (b : Bool),
        ToldF C H v1 v2 told lf lo po pr F1 F2 L1 L2' own far tt → b = mapM F1 (mx F1) F2 own tt →
        (∀ H' o16', Same H H' → D.nx (sT sa r o2 o3 o4 v1 v2 (.ref lf) (.ref lo) (.ref po) (.ref pr) o11 o12 o13 told (some (.bl b)) o16' o17) H') →
        t D (sT sa r o2 o3 o4 v1 v2 (.ref lf) (.ref lo) (.ref po) (.ref pr) o11 o12 o13 told (some (.bl b)) o16 o17) H := by
  apply Exists.intro
  apply And.intro
  · apply pss_cons
    · exact ps_if (pt_not (pt_val (C8.pe_c L.al0 hr (by omega) (by rfl) (pa_cons (C8.pe_c L.ismap hr (by omega) (by rfl) (pa_cons (pv 5) (pa_cons (pv 6) (pa_cons (pv 14) pa_nil)))) (pa_cons (pv 15) pa_nil))))) pss_never pss_nil
    apply pss_one
    exact ps_if (pt_val (pv 15))
      (pss_cons (ps_setLc (i := 16) (own := [("_law_face", 20)]) (g := gName 20) (tt := tYes) (te := tImgs K w) (by rfl) scLaw.nd rfl rfl (sw_true rfl rfl rfl (by decide +kernel)) (pi_list (pv 7))
          (blkOk_by (own := [("_law_face", 20)]) (N := nLaw) (sc := defScope sLaw) (by decide +kernel))
          (fun _ _ _ _ _ => pg_name (i := 20) scLaw.nd rfl (.inl rfl)) (fun _ _ _ _ _ => pts_nil)
          (fun _ _ _ _ _ => pe_callTy call_tuple_of (by rfl) T.zTuple (by decide +kernel) (pa_cons (pe_callB (cr_sortedSet rfl) (by rfl) T.zSorted (by decide +kernel) (pa_cons
            (pe_callTy (cr_setI rfl) (by rfl) T.zSet (by decide +kernel) (pa_cons
              (pe_lc (own := [("_law_vertex", 18)]) (g := gName 18) (tt := tYes) (te := tDGet (tCB (rDictF K) (tCons (tVar 14) tNil)) (tVar 18)) rfl scLaw.nd (pi_tup (pv 20))
                (blkOk_by (own := [("_law_vertex", 18)]) (N := nLaw) (sc := scT4) (by decide +kernel))
                (fun _ _ _ _ _ => pg_name (i := 18) scLaw.nd rfl (.inl rfl)) (fun _ _ _ _ _ => pts_nil)
                (fun _ _ _ _ _ => pe_dget (hu_of hr) (pe_callTy (call_dictF rfl) (by rfl) T.zDict (by decide +kernel) (pa_cons (pv 14) pa_nil)) (pv 18) (fun _ _ => rfl))) pa_nil)) pa_nil)) pa_nil)))
        (pss_one (ps_if (pt_not (pt_val (C8.pe_c L.al2 hr (by omega) (by rfl) (pa_cons (C8.pe_c L.sof hr (by omega) (by rfl) (pa_cons (C8.pe_c L.imgof hr hk (by rfl) (pa_cons (pv 5) (pa_cons (pv 6) (pa_cons (pv 14) pa_nil)))) pa_nil))
          (pa_cons (C8.pe_c L.faces hr (by omega) (by rfl) (pa_cons (pv 16) pa_nil)) pa_nil))))) pss_never pss_nil))) pss_nil
  · intro D H sa r o2 o3 o4 v1 v2 lf lo po pr o11 o12 o13 told o16 o17 F1 F2 L1 L2' own far tt b h hb q
    have ha := h.args
    refine ⟨_, rfl, _, rfl, _, rfl, v1, v2, told, tt, F1, mx F1, F2, mx F2, own, rfl, ha.x1, ha.x2, ha.o1, ha.o2, ha.up, ha.len, ha.to, fun H1 s1 => ?_⟩
    rw [← hb]
    refine ⟨_, rfl, _, _, rfl, ⟨rfl, .inr ⟨_, rfl⟩⟩, fun H2 s2 => ⟨true, rfl, ?_⟩⟩
    refine iteF ⟨_, rfl, _, rfl, ?_⟩
    have s12 := s1.trans s2
    have h2 := h.sm s12
    cases b with
    | false => exact iteF (q _ _ s12)
    | true =>
      refine iteT ?_
      obtain ⟨es, rfl, y⟩ := mapYes hb.symm
      obtain ⟨lf', ys, elf, el, rs⟩ := h2.l1
      cases elf
      have hFI : ∀ s ∈ F1, img (psOf es) s ∈ F2 := (img_all h.o1.ok h.o1.cl h.o2.cl).mp y.img
      refine ⟨_, rfl, lf, rfl, ⟨_, SqL.of el⟩, fun D1 hD1 => ?_⟩
      refine lc_fun ext_same (bs := L1) (walk_list' (K := K) (a := lf) (xs := ys) (Paired.len rs)) (fun _ => true) (img (psOf es)) IsS (fun kt h => h.kt kt) hD1 (Same.refl _) (by have := h.n1; omega) (fun H' s => SqL.of (s _ _ el)) ?_ ?_
      · rintro i x sx H3 H4 NT NF hbx s3 ⟨rfl, hx⟩ ht hf
        obtain ⟨b', hb', fa, rfl, hfa⟩ := Paired.at rs hx
        obtain rfl : sx = b' := Option.some.inj (hbx.symm.trans hb')
        obtain ⟨w1, w2⟩ := h.vx (List.mem_of_getElem? hbx)
        exact ⟨rfl, imgs_read (K := K) (w := w) (h2.to.sm s3) y h.up (s3 _ _ hfa) w1 w2 fun H5 v s5 hv => ht rfl _ _ s5 hv⟩
      · intro H5 zs s5 hD5 r5
        rw [filter_yes] at r5
        have h5 := h2.sm s5
        refine ⟨_, rfl, _, rfl, _, rfl, v1, v2, told, _, F1, mx F1, F2, mx F2, own, rfl, h5.args, hb.symm, fun H6 rr es' s6 he hcx => ?_⟩
        cases he
        have oki : ∀ s ∈ (mx F1).map (img (psOf es)), Ok s := fun s hs => by
          obtain ⟨g, hg, rfl⟩ := List.mem_map.mp hs
          exact h.o2.ok _ (y.img g hg)
        have okF : ∀ s ∈ genP (mx (genP ((mx F1).map (img (psOf es))))), Ok s := Ok.genP (Ok.mx (Ok.genP oki))
        refine ⟨rr, _, _, rfl, hcx, okF, Nat.le_trans (genP_many (Ok.mx (Ok.genP oki))) (by decide), fun H7 p7 ys7 s7 e7 r7 => ?_⟩
        have okL : ∀ s ∈ L1.map (img (psOf es)), Ok s := fun s hs => by
          obtain ⟨g, hg, rfl⟩ := List.mem_map.mp hs
          exact h.o2.ok _ (hFI g ((h.m1 g).mp hg))
        have hls : LstSs H5 (.ref D1) (L1.map (img (psOf es))) := ⟨D1, zs, rfl, hD5, r5⟩
        refine ⟨_, rfl, _, L1.map (img (psOf es)), rfl, .inr (hls.sm (s6.trans s7)), okL, fun H8 p8 ys8 s8 e8 r8 => ?_⟩
        have ee := images_eq h.o1.ok (fun s hs => h.o2.ok _ (hFI s hs)) h.m1 (ps := psOf es)
        rw [ee] at r7
        have hlen : (inOrd (genL (L1.map (img (psOf es))))).length ≤ 127 := by
          rw [(inOrd_perm _).length_eq]
          exact genL_many okL
        refine ⟨_, _, rfl, ⟨p7, p8, ys7, ys8, rfl, rfl, .inl ⟨s8 _ _ e7, e8⟩, by rw [Paired.len r7]; omega, alk_Ss (IsSs.kt (Same.kt s8) r7) r8 fun s hs => ?_⟩, fun H9 s9 => ⟨true, rfl, iteF (q _ _ (s12.trans (s5.trans (s6.trans (s7.trans (s8.trans s9))))))⟩⟩
        have := (Ok.genL okL s (mem_inOrd.mp hs)).len
        omega
end
end B72
set_option Elab.async false
set_option linter.all false
set_option maxRecDepth 100000
set_option maxHeartbeats 4000000
/-! The law's inner turn: the due answer. -/
namespace B72
open PySem PySem.Spec PyProof.Rows L2 R72 Mk72
theorem isEmpty_filter {α : Type} (l : List α) (p : α → Bool) : (l.filter p).isEmpty = l.all fun x => !p x := by
  induction l with
  | nil => rfl
  | cons a l ih =>
    rw [List.all_cons]
    cases h : p a with
    | true => rw [List.filter_cons_of_pos h]; rfl
    | false => rw [List.filter_cons_of_neg (by rw [h]; exact Bool.false_ne_true), ih]; rfl
theorem isEmpty_paired {α β : Type} {R : α → β → Prop} {xs : List α} {ys : List β} (h : Paired R xs ys) : xs.isEmpty = ys.isEmpty := by
  cases h <;> rfl
/-- a pair, kept by whatever keeps tuples -/
def IsEnD' (H : Hp) (v : V) : En → Prop
  | .pair a b => IsPr H v a b
  | .bad => False
theorem IsEnD'.kt {H H' : Hp} (k : KeepT H H') {v : V} : ∀ {e : En}, IsEnD' H v e → IsEnD' H' v e
  | .pair _ _, ⟨p, h1, h2, h3⟩ => ⟨p, h1, k _ _ h2, h3⟩
theorem IsEnD'.en {H : Hp} {v : V} : ∀ {e : En}, IsEnD' H v e → IsEnD H v e
  | .pair _ _, h => h
section
variable {P : Program} {w : World} {K : PySem.W.Frag} {mg : Str → Option Value} {base : Heap}
variable {C f : Addr} {cdv : Value} {A : Around} {outer : List Env} {s : Shared} {H0 : Hp} {E : XK} {k : Nat}
theorem told2 (T : Fx mg) (L : CalL P w K mg base C) (hr : Room k (A.deeper (envOfC "law" (defScope sLaw) s.heap.objs.size f cdv))) (hk : 8 ≤ k) :
    ∃ t, PSs (cxOf CX0 P w K mg base nLaw "law" (defScope sLaw) f cdv A outer s H0 E).nox (toldB.drop 2) t ∧
      ∀ (D : Ends) (H : Hp) (sa r : V) (o2 o3 o4 : Option V) (v1 v2 : V) (lf lo po pr : Addr) (o11 o12 o13 : Option V) (told : V) (o16 o17 : Option V) (F1 F2 L1 L2' : List Sx) (own far : List Int) (tt : To) (b : Bool),
        ToldF C H v1 v2 told lf lo po pr F1 F2 L1 L2' own far tt → (b = false → mapM F1 (mx F1) F2 own tt = false) →
        (b = true → ∃ es, tt = .tup es ∧ es.length = own.length ∧ es.all En.isP = true ∧ allIn F1 F2 es = true ∧ es.map En.fst = own) →
        (∀ H' o15' o16', Same H H' → D.nx (sT sa r o2 o3 o4 v1 v2 (.ref lf) (.ref lo) (.ref po) (.ref pr) o11 o12 o13 told o15' o16' o17) H') →
        t D (sT sa r o2 o3 o4 v1 v2 (.ref lf) (.ref lo) (.ref po) (.ref pr) o11 o12 o13 told (some (.bl b)) o16 o17) H := by
  obtain ⟨t34, p34, h34⟩ := told34 (P := P) (w := w) (K := K) (base := base) (C := C) (f := f) (outer := outer) (H0 := H0) (E := E) T L hr hk
  apply Exists.intro
  apply And.intro
  · apply pss_cons
    · exact ps_if (pt_val (pv 15))
        (pss_one (ps_set (i := 15) scLaw.nd rfl (.inl rfl) (pe_cmpR (op_eqD hr.units)
          (pe_lc (own := [("_law_face", 20)]) (g := gName 20) (tt := tTest (tOp (rNotInD K) (tImgs K w) (tVar 8))) (te := tVar 20) rfl scLaw.nd (pi_list (pv 7))
            (blkOk_by (own := [("_law_face", 20)]) (N := nLaw) (sc := defScope sLaw) (by decide +kernel))
            (fun _ _ _ _ _ => pg_name (i := 20) scLaw.nd rfl (.inl rfl))
            (fun _ _ _ _ _ => pts_one (pt_cmpR (op_notInD (hu65 hr)) (pe_callTy call_tuple_of (by rfl) T.zTuple (by decide +kernel) (pa_cons (pe_callB (cr_sortedSet rfl) (by rfl) T.zSorted (by decide +kernel) (pa_cons
            (pe_callTy (cr_setI rfl) (by rfl) T.zSet (by decide +kernel) (pa_cons
              (pe_lc (own := [("_law_vertex", 18)]) (g := gName 18) (tt := tYes) (te := tDGet (tCB (rDictF K) (tCons (tVar 14) tNil)) (tVar 18)) rfl scLaw.nd (pi_tup (pv 20))
                (blkOk_by (own := [("_law_vertex", 18)]) (N := nLaw) (sc := scT2) (by decide +kernel))
                (fun _ _ _ _ _ => pg_name (i := 18) scLaw.nd rfl (.inl rfl)) (fun _ _ _ _ _ => pts_nil)
                (fun _ _ _ _ _ => pe_dget (hu_of hr) (pe_callTy (call_dictF rfl) (by rfl) T.zDict (by decide +kernel) (pa_cons (pv 14) pa_nil)) (pv 18) (fun _ _ => rfl))) pa_nil)) pa_nil)) pa_nil)) (pv 8) (by rfl)))
            (fun _ _ _ _ _ => pv 20)) (pe_lst pa_nil) (nomark _)))) pss_nil
    exact p34
  · intro D H sa r o2 o3 o4 v1 v2 lf lo po pr o11 o12 o13 told o16 o17 F1 F2 L1 L2' own far tt b h hb0 hb1 q
    refine ⟨_, rfl, _, rfl, ?_⟩
    cases b with
    | false =>
      refine iteF ?_
      exact h34 D H sa r o2 o3 o4 v1 v2 lf lo po pr o11 o12 o13 told o16 o17 F1 F2 L1 L2' own far tt false h (hb0 rfl).symm (fun H' o16' s => q H' _ o16' s)
    | true =>
      refine iteT ?_
      obtain ⟨es, rfl, hlen, hP, hin, hfst⟩ := hb1 rfl
      have hm : mapM F1 (mx F1) F2 own (.tup es) = (mx F1).all fun s => decide (img (psOf es) s ∈ F2) := by simp [mapM, hlen, hP, hin, hfst]
      obtain ⟨lf', ys, elf, el, rs⟩ := h.l1
      cases elf
      obtain ⟨lo', zs, elo, eg, rg⟩ := h.l2
      cases elo
      -- the reading of the images needs only the pairs: a map into all the images
      have y0 : MapYes F1 ([] : List Sx) F2 own es := ⟨hlen, hP, hin, hfst, by simp⟩
      refine ⟨_, rfl, lf, rfl, ⟨_, SqL.of el⟩, fun D1 hD1 => ?_⟩
      refine lc_fun ext_same (bs := L1) (walk_list' (K := K) (a := lf) (xs := ys) (Paired.len rs)) (fun s => decide (img (psOf es) s ∉ L2')) (fun s => s) IsS (fun kt h => h.kt kt) hD1 (Same.refl _) (by have := h.n1; omega) (fun H' s => SqL.of (s _ _ el)) ?_ ?_
      · rintro i x sx H3 H4 NT NF hbx s3 ⟨rfl, hx⟩ ht hf
        obtain ⟨b', hb', fa, rfl, hfa⟩ := Paired.at rs hx
        obtain rfl : sx = b' := Option.some.inj (hbx.symm.trans hb')
        obtain ⟨w1, w2⟩ := h.vx (List.mem_of_getElem? hbx)
        refine ⟨rfl, imgs_read (K := K) (w := w) (h.to.sm s3) y0 h.up (s3 _ _ hfa) w1 w2 fun H5 v s5 hv => ?_⟩
        refine ⟨_, rfl, notin_Ss (t := img (psOf es) sx) (G := L2') hv (s5 _ _ (s3 _ _ eg)) (IsSs.kt ((Same.kt s3).trans (Same.kt s5)) rg) ⟨_, rfl, ?_⟩⟩
        refine ite2 (fun hc => ?_) (fun hc => ?_)
        · exact ⟨_, rfl, ht hc _ _ s5 ⟨fa, rfl, s5 _ _ (s3 _ _ hfa)⟩⟩
        · refine hf ?_ _ s5
          cases e : decide (img (psOf es) sx ∉ L2') with
          | false => rfl
          | true => exact absurd e hc
      · intro H5 ws s5 hD5 r5
        rw [List.map_id'] at r5
        refine ⟨by show 0 ≤ sizeLine; decide, fun p6 n6 => ?_⟩
        have t6 := same_upd (o := .lst []) n6
        have r6 := IsSs.kt (Same.kt t6) r5
        refine eq_nil (t6 _ _ hD5) (fun y hy => ?_) upd_same ?_
        · obtain ⟨i, hi⟩ := List.getElem?_of_mem hy
          obtain ⟨sx, _, hS⟩ := Paired.at r6 hi
          exact ⟨_, dp_S hS, SeqAt.canLay_of_shaped (shaped_tints sx), depth_S sx⟩
        · have e : ws.isEmpty = mapM F1 (mx F1) F2 own (.tup es) := by
            rw [isEmpty_paired r5, isEmpty_filter, hm, Bool.eq_iff_iff, List.all_eq_true, List.all_eq_true]
            constructor
            · intro hh g hg
              have h1 := hh g ((h.m1 g).mpr (mem_mx.mp hg).1)
              have h2 : img (psOf es) g ∈ L2' := by simpa using h1
              exact decide_eq_true ((h.m2 _).mp h2)
            · intro hh sx hsx
              have h1 := (img_all (ps := psOf es) h.o1.ok h.o1.cl h.o2.cl).mp (fun g hg => of_decide_eq_true (hh g hg)) sx ((h.m1 sx).mp hsx)
              have h2 := (h.m2 _).mpr h1
              simpa using h2
          have s6 := s5.trans t6
          exact h34 D _ sa r o2 o3 o4 v1 v2 lf lo po pr o11 o12 o13 told o16 o17 F1 F2 L1 L2' own far _ _ (h.sm s6) e (fun H' o16' s => q H' _ o16' (s6.trans s))
theorem inV_non (ns : List Int) : inV .non (ns.map V.int) = false := by
  unfold inV
  rw [List.any_map]
  induction ns with
  | nil => rfl
  | cons a ns ih => rw [List.any_cons, ih]; rfl
theorem told1 (T : Fx mg) (L : CalL P w K mg base C) (hr : Room k (A.deeper (envOfC "law" (defScope sLaw) s.heap.objs.size f cdv))) (hk : 8 ≤ k) :
    ∃ t, PSs (cxOf CX0 P w K mg base nLaw "law" (defScope sLaw) f cdv A outer s H0 E).nox (toldB.drop 1) t ∧
      ∀ (D : Ends) (H : Hp) (sa r : V) (o2 o3 o4 : Option V) (v1 v2 : V) (lf lo po pr : Addr) (o11 o12 o13 : Option V) (told : V) (o16 o17 : Option V) (F1 F2 L1 L2' : List Sx) (own far : List Int) (tt : To) (b : Bool),
        ToldF C H v1 v2 told lf lo po pr F1 F2 L1 L2' own far tt → (b = false → mapM F1 (mx F1) F2 own tt = false) →
        (b = true → ∃ es, tt = .tup es ∧ es.length = own.length ∧ es.all En.isP = true) →
        (∀ H' o15' o16', Same H H' → D.nx (sT sa r o2 o3 o4 v1 v2 (.ref lf) (.ref lo) (.ref po) (.ref pr) o11 o12 o13 told o15' o16' o17) H') →
        t D (sT sa r o2 o3 o4 v1 v2 (.ref lf) (.ref lo) (.ref po) (.ref pr) o11 o12 o13 told (some (.bl b)) o16 o17) H := by
  obtain ⟨t2, p2, h2⟩ := told2 (P := P) (w := w) (K := K) (base := base) (C := C) (f := f) (outer := outer) (H0 := H0) (E := E) T L hr hk
  apply Exists.intro
  apply And.intro
  · apply pss_cons
    · exact ps_if (pt_val (pv 15))
        (pss_one (ps_set (i := 15) scLaw.nd rfl (.inl rfl) (pe_and (pe_cmpR (op_eqD hr.units)
          (pe_lc (own := [("_law_pair", 19)]) (g := gName 19) (tt := tYes) (te := tOp (rIxT K) (tVar 19) (tC (.int 0))) rfl scLaw.nd (pi_tup (pv 14))
            (blkOk_by (own := [("_law_pair", 19)]) (N := nLaw) (sc := defScope sLaw) (by decide +kernel))
            (fun _ _ _ _ _ => pg_name (i := 19) scLaw.nd rfl (.inl rfl)) (fun _ _ _ _ _ => pts_nil) (fun _ _ _ _ _ => pe_ix ix_tup (pv 19) pe_int (fun _ _ => rfl))) (pv 9) (nomark _))
          (pe_one (pe_cmpR (op_eqD hr.units)
          (pe_lc (own := [("_law_pair", 19)]) (g := gName 19) (tt := tOr (tB (tCB (rIsi K) (tCons (tOp (rIxT K) (tVar 19) (tC (.int 1))) (tCons (tC (.ty "bool")) tNil)))) (tTest (tOp (rIn K true) (tOp (rIxT K) (tVar 19) (tC (.int 1))) (tVar 10)))) (te := tVar 19) rfl scLaw.nd (pi_tup (pv 14))
            (blkOk_by (own := [("_law_pair", 19)]) (N := nLaw) (sc := defScope sLaw) (by decide +kernel))
            (fun _ _ _ _ _ => pg_name (i := 19) scLaw.nd rfl (.inl rfl))
            (fun _ _ _ _ _ => pts_one (PW.pt (pw_or (pt_val (pe_callB call_isi (by rfl) T.zIsi (by decide +kernel) (pa_cons (pe_ix ix_tup (pv 19) pe_int (fun _ _ => rfl)) (pa_cons (pe_bltn (v := .ty "bool") (by rfl) T.zBool (by decide +kernel) rfl) pa_nil))))
              (pw_or1 (pt_cmpR op_notIn_seq (pe_ix ix_tup (pv 19) pe_int (fun _ _ => rfl)) (pv 10) (by rfl))))))
            (fun _ _ _ _ _ => pv 19)) (pe_lst pa_nil) (nomark _)))))) pss_nil
    exact p2
  · intro D H sa r o2 o3 o4 v1 v2 lf lo po pr o11 o12 o13 told o16 o17 F1 F2 L1 L2' own far tt b h hb0 hb1 q
    refine ⟨_, rfl, _, rfl, ?_⟩
    cases b with
    | false =>
      refine iteF ?_
      exact h2 D H sa r o2 o3 o4 v1 v2 lf lo po pr o11 o12 o13 told o16 o17 F1 F2 L1 L2' own far tt false h hb0 (fun z => nomatch z) q
    | true =>
      refine iteT ?_
      obtain ⟨es, rfl, hlen, hP⟩ := hb1 rfl
      obtain ⟨a, xs, rfl, hrd, hes, hmany, hfz⟩ := id h.to
      have xlen := Paired.len hes
      have hsq : SqT K H a xs := .inl hrd
      have getP : ∀ {i : Nat} {x : V} {b : En} {H' : Hp}, Same H H' → es[i]? = some b → xs[i]? = some x → ∃ a' b', b = .pair a' b' ∧ IsPr H' x a' b' := by
        intro i x b H' s hb hx
        obtain ⟨e, he, hen⟩ := Paired.at hes hx
        obtain rfl : b = e := Option.some.inj (hb.symm.trans he)
        have hp' := List.all_eq_true.mp hP b (List.mem_of_getElem? hb)
        cases b with
        | bad => simp [En.isP] at hp'
        | pair a' b' => exact ⟨a', b', rfl, hen.sm s⟩
      refine ⟨_, rfl, a, rfl, ⟨_, hsq⟩, fun D1 hD1 => ?_⟩
      refine lc_fun ext_same (bs := es) (walk_tup' (K := K) (a := a) (xs := xs) xlen) (fun _ => true) En.fst (fun _ y c => y = .int c) (fun _ h => h) hD1 (Same.refl _) (by omega) (fun H' s => sqT_sm hsq s) ?_ ?_
      · rintro i x b H3 H4 NT NF hb s3 ⟨rfl, hx⟩ ht hf
        obtain ⟨a', b', rfl, pa, rfl, hpa, Tb, hTb⟩ := getP s3 hb hx
        exact ⟨rfl, _, rfl, pa, _, 0, .int a', rfl, rfl, .inl (.inl hpa), rfl, ht rfl _ _ (Same.refl _) rfl⟩
      · intro H5 ys s5 hD5 r5
        have ey : ys = (es.map En.fst).map V.int := by
          have e := Paired.eqv (g := V.int) r5
          rw [e, filter_yes]
        refine ⟨_, rfl, eq_ints (xs := es.map En.fst) (ys := own) (by rw [hD5, ey]) (s5 _ _ h.po) ⟨_, rfl, ?_⟩⟩
        refine ite2 (fun hc => ?_) (fun hc => ?_)
        · have hfst : es.map En.fst = own := of_decide_eq_true hc
          refine ⟨_, rfl, a, rfl, ⟨_, sqT_sm hsq s5⟩, fun D2 hD2 => ?_⟩
          refine lc_fun ext_same (bs := es) (walk_tup' (K := K) (a := a) (xs := xs) xlen) (fun e => !hasV F2 e.snd) (fun e => e) IsEnD' (fun kt h => h.kt kt) hD2 (Same.refl _) (by omega) (fun H' s => sqT_sm hsq (s5.trans s)) ?_ ?_
          · rintro i x b H6 H7 NT NF hb s6 ⟨rfl, hx⟩ ht hf
            obtain ⟨a', b', rfl, pa, rfl, hpa, Tb, hTb⟩ := getP (s5.trans s6) hb hx
            have hat : atI [V.int a', b'] 1 = some b' := rfl
            have hfar : ∀ n : Int, decide (n ∈ far) = hasV F2 (.int n) := fun n => by
              show decide (n ∈ far) = decide ([n] ∈ F2)
              exact decide_eq_decide.mpr (h.uf.2 n)
            refine ⟨rfl, _, rfl, pa, _, 1, b', rfl, rfl, .inl (.inl hpa), hat, ?_⟩
            have hpr := s6 _ _ (s5 _ _ h.pr)
            cases b' <;> simp [flatT] at hTb <;> subst hTb
            · refine ⟨_, .ty "bool", .type "NoneType", .type "bool", false, rfl, .ty _, flatT_ty rfl, kit_ty (by decide +kernel), false, rfl, iteF ?_⟩
              refine ⟨_, rfl, pa, _, 1, .non, rfl, rfl, .inl (.inl hpa), hat, _, rfl, pr, _, rfl, .inl (SqL.of hpr), rfl, flat_ints far, _, rfl, ?_⟩
              rw [inV_non]
              exact ⟨_, rfl, ht rfl _ _ (Same.refl _) ⟨pa, rfl, hpa, _, rfl⟩⟩
            · rename_i bb
              refine ⟨_, .ty "bool", .type "bool", .type "bool", true, rfl, .ty _, flatT_ty rfl, kit_ty (by decide +kernel), true, rfl, iteT ?_⟩
              exact ⟨_, rfl, ht rfl _ _ (Same.refl _) ⟨pa, rfl, hpa, _, rfl⟩⟩
            · rename_i n
              refine ⟨_, .ty "bool", .type "int", .type "bool", false, rfl, .ty _, flatT_ty rfl, kit_ty (by decide +kernel), false, rfl, iteF ?_⟩
              refine ⟨_, rfl, pa, _, 1, .int n, rfl, rfl, .inl (.inl hpa), hat, _, rfl, pr, _, rfl, .inl (SqL.of hpr), rfl, flat_ints far, _, rfl, ?_⟩
              rw [inV_ints, hfar n]
              cases hv : hasV F2 (.int n) with
              | true => exact hf (by show (!hasV F2 (.int n)) = false; rw [hv]; rfl) _ (Same.refl _)
              | false => exact ⟨_, rfl, ht (by show (!hasV F2 (.int n)) = true; rw [hv]; rfl) _ _ (Same.refl _) ⟨pa, rfl, hpa, _, rfl⟩⟩
          · intro H6 ws s6 hD6 r6
            rw [List.map_id'] at r6
            refine ⟨by show 0 ≤ sizeLine; decide, fun p7 n7 => ?_⟩
            have t7 := same_upd (o := .lst []) n7
            refine eq_nil (t7 _ _ hD6) (fun y hy => ?_) upd_same ?_
            · obtain ⟨i, hi⟩ := List.getElem?_of_mem hy
              obtain ⟨e, _, hS⟩ := Paired.at r6 hi
              exact (IsEnD'.en (IsEnD'.kt (Same.kt t7) hS)).dp
            · have e : ws.isEmpty = es.all fun e => hasV F2 e.snd := by
                rw [isEmpty_paired r6, isEmpty_filter]
                congr 1
                funext e
                rw [Bool.not_not]
              have hall : (es.all fun e => hasV F2 e.snd) = allIn F1 F2 es := by
                unfold allIn
                rw [Bool.eq_iff_iff, List.all_eq_true, List.all_eq_true]
                refine forall_congr' fun x => forall_congr' fun hx => ?_
                have hf : hasV F1 (.int x.fst) = true := decide_eq_true ((h.up.2 x.fst).mp (by rw [← hfst]; exact List.mem_map.mpr ⟨x, hx, rfl⟩))
                rw [hf, Bool.true_and]
              rw [hall] at e
              have s7 := s5.trans (s6.trans t7)
              refine h2 D _ sa r o2 o3 o4 v1 v2 lf lo po pr o11 o12 o13 _ o16 o17 F1 F2 L1 L2' own far _ _ (h.sm s7) (fun z => ?_) (fun z => ⟨es, rfl, hlen, hP, by rw [← e]; exact z, hfst⟩) (fun H' o15' o16' s => q H' o15' o16' (s7.trans s))
              rw [e] at z
              simp [mapM, z]
        · refine h2 D _ sa r o2 o3 o4 v1 v2 lf lo po pr o11 o12 o13 _ o16 o17 F1 F2 L1 L2' own far _ false (h.sm s5) (fun _ => ?_) (fun z => nomatch z) (fun H' o15' o16' s => q H' o15' o16' (s5.trans s))
          have hne : ¬ es.map En.fst = own := fun z => hc (decide_eq_true z)
          simp [mapM, hne]
theorem told0 (T : Fx mg) (L : CalL P w K mg base C) (hr : Room k (A.deeper (envOfC "law" (defScope sLaw) s.heap.objs.size f cdv))) (hk : 8 ≤ k) :
    ∃ t, PSs (cxOf CX0 P w K mg base nLaw "law" (defScope sLaw) f cdv A outer s H0 E).nox toldB t ∧
      ∀ (D : Ends) (H : Hp) (sa r : V) (o2 o3 o4 : Option V) (v1 v2 : V) (lf lo po pr : Addr) (o11 o12 o13 : Option V) (told : V) (o15 o16 o17 : Option V) (F1 F2 L1 L2' : List Sx) (own far : List Int) (tt : To),
        ToldF C H v1 v2 told lf lo po pr F1 F2 L1 L2' own far tt →
        (∀ H' o15' o16', Same H H' → D.nx (sT sa r o2 o3 o4 v1 v2 (.ref lf) (.ref lo) (.ref po) (.ref pr) o11 o12 o13 told o15' o16' o17) H') →
        t D (sT sa r o2 o3 o4 v1 v2 (.ref lf) (.ref lo) (.ref po) (.ref pr) o11 o12 o13 told o15 o16 o17) H := by
  obtain ⟨t1, p1, h1⟩ := told1 (P := P) (w := w) (K := K) (base := base) (C := C) (f := f) (outer := outer) (H0 := H0) (E := E) T L hr hk
  apply Exists.intro
  apply And.intro
  · apply pss_cons
    · exact ps_set (i := 15) scLaw.nd rfl (.inl rfl) (pe_and (pe_callB call_isi (by rfl) T.zIsi (by decide +kernel) (pa_cons (pv 14) (pa_cons (pe_bltn (v := .ty "tuple") (by rfl) T.zTuple (by decide +kernel) rfl) pa_nil)))
        (pe_and (pe_cmpR op_eq (pe_callB call_len_seq (by rfl) T.zLen PySem.boot_len (pa_cons (pv 14) pa_nil)) (pe_callB call_len_seq (by rfl) T.zLen PySem.boot_len (pa_cons (pv 9) pa_nil)) (nomark _))
        (pe_one (pe_cmpR (op_eqD hr.units)
          (pe_lc (own := [("_law_pair", 19)]) (g := gName 19) (tt := tOr (tNot (tB (tCB (rIsi K) (tCons (tVar 19) (tCons (tC (.ty "tuple")) tNil))))) (tTest (tOp rNe (tCB (rLenS K) (tCons (tVar 19) tNil)) (tC (.int 2))))) (te := tVar 19) rfl scLaw.nd (pi_tup (pv 14))
            (blkOk_by (own := [("_law_pair", 19)]) (N := nLaw) (sc := defScope sLaw) (by decide +kernel))
            (fun _ _ _ _ _ => pg_name (i := 19) scLaw.nd rfl (.inl rfl))
            (fun _ _ _ _ _ => pts_one (PW.pt (pw_or (pt_not (pt_val (pe_callB call_isi (by rfl) T.zIsi (by decide +kernel) (pa_cons (pv 19) (pa_cons (pe_bltn (v := .ty "tuple") (by rfl) T.zTuple (by decide +kernel) rfl) pa_nil)))))
              (pw_or1 (pt_cmpR op_ne (pe_callB call_len_seq (by rfl) T.zLen PySem.boot_len (pa_cons (pv 19) pa_nil)) pe_int (nomark _))))))
            (fun _ _ _ _ _ => pv 19)) (pe_lst pa_nil) (nomark _)))))
    exact p1
  · intro D H sa r o2 o3 o4 v1 v2 lf lo po pr o11 o12 o13 told o15 o16 o17 F1 F2 L1 L2' own far tt h q
    obtain ⟨ty, w1, w2⟩ : ∃ ty b, TyX K H told (.type ty) ∧ kitB ty "tuple" = some b ∧ (b = match tt with | .tup _ => true | .oth => false) := by
      cases tt with
      | oth =>
        obtain ⟨ty, h1, h2⟩ := shp_ty (K := K) (show Shp H told none from h.to)
        exact ⟨ty, _, h1, h2, rfl⟩
      | tup es =>
        obtain ⟨a, xs, rfl, hrd, _⟩ := id h.to
        obtain ⟨ty, h1, h2⟩ := shp_ty (K := K) (Shp.tup hrd)
        exact ⟨ty, _, h1, h2, rfl⟩
    obtain ⟨w3, w4, w5⟩ := w2
    refine ⟨_, rfl, told, .ty "tuple", .type ty, .type "tuple", w1, rfl, .ty _, w3, kit_ty w4, w1, rfl, ?_⟩
    cases tt with
    | oth =>
      rw [w5]
      refine iteF ?_
      exact h1 D H sa r o2 o3 o4 v1 v2 lf lo po pr o11 o12 o13 told o16 o17 F1 F2 L1 L2' own far _ false h (fun _ => rfl) (fun z => nomatch z) q
    | tup es =>
      rw [w5]
      refine iteT ?_
      obtain ⟨a, xs, rfl, hrd, hes, hmany, hfz⟩ := id h.to
      have xlen := Paired.len hes
      have hsq : SqT K H a xs := .inl hrd
      refine ⟨_, rfl, a, xs, rfl, .inr hsq, _, rfl, po, _, rfl, .inl (SqL.of h.po), rfl, _, rfl, ?_⟩
      refine ite2 (fun hc => ?_) (fun hc => ?_)
      · have hlen : es.length = own.length := by
          have h1 := V.int.inj (of_decide_eq_true hc)
          rw [List.length_map, xlen] at h1
          omega
        refine ⟨_, rfl, a, rfl, ⟨_, hsq⟩, fun D1 hD1 => ?_⟩
        refine lc_fun ext_same (bs := es) (walk_tup' (K := K) (a := a) (xs := xs) xlen) (fun e => !e.isP) (fun e => e) (fun _ y e => ∃ i : Nat, xs[i]? = some y ∧ es[i]? = some e) (fun _ h => h) hD1 (Same.refl _) (by omega) (fun H' s => sqT_sm hsq s) ?_ ?_
        · rintro i x b H3 H4 NT NF hb s3 ⟨rfl, hx⟩ ht hf
          obtain ⟨e, he, hen⟩ := Paired.at hes hx
          obtain rfl : b = e := Option.some.inj (hb.symm.trans he)
          obtain ⟨o, ho1, ho2⟩ := ((hen.sm s3).en).shp
          obtain ⟨ty2, k1, k2⟩ := shp_ty (K := K) ho1
          refine ⟨rfl, _, rfl, x, .ty "tuple", .type ty2, .type "tuple", _, rfl, .ty _, k1, kit_ty k2, _, rfl, ?_⟩
          cases ho1 with
          | lst hh =>
            have e0 : b.isP = false := ho2.symm
            exact iteT ⟨_, rfl, ht (by rw [e0]; rfl) _ _ (Same.refl _) ⟨i, hx, hb⟩⟩
          | flat hh =>
            have e0 : b.isP = false := ho2.symm
            exact iteT ⟨_, rfl, ht (by rw [e0]; rfl) _ _ (Same.refl _) ⟨i, hx, hb⟩⟩
          | @tup a2 xs2 hh =>
            refine iteF ⟨_, rfl, a2, xs2, rfl, .inr (.inl hh), rfl, _, rfl, ?_⟩
            refine ite2 (fun hc2 => ?_) (fun hc2 => ?_)
            · have hne : ¬ xs2.length = 2 := fun z => by
                rw [z] at hc2
                exact absurd hc2 (by decide)
              have e0 : b.isP = false := by
                rw [← ho2]
                simp [lenB]
                omega
              exact ⟨_, rfl, ht (by rw [e0]; rfl) _ _ (Same.refl _) ⟨i, hx, hb⟩⟩
            · have hne : xs2.length = 2 := by
                refine Decidable.byContradiction fun z => hc2 ?_
                have : ¬ V.int (xs2.length : Int) = V.int 2 := fun zz => z (by have := V.int.inj zz; omega)
                rw [decide_eq_false this]
                rfl
              have e0 : b.isP = true := by
                rw [← ho2, hne]
                rfl
              exact hf (by rw [e0]; rfl) _ (Same.refl _)
        · intro H5 ws s5 hD5 r5
          rw [List.map_id'] at r5
          refine ⟨by show 0 ≤ sizeLine; decide, fun p6 n6 => ?_⟩
          have t6 := same_upd (o := .lst []) n6
          have s6 := s5.trans t6
          refine eq_nil (t6 _ _ hD5) (fun y hy => ?_) upd_same ?_
          · obtain ⟨i, hi⟩ := List.getElem?_of_mem hy
            obtain ⟨e, _, j, hj, hej⟩ := Paired.at r5 hi
            obtain ⟨e', he', hen⟩ := Paired.at hes hj
            exact (hen.sm s6).dp
          · have e : ws.isEmpty = es.all En.isP := by
              rw [isEmpty_paired r5, isEmpty_filter]
              congr 1
              funext e
              rw [Bool.not_not]
            refine h1 D _ sa r o2 o3 o4 v1 v2 lf lo po pr o11 o12 o13 _ o16 o17 F1 F2 L1 L2' own far _ _ (h.sm s6) (fun z => ?_) (fun z => ⟨es, rfl, hlen, by rw [← e]; exact z⟩) (fun H' o15' o16' s => q H' o15' o16' (s6.trans s))
            rw [e] at z
            simp [mapM, z]
      · refine h1 D _ sa r o2 o3 o4 v1 v2 lf lo po pr o11 o12 o13 _ o16 o17 F1 F2 L1 L2' own far _ false h (fun _ => ?_) (fun z => nomatch z) q
        have hne : ¬ es.length = own.length := fun z => by
          refine hc (decide_eq_true ?_)
          rw [List.length_map, xlen, z]
        simp [mapM, hne]
end
end B72
set_option Elab.async false
set_option linter.all false
set_option maxRecDepth 100000
set_option maxHeartbeats 4000000
/-! The law's outer turn, from its last statements back. -/
namespace B72
open PySem PySem.Spec PyProof.Rows L2 R72 Mk72
theorem Paired.set {α β : Type} {R : α → β → Prop} {x : α} {y : β} (h : R x y) : ∀ {xs : List α} {ys : List β} (i : Nat), Paired R xs ys → Paired R (xs.set i x) (ys.set i y)
  | _, _, _, .nil => .nil
  | _, _, 0, .cons _ t => .cons h t
  | _, _, i + 1, .cons r t => .cons r (Paired.set h i t)
theorem Paired.rev {α β : Type} {R : α → β → Prop} : ∀ {xs : List α} {ys : List β}, Paired R xs ys → Paired R xs.reverse ys.reverse
  | _, _, .nil => .nil
  | _, _, .cons r t => by
    rw [List.reverse_cons, List.reverse_cons]
    exact Paired.snoc r (Paired.rev t)
theorem pe_weaken {X : Cx} {e : Expr} {t t' : TE} (h : PE X e t) (hw : ∀ σ H Q, t' σ H Q → t σ H Q) : PE X e t' := ⟨fun pins s σ H Q I q => h.run pins s σ H Q I (hw σ H Q q)⟩
section
variable {P : Program} {w : World} {K : PySem.W.Frag} {mg : Str → Option Value} {base : Heap}
/-- names + ((0, 0),) -/
def tPlus (K : PySem.W.Frag) : TE := fun σ H Q => ∃ a xs, σ[11]? = some (some (.ref a)) ∧ SqT K H a xs ∧ xs.length ≤ 1000 ∧ ∀ H' p z, Same H H' → H' p = some (.tup (xs ++ [.ref z])) → H' z = some (.tup [.int 0, .int 0]) → Q (.ref p) H'
theorem plus_read {σ : L2.St} {H : Hp} {Q : VK} (h : tPlus K σ H Q) : tOp (rCatA K) (tVar 11) (tTup (tCons (tTup (tCons (tC (.int 0)) (tCons (tC (.int 0)) tNil))) tNil)) σ H Q := by
  obtain ⟨a, xs, e, hs, hl, q⟩ := h
  refine ⟨_, e, by show 2 ≤ sizeLine; decide, fun p1 n1 => ⟨by show 1 ≤ sizeLine; decide, fun p2 n2 => ?_⟩⟩
  have t1 := same_upd (o := .tup [.int 0, .int 0]) n1
  have t2 := same_upd (o := .tup [.ref p1]) n2
  refine ⟨a, p2, xs, _, rfl, rfl, sqT_sm hs (t1.trans t2), .inl (.inl upd_same), ?_, fun z => ?_, fun z1 z2 => absurd z2 (by simp), fun z1 z2 p3 n3 => ?_⟩
  · show xs.length + 1 ≤ sizeLine
    exact Nat.le_trans (Nat.succ_le_succ hl) (by decide)
  · exact q _ p2 p1 (t1.trans t2) (by rw [upd_same, z]; rfl) (t2 _ _ upd_same)
  · have t3 := same_upd (o := .tup (xs ++ [.ref p1])) n3
    exact q _ p3 p1 (t1.trans (t2.trans t3)) upd_same (t3 _ _ (t2 _ _ upd_same))
/-- the facts of an outer turn -/
structure TurnF (C : Addr) (H : Hp) (v1 v2 : V) (lf lo po pr : Addr) (F1 F2 L1 L2' : List Sx) (own far : List Int) : Prop where
  x1 : IsCx C H v1 F1 (mx F1)
  x2 : IsCx C H v2 F2 (mx F2)
  o1 : CxOk F1 (mx F1)
  o2 : CxOk F2 (mx F2)
  up : UpMem own F1
  uf : UpMem far F2
  ol : own.length ≤ 90
  fl : far.length ≤ 90
  l1 : LstSs H (.ref lf) L1
  l2 : LstSs H (.ref lo) L2'
  m1 : ∀ s, s ∈ L1 ↔ s ∈ F1
  m2 : ∀ s, s ∈ L2' ↔ s ∈ F2
  e1 : L1 = inOrd F1
  n1 : L1.length ≤ 200
  n2 : L2'.length ≤ 200
  po : H po = some (.lst (own.map V.int))
  pr : H pr = some (.lst (far.map V.int))
variable {C f : Addr} {cdv : Value} {A : Around} {outer : List Env} {s : Shared} {H0 : Hp} {E : XK} {k : Nat}
section
variable {H H' : Hp} {v1 v2 : V} {lf lo po pr : Addr} {F1 F2 L1 L2' : List Sx} {own far : List Int}
theorem TurnF.sm (k : Same H H') (h : TurnF C H v1 v2 lf lo po pr F1 F2 L1 L2' own far) : TurnF C H' v1 v2 lf lo po pr F1 F2 L1 L2' own far :=
  ⟨h.x1.sm k, h.x2.sm k, h.o1, h.o2, h.up, h.uf, h.ol, h.fl, h.l1.sm k, h.l2.sm k, h.m1, h.m2, h.e1, h.n1, h.n2, k _ _ h.po, k _ _ h.pr⟩
theorem TurnF.told (h : TurnF C H v1 v2 lf lo po pr F1 F2 L1 L2' own far) {told : V} {t : To} (ht : IsToD H told own.length t) : ToldF C H v1 v2 told lf lo po pr F1 F2 L1 L2' own far t :=
  ⟨h.x1, h.x2, h.o1, h.o2, h.up, h.uf, by have := h.ol; omega, by have := h.fl; omega, h.l1, h.l2, h.m1, h.m2, h.n1, h.n2, h.po, h.pr, ht⟩
end
def esOf (ps : List (Int × Int)) : List En := ps.map fun p => .pair p.1 (.int p.2)
theorem esOf_ps (ps : List (Int × Int)) : psOf (esOf ps) = ps := by
  unfold psOf esOf
  rw [List.map_map]
  exact List.map_id' _
theorem esOf_pr {H : Hp} : ∀ {xs : List V} {ps : List (Int × Int)}, Paired (fun x (p : Int × Int) => IsPr H x p.1 (.int p.2)) xs ps → Paired (IsEnD H) xs (esOf ps)
  | _, _, .nil => .nil
  | _, _, .cons h t => .cons h (esOf_pr t)
theorem IsNm.sm {H H' : Hp} (k : Same H H') {v : V} {ps : List (Int × Int)} (h : IsNm H v ps) : IsNm H' v ps :=
  let ⟨a, xs, e, fz, r⟩ := h
  ⟨a, xs, e, fz_sm k fz, Paired.mp (fun _ _ ⟨p, h1, h2, h3⟩ => ⟨p, h1, k _ _ h2, h3⟩) r⟩
theorem IsNm.to {H : Hp} {v : V} {ps : List (Int × Int)} {n : Nat} (h : IsNm H v ps) (hl : ps.length ≤ 100) : IsToD H v n (.tup (esOf ps)) := by
  obtain ⟨a, xs, rfl, ⟨o, e, d⟩, r⟩ := h
  exact ⟨a, xs, rfl, .inr ⟨o, e⟩, esOf_pr r, by unfold esOf; rw [List.length_map]; exact hl, fun _ => ⟨o, e, d⟩⟩
theorem turn7 (T : Fx mg) (L : CalL P w K mg base C) (hr : Room k (A.deeper (envOfC "law" (defScope sLaw) s.heap.objs.size f cdv))) (hk : 8 ≤ k) :
    ∃ t, PSs (cxOf CX0 P w K mg base nLaw "law" (defScope sLaw) f cdv A outer s H0 E).nox (turnB.drop 7) t ∧
      ∀ (D : Ends) (H : Hp) (sa r : V) (o2 o3 o4 : Option V) (v1 v2 : V) (lf lo po pr : Addr) (names : V) (ps : Addr) (o13 o14 o15 o16 o17 : Option V) (F1 F2 L1 L2' : List Sx) (own far : List Int) (nps : List (Int × Int)) (xs : List V) (es : List En),
        TurnF C H v1 v2 lf lo po pr F1 F2 L1 L2' own far → IsNm H names nps → nps.map (·.1) = own → H ps = some (.lst xs) → Paired (IsEnD H) xs es → es.length = own.length →
        (∀ H' o14' o15' o16' o17', Same H H' → D.nx [some sa, some r, o2, o3, o4, some v1, some v2, some (.ref lf), some (.ref lo), some (.ref po), some (.ref pr), some names, some (.ref ps), o13, o14', o15', o16', o17', none, none, none] H') →
        t D [some sa, some r, o2, o3, o4, some v1, some v2, some (.ref lf), some (.ref lo), some (.ref po), some (.ref pr), some names, some (.ref ps), o13, o14, o15, o16, o17, none, none, none] H := by
  obtain ⟨t0, p0, h0⟩ := told0 (P := P) (w := w) (K := K) (base := base) (C := C) (f := f) (outer := outer) (H0 := H0) (E := E) T L hr hk
  apply Exists.intro
  apply And.intro
  · apply pss_cons
    · exact ps_for PassesOwn.never rfl (pi_list (pe_lst (pa_cons (pv 11) (pa_cons (pe_callTy cr_tupF (by rfl) T.zTuple (by decide +kernel) (pa_cons (pv 12) pa_nil))
        (pa_cons (pe_callTy call_list_of (by rfl) T.zList (by decide +kernel) (pa_cons (pv 11) pa_nil))
        (pa_cons (pe_weaken (t' := tPlus K) (pe_op op_catA (pv 11) (pe_tup (pa_cons (pe_tup (pa_cons pe_int (pa_cons pe_int pa_nil))) pa_nil))) (fun _ _ _ h => plus_read h))
        (pa_cons (pe_revF (pv 11)) (pa_cons pe_non pa_nil)))))))) (pg_name (i := 14) scLaw.nd rfl (.inr rfl)) p0
    apply pss_cons
    · exact ps_set (i := 17) scLaw.nd rfl (.inl rfl) (pe_callTy cr_tupF (by rfl) T.zTuple (by decide +kernel) (pa_cons
        (pe_lc (own := [("_law_vertex", 18)]) (g := gName 18) (tt := tYes) (te := tTup (tCons (tVar 18) (tCons (tVar 18) tNil))) rfl scLaw.nd (pi_list (pv 9))
          (blkOk_by (own := [("_law_vertex", 18)]) (N := nLaw) (sc := defScope sLaw) (by decide +kernel))
          (fun _ _ _ _ _ => pg_name (i := 18) scLaw.nd rfl (.inl rfl)) (fun _ _ _ _ _ => pts_nil) (fun _ _ _ _ _ => pe_tup (pa_cons (pv 18) (pa_cons (pv 18) pa_nil)))) pa_nil))
    apply pss_one
    exact ps_if (pt_not (pt_val (C8.pe_c L.al2 hr (by omega) (by rfl) (pa_cons (C8.pe_c L.fixed hr hk (by rfl) (pa_cons (pv 5) (pa_cons (pv 17) pa_nil))) (pa_cons (pv 7) pa_nil))))) pss_never pss_nil
  · intro D H sa r o2 o3 o4 v1 v2 lf lo po pr names ps o13 o14 o15 o16 o17 F1 F2 L1 L2' own far nps xs es h hn hnp eps hes hel q
    have hnl : nps.length = own.length := by rw [← hnp, List.length_map]
    have hol := h.ol
    obtain ⟨a, ns', rfl, hfz, hpr⟩ := id hn
    have nlen := Paired.len hpr
    have xlen := Paired.len hes
    -- the six
    refine ⟨_, rfl, _, rfl, _, rfl, ps, xs, rfl, SqL.of eps, fun q2 oq2 n2 od2 => ?_⟩
    have t2 := same_upd (o := .frz oq2 (.tup xs)) n2
    have c2 : IsToD (upd H q2 (.frz oq2 (.tup xs))) (.ref q2) own.length (.tup es) := ⟨q2, xs, rfl, .inr ⟨oq2, upd_same⟩, Paired.mp (fun _ _ z => z.sm t2) hes, by omega, fun _ => ⟨oq2, upd_same, od2⟩⟩
    have hn2 := hn.sm t2
    generalize upd H q2 (.frz oq2 (.tup xs)) = H2 at t2 c2 hn2 ⊢
    refine ⟨_, rfl, a, ns', rfl, .inr (FzT.sq (fz_sm t2 hfz)), fun q3 n3 => ?_⟩
    have t3 := same_upd (o := .lst ns') n3
    have c3 : IsToD (upd H2 q3 (.lst ns')) (.ref q3) own.length .oth := Shp.lst upd_same
    generalize upd H2 q3 (.lst ns') = H3 at t3 c3 ⊢
    have t23 := t2.trans t3
    refine ⟨a, ns', rfl, FzT.sq (fz_sm t23 hfz), by omega, fun H4 q4 z4 t4 e4 ez4 => ?_⟩
    have t24 := t23.trans t4
    have hpr4 := (hn.sm t24)
    have c4 : IsToD H4 (.ref q4) own.length (.tup (esOf nps ++ [.pair 0 (.int 0)])) := by
      refine ⟨q4, _, rfl, .inl e4, Paired.snoc ⟨z4, rfl, ez4, "int", rfl⟩ (Paired.mp (fun _ _ z => z.sm t24) (esOf_pr hpr)), ?_, fun z => ?_⟩
      · rw [List.length_append]
        unfold esOf
        rw [List.length_map]
        show nps.length + 1 ≤ 100
        omega
      · rw [List.length_append] at z
        unfold esOf at z
        rw [List.length_map] at z
        have : nps.length + 1 = own.length := z
        omega
    refine ⟨_, rfl, a, ns', rfl, FzT.sq (fz_sm t24 hfz), fun q5 oq5 n5 od5 => ?_⟩
    have t5 := same_upd (o := .frz oq5 (.tup ns'.reverse)) n5
    have t25 := t24.trans t5
    have c5 : IsToD (upd H4 q5 (.frz oq5 (.tup ns'.reverse))) (.ref q5) own.length (.tup (esOf nps).reverse) := by
      refine ⟨q5, _, rfl, .inr ⟨oq5, upd_same⟩, Paired.rev (Paired.mp (fun _ _ z => z.sm t25) (esOf_pr hpr)), ?_, fun _ => ⟨oq5, upd_same, od5⟩⟩
      rw [List.length_reverse]
      unfold esOf
      rw [List.length_map]
      omega
    generalize upd H4 q5 (.frz oq5 (.tup ns'.reverse)) = H5 at t5 t25 c5 ⊢
    refine ⟨by show 6 ≤ sizeLine; decide, fun pl npl => ?_⟩
    have t6 := same_upd (o := .lst [.ref a, .ref q2, .ref q3, .ref q4, .ref q5, .non]) npl
    have t26 := t25.trans t6
    refine ⟨pl, rfl, ⟨_, SqL.of upd_same⟩, ?_⟩
    have el : (upd H5 pl (.lst [.ref a, .ref q2, .ref q3, .ref q4, .ref q5, .non])) pl = some (.lst [.ref a, .ref q2, .ref q3, .ref q4, .ref q5, .non]) := upd_same
    have all6 : ∀ x ∈ [V.ref a, .ref q2, .ref q3, .ref q4, .ref q5, .non], ∃ t, IsToD (upd H5 pl (.lst [.ref a, .ref q2, .ref q3, .ref q4, .ref q5, .non])) x own.length t := by
      intro x hx
      simp only [List.mem_cons, List.not_mem_nil, or_false] at hx
      rcases hx with rfl | rfl | rfl | rfl | rfl | rfl
      · exact ⟨_, (hn.to (by omega)).sm t26⟩
      · exact ⟨_, c2.sm (t3.trans (t4.trans (t5.trans t6)))⟩
      · exact ⟨_, c3.sm (t4.trans (t5.trans t6))⟩
      · exact ⟨_, c4.sm (t5.trans t6)⟩
      · exact ⟨_, c5.sm t6⟩
      · exact ⟨.oth, .flat (T := "NoneType") rfl⟩
    have h6 := h.sm t26
    have hn6 := hn.sm t26
    generalize upd H5 pl (.lst [.ref a, .ref q2, .ref q3, .ref q4, .ref q5, .non]) = H6 at t26 el all6 h6 hn6 ⊢
    refine for_list (K := K) (a := pl) (xs := [.ref a, .ref q2, .ref q3, .ref q4, .ref q5, .non]) (fun i σ H' => ∃ o14 o15 o16, σ = [some sa, some r, o2, o3, o4, some v1, some v2, some (.ref lf), some (.ref lo), some (.ref po), some (.ref pr), some (.ref a), some (.ref ps), o13, o14, o15, o16, o17, none, none, none] ∧ Same H6 H')
      ⟨o14, o15, o16, rfl, Same.refl _⟩ (fun i σ H' _ ⟨_, _, _, _, sm⟩ => SqL.of (sm _ _ el)) ?_ ?_
    · rintro i x σ H' hx ⟨o14', o15', o16', rfl, sm⟩
      obtain ⟨t, ht⟩ := all6 x (List.mem_of_getElem? hx)
      exact h0 _ H' sa r o2 o3 o4 v1 v2 lf lo po pr (some (.ref a)) (some (.ref ps)) o13 x o15' o16' o17 F1 F2 L1 L2' own far t ((h6.sm sm).told (ht.sm sm)) (fun H'' p15 p16 s' => ⟨_, _, _, rfl, sm.trans s'⟩)
    · rintro σ H7 ⟨o14', o15', o16', rfl, s7⟩
      have h7 := h6.sm s7
      have t27 := t26.trans s7
      -- whole
      refine ⟨_, rfl, po, rfl, ⟨_, SqL.of h7.po⟩, fun D1 hD1 => ?_⟩
      refine lc_fun ext_same (bs := own) (walk_list' (K := K) (a := po) (xs := own.map V.int) (List.length_map ..)) (fun _ => true) (fun b => (b, b)) (fun H y (p : Int × Int) => IsPr H y p.1 (.int p.2)) (fun kt ⟨a, h1, h2, h3⟩ => ⟨a, h1, kt _ _ h2, h3⟩) hD1 (Same.refl _) (by omega) (fun H' s => SqL.of (s _ _ h7.po)) ?_ ?_
      · rintro ii y b H8 H9 NT NF hb s8 ⟨rfl, hy⟩ ht hf
        obtain ⟨z, hz, rfl⟩ := get_int hy
        obtain rfl : b = z := Option.some.inj (hb.symm.trans hz)
        exact ⟨rfl, _, rfl, _, rfl, by show 2 ≤ sizeLine; decide, fun t nt => ht rfl _ _ (same_upd nt) ⟨t, rfl, upd_same, "int", rfl⟩⟩
      · intro H8 ys s8 hD8 r8
        rw [filter_yes] at r8
        refine ⟨_, rfl, D1, ys, rfl, SqL.of hD8, fun qa o nq od => ?_⟩
        have t9 := same_upd (o := .frz o (.tup ys)) nq
        have hw : IsNm (upd H8 qa (.frz o (.tup ys))) (.ref qa) (own.map fun b => (b, b)) := ⟨qa, ys, rfl, ⟨o, upd_same, od⟩, Paired.mp (fun _ _ ⟨a, h1, h2, h3⟩ => ⟨a, h1, t9 _ _ h2, h3⟩) r8⟩
        have h9 := h7.sm (s8.trans t9)
        have s29 := t27.trans (s8.trans t9)
        generalize upd H8 qa (.frz o (.tup ys)) = H9 at hw h9 s29 ⊢
        have hst : ∀ s ∈ F1, img (own.map fun b => (b, b)) s = s := fun s hs => img_id (h.o1.ok s hs).up fun v hv => app_self ((h.up.2 v).mpr (h.o1.vx hs hv))
        have hm : mapM F1 (mx F1) F1 own (.tup (esOf (own.map fun b => (b, b)))) = true := by
          simp only [mapM, Bool.and_eq_true, decide_eq_true_eq]
          refine ⟨by unfold esOf; rw [List.length_map, List.length_map], ?_, ?_, ?_, ?_⟩
          · rw [List.all_eq_true]
            intro e he
            obtain ⟨p, _, rfl⟩ := List.mem_map.mp he
            rfl
          · unfold allIn
            rw [List.all_eq_true]
            intro e he
            obtain ⟨p, hp, rfl⟩ := List.mem_map.mp he
            obtain ⟨b, hb, rfl⟩ := List.mem_map.mp hp
            have : hasV F1 (.int b) = true := decide_eq_true ((h.up.2 b).mp hb)
            show (hasV F1 (.int b) && hasV F1 (.int b)) = true
            rw [this]
            rfl
          · unfold esOf
            rw [List.map_map, List.map_map]
            exact List.map_id' _
          · rw [List.all_eq_true]
            intro g hg
            rw [esOf_ps, hst g (mem_mx.mp hg).1]
            exact decide_eq_true (mem_mx.mp hg).1
        refine ⟨_, rfl, _, rfl, v1, .ref qa, _, F1, mx F1, own, rfl, ⟨h9.x1, h9.x1, h9.o1, h9.o1, h9.up, by omega, (hw.to (by rw [List.length_map]; omega)).to⟩, hm, fun H10 p10 ys10 es10 s10 he e10 r10 => ?_⟩
        cases he
        rw [esOf_ps] at r10
        have ef : (F1.filter fun s => decide (img (own.map fun b => (b, b)) s = s)) = F1 := List.filter_eq_self.mpr fun s hs => decide_eq_true (hst s hs)
        rw [ef, ← h.e1] at r10
        obtain ⟨lf', ys1, elf, el1, rs1⟩ := (h9.sm s10).l1
        cases elf
        refine ⟨_, rfl, _, _, rfl, ⟨p10, lf, ys10, ys1, rfl, rfl, .inl ⟨e10, el1⟩, by rw [Paired.len r10]; have := h.n1; omega, alk_Ss r10 rs1 fun s hs => ?_⟩, fun H11 s11 => ⟨true, rfl, iteF (q _ _ _ _ _ (s29.trans (s10.trans s11)))⟩⟩
        have := (h.o1.ok s ((h.m1 s).mp hs)).len
        omega
end
end B72
set_option Elab.async false
set_option linter.all false
set_option maxRecDepth 100000
set_option maxHeartbeats 4000000
/-! The law's outer turn, from its start; the law. -/
namespace B72
open PySem PySem.Spec PyProof.Rows L2 R72 Mk72
section
variable {P : Program} {w : World} {K : PySem.W.Frag} {mg : Str → Option Value} {base : Heap}
variable {sa : Addr} {ns : List Int} {r : Addr} {H H' : Hp}
theorem Row.lst {H : Hp} (h : Row K sa ns r H) : ∃ i n z : Int, H r = some (.lst [.ref sa, .int i, .int n, .int z]) := let ⟨_, _, i, n, z, e, _⟩ := h; ⟨i, n, z, e⟩
theorem RowUp.kt (h : RowUp K sa ns r H H') : KeepT H H' := (ext_row (K := K) (sa := sa) (ns := ns) (r := r)).kt h
theorem RowUp.no (h : RowUp K sa ns r H H') {b : Addr} {o : HO} (e : H b = some o) (hn : ∀ xs, o ≠ .lst xs) : H' b = some o := by
  obtain ⟨i, n, z, er⟩ := h.2.1.lst
  refine h.1 b o (fun hb => ?_) e
  rw [hb, er] at e
  exact hn _ (Option.some.inj e).symm
theorem IsCx.up {C : Addr} {v : V} {F G : List Sx} (h : RowUp K sa ns r H H') (x : IsCx C H v F G) : IsCx C H' v F G := by
  obtain ⟨a, dx, d, t, e, h1, h2, h3⟩ := x
  exact ⟨a, dx, d, t, e, h.no h1 (by intro _ z; cases z), h.no h2 (by intro _ z; cases z), h3.kt h.kt⟩
theorem LstSs.up {l : Addr} {ss : List Sx} (h : RowUp K sa ns r H H') (x : LstSs H (.ref l) ss) : LstSs H' (.ref l) ss := by
  obtain ⟨l', xs, e, h1, h2⟩ := x
  cases e
  exact ⟨l, xs, rfl, h.1 _ _ (row_neS h.2.1 h1 h2) h1, IsSs.kt h.kt h2⟩
theorem fz_up {a : Addr} {xs : List V} (h : RowUp K sa ns r H H') (x : FzT H a xs) : FzT H' a xs := by
  obtain ⟨o, e, d⟩ := x
  exact ⟨o, h.no e (by intro _ z; cases z), d⟩
theorem IsNm.up {v : V} {ps : List (Int × Int)} (h : RowUp K sa ns r H H') (x : IsNm H v ps) : IsNm H' v ps := by
  obtain ⟨a, xs, e, fz, p⟩ := x
  exact ⟨a, xs, e, fz_up h fz, Paired.mp (fun _ _ ⟨p, h1, h2, h3⟩ => ⟨p, h1, h.kt _ _ h2, h3⟩) p⟩
theorem IsEnD.up (h : RowUp K sa ns r H H') {v : V} : ∀ {e : En}, IsEnD H v e → IsEnD H' v e
  | .pair _ _, ⟨p, h1, h2, h3⟩ => ⟨p, h1, h.kt _ _ h2, h3⟩
  | .bad, x => by
    rcases (show IsBad H v from x) with hh | ⟨p, a, b, h1, h2⟩ | ⟨p, a, h1, h2⟩
    · exact .inl hh
    · exact .inr (.inl ⟨p, a, b, h1, h.1 _ _ (row_ne (xs := [a, b]) h.2.1 h2) h2⟩)
    · exact .inr (.inr ⟨p, a, h1, h.kt _ _ h2⟩)
theorem IsEnD.upd' {H : Hp} {l : Addr} {zs : List V} {o : HO} (hl : H l = some (.lst zs)) (hz : ∀ z ∈ zs, ∃ p, z = .ref p) {v : V} : ∀ {e : En}, IsEnD H v e → IsEnD (upd H l o) v e
  | .pair _ _, ⟨p, h1, h2, h3⟩ => ⟨p, h1, by rw [upd_ne (ne_of h2 hl (by intro z; cases z))]; exact h2, h3⟩
  | .bad, x => by
    rcases (show IsBad H v from x) with hh | ⟨p, a, b, h1, h2⟩ | ⟨p, a, h1, h2⟩
    · exact .inl hh
    · refine .inr (.inl ⟨p, a, b, h1, ?_⟩)
      rw [upd_ne]
      · exact h2
      · intro hp
        rw [hp, hl] at h2
        injection h2 with h2
        injection h2 with h2
        obtain ⟨q, hq⟩ := hz (.int a) (by rw [h2]; exact List.mem_cons_self)
        cases hq
    · exact .inr (.inr ⟨p, a, h1, by rw [upd_ne (ne_of h2 hl (by intro z; cases z))]; exact h2⟩)
theorem TurnF.rup {C : Addr} {v1 v2 : V} {lf lo po pr : Addr} {F1 F2 L1 L2' : List Sx} {own far : List Int} (u : RowUp K sa ns r H H') (h : TurnF C H v1 v2 lf lo po pr F1 F2 L1 L2' own far) : TurnF C H' v1 v2 lf lo po pr F1 F2 L1 L2' own far :=
  ⟨h.x1.up u, h.x2.up u, h.o1, h.o2, h.up, h.uf, h.ol, h.fl, h.l1.up u, h.l2.up u, h.m1, h.m2, h.e1, h.n1, h.n2, u.1 _ _ (row_ne u.2.1 h.po) h.po, u.1 _ _ (row_ne u.2.1 h.pr) h.pr⟩
theorem step_en {H : Hp} {xs : List V} {p : Addr} {o : HO} {e : En} (h : ∀ x ∈ xs, ∃ e, IsEnD H x e) (n : H p = none) (he : IsEnD (upd H p o) (.ref p) e) : ∀ x ∈ xs ++ [.ref p], ∃ e, IsEnD (upd H p o) x e := by
  intro x hx
  rcases List.mem_append.mp hx with hx | hx
  · obtain ⟨e, h1⟩ := h x hx
    exact ⟨e, h1.sm (same_upd n)⟩
  · rw [List.mem_singleton.mp hx]
    exact ⟨e, he⟩
end
section
variable {P : Program} {w : World} {K : PySem.W.Frag} {mg : Str → Option Value} {base : Heap}
variable {C f : Addr} {cdv : Value} {A : Around} {outer : List Env} {s : Shared} {H0 : Hp} {E : XK} {k : Nat}
theorem turn5 (T : Fx mg) (L : CalL P w K mg base C) (hr : Room k (A.deeper (envOfC "law" (defScope sLaw) s.heap.objs.size f cdv))) (hk : 8 ≤ k) :
    ∃ t, PSs (cxOf CX0 P w K mg base nLaw "law" (defScope sLaw) f cdv A outer s H0 E).nox (turnB.drop 5) t ∧
      ∀ (D : Ends) (H : Hp) (sa r : Addr) (ns : List Int) (o2 o3 o4 : Option V) (v1 v2 : V) (lf lo po pr : Addr) (names : V) (o12 o13 o14 o15 o16 o17 : Option V) (F1 F2 L1 L2' : List Sx) (own far : List Int) (nps : List (Int × Int)),
        TurnF C H v1 v2 lf lo po pr F1 F2 L1 L2' own far → IsNm H names nps → nps.map (·.1) = own → Row K sa ns r H →
        (∀ H' o12' o13' o14' o15' o16' o17', RowUp K sa ns r H H' → D.nx [some (.ref sa), some (.ref r), o2, o3, o4, some v1, some v2, some (.ref lf), some (.ref lo), some (.ref po), some (.ref pr), some names, o12', o13', o14', o15', o16', o17', none, none, none] H') →
        t D [some (.ref sa), some (.ref r), o2, o3, o4, some v1, some v2, some (.ref lf), some (.ref lo), some (.ref po), some (.ref pr), some names, o12, o13, o14, o15, o16, o17, none, none, none] H := by
  obtain ⟨t7, p7, h7⟩ := turn7 (P := P) (w := w) (K := K) (base := base) (C := C) (f := f) (outer := outer) (H0 := H0) (E := E) T L hr hk
  apply Exists.intro
  apply And.intro
  · apply pss_cons
    · exact ps_set (i := 12) scLaw.nd rfl (.inl rfl) (pe_callTy call_list_of (by rfl) T.zList (by decide +kernel) (pa_cons (pv 11) pa_nil))
    apply pss_cons
    · exact ps_if (pt_cmpR (op_neD hr.units) (pv 9) (pe_lst pa_nil) (nomark _))
        (pss_cons (ps_set (i := 13) scLaw.nd rfl (.inl rfl) (C8.pe_c L.taken hr (by omega) (by rfl) (pa_cons (pv 1) (pa_cons (pe_callB call_len_seq (by rfl) T.zLen PySem.boot_len (pa_cons (pv 9) pa_nil)) pa_nil))))
        (pss_one (ps_asg (C8.pe_c L.pick hr (by omega) (by rfl) (pa_cons (pv 1) (pa_cons (pe_lst
            (pa_cons (pe_tup (pa_cons (pe_ix ix_list (pv 9) (pv 13) (fun _ _ => rfl)) (pa_cons (C8.pe_c L.taken hr (by omega) (by rfl) (pa_cons (pv 1) (pa_cons pe_int pa_nil))) pa_nil)))
            (pa_cons (pe_tup (pa_cons (pe_ix ix_list (pv 9) (pv 13) (fun _ _ => rfl)) (pa_cons pe_int pa_nil)))
            (pa_cons (pe_tup (pa_cons pe_int (pa_cons pe_int pa_nil)))
            (pa_cons pe_non
            (pa_cons (pe_lst (pa_cons (pe_ix ix_list (pv 9) (pv 13) (fun _ _ => rfl)) (pa_cons pe_int pa_nil)))
            (pa_cons (pe_tup (pa_cons (pe_ix ix_list (pv 9) (pv 13) (fun _ _ => rfl)) pa_nil))
            (pa_cons (pe_tup (pa_cons (pe_ix ix_list (pv 9) (pv 13) (fun _ _ => rfl)) (pa_cons pe_non pa_nil)))
            (pa_cons (pe_tup (pa_cons (pe_ix ix_list (pv 9) (pv 13) (fun _ _ => rfl)) (pa_cons pe_bl pa_nil))) pa_nil))))))))) pa_nil)))
          (pg_sub (pv 12) (pv 13) set_list)))) pss_nil
    exact p7
  · intro D H sa r ns o2 o3 o4 v1 v2 lf lo po pr names o12 o13 o14 o15 o16 o17 F1 F2 L1 L2' own far nps h hn hnp hrow q
    have hnl : nps.length = own.length := by rw [← hnp, List.length_map]
    have hol := h.ol
    obtain ⟨a, xs, rfl, hfz, hpr⟩ := id hn
    have xlen := Paired.len hpr
    refine ⟨_, rfl, a, xs, rfl, .inr hfz.sq, fun l nl => ?_⟩
    have t1 := same_upd (o := .lst xs) nl
    have u1 := RowUp.of hrow t1
    have h1 := h.sm t1
    have hn1 := hn.sm t1
    have e1 : (upd H l (.lst xs)) l = some (.lst xs) := upd_same
    have hpr1 : Paired (IsEnD (upd H l (.lst xs))) xs (esOf nps) := Paired.mp (fun _ _ z => z.sm t1) (esOf_pr hpr)
    have nlr : l ≠ r := hrow.rn nl
    have hel : (esOf nps).length = own.length := by unfold esOf; rw [List.length_map, hnl]
    have hrefs : ∀ z ∈ xs, ∃ p, z = V.ref p := fun z hz => by
      obtain ⟨i, hi⟩ := List.getElem?_of_mem hz
      obtain ⟨p, _, pp, e, _⟩ := Paired.at hpr hi
      exact ⟨pp, e⟩
    generalize upd H l (.lst xs) = H1 at t1 u1 h1 hn1 e1 hpr1 ⊢
    refine ⟨_, rfl, by show 0 ≤ sizeLine; decide, fun p2 n2 => ?_⟩
    have t2 := same_upd (o := .lst []) n2
    have u2 := u1.same t2
    have h2 := h1.sm t2
    have hn2 := hn1.sm t2
    have e2 := t2 _ _ e1
    have hpr2 : Paired (IsEnD (upd H1 p2 (.lst []))) xs (esOf nps) := Paired.mp (fun _ _ z => z.sm t2) hpr1
    refine ne_ints (xs := own) (ys := []) h2.po upd_same ⟨_, rfl, ?_⟩
    generalize upd H1 p2 (.lst []) = H2 at t2 u2 h2 hn2 e2 hpr2 ⊢
    refine ite2 (fun hc => ?_) (fun hc => ?_)
    · have hne : own ≠ [] := fun z => by
        rw [z] at hc
        simp at hc
      have hop : 0 < own.length := List.length_pos_iff.mpr hne
      refine ⟨_, rfl, _, rfl, po, _, rfl, .inl (SqL.of h2.po), sa, ns, r, _, rfl, u2.2.2, by rw [List.length_map]; omega, by rw [List.length_map]; omega, fun H3 at_ u3 ha0 ha1 => ?_⟩
      rw [List.length_map] at ha1
      have h3 := h2.rup u3
      have hal : at_.toNat < own.length := by omega
      obtain ⟨z, hz⟩ : ∃ z, atI (own.map V.int) at_ = some (.int z) := by
        refine ⟨own[at_.toNat], ?_⟩
        unfold atI ixN
        rw [if_pos ha0, if_pos (by rw [List.length_map]; omega)]
        show (own.map V.int)[at_.toNat]? = _
        rw [List.getElem?_map, List.getElem?_eq_getElem hal]
        rfl
      -- the eight
      refine ⟨_, rfl, _, rfl, _, rfl, po, _, at_, .int z, rfl, rfl, SqL.of h3.po, hz, ?_⟩
      refine ⟨_, rfl, sa, ns, r, 7, rfl, u3.2.2, by decide, by decide, fun H4 tk u4 hk0 hk1 => ?_⟩
      have h4 := h3.rup u4
      have u24 := u3.trans u4
      refine ⟨by show 2 ≤ sizeLine; decide, fun q1 m1 => ?_⟩
      have acc1 := step_en (xs := []) (p := q1) (o := .tup [.int z, .int tk]) (e := .pair z (.int tk)) (by simp) m1 ⟨q1, rfl, upd_same, "int", rfl⟩
      have s1 := same_upd (o := .tup [.int z, .int tk]) m1
      have g1 := s1 _ _ h4.po
      generalize upd H4 q1 (.tup [.int z, .int tk]) = J1 at acc1 s1 g1 ⊢
      refine ⟨_, rfl, _, rfl, po, _, at_, .int z, rfl, rfl, SqL.of g1, hz, by show 2 ≤ sizeLine; decide, fun q2 m2 => ?_⟩
      have acc2 := step_en (p := q2) (o := .tup [.int z, .int 9]) (e := .pair z (.int 9)) acc1 m2 ⟨q2, rfl, upd_same, "int", rfl⟩
      have s2 := same_upd (o := .tup [.int z, .int 9]) m2
      have g2 := s2 _ _ g1
      generalize upd J1 q2 (.tup [.int z, .int 9]) = J2 at acc2 s2 g2 ⊢
      refine ⟨by show 2 ≤ sizeLine; decide, fun q3 m3 => ?_⟩
      have acc3 := step_en (p := q3) (o := .tup [.int 9, .int 0]) (e := .pair 9 (.int 0)) acc2 m3 ⟨q3, rfl, upd_same, "int", rfl⟩
      have s3 := same_upd (o := .tup [.int 9, .int 0]) m3
      have g3 := s3 _ _ g2
      generalize upd J2 q3 (.tup [.int 9, .int 0]) = J3 at acc3 s3 g3 ⊢
      refine ⟨_, rfl, _, rfl, po, _, at_, .int z, rfl, rfl, SqL.of g3, hz, by show 2 ≤ sizeLine; decide, fun q5 m5 => ?_⟩
      have acc5 := step_en (p := q5) (o := .lst [.int z, .int 0]) (e := .bad) acc3 m5 (.inr (.inl ⟨q5, z, 0, rfl, upd_same⟩))
      have s5 := same_upd (o := .lst [.int z, .int 0]) m5
      have g5 := s5 _ _ g3
      generalize upd J3 q5 (.lst [.int z, .int 0]) = J5 at acc5 s5 g5 ⊢
      refine ⟨_, rfl, _, rfl, po, _, at_, .int z, rfl, rfl, SqL.of g5, hz, by show 1 ≤ sizeLine; decide, fun q6 m6 => ?_⟩
      have acc6 := step_en (p := q6) (o := .tup [.int z]) (e := .bad) acc5 m6 (.inr (.inr ⟨q6, z, rfl, upd_same⟩))
      have s6 := same_upd (o := .tup [.int z]) m6
      have g6 := s6 _ _ g5
      generalize upd J5 q6 (.tup [.int z]) = J6 at acc6 s6 g6 ⊢
      refine ⟨_, rfl, _, rfl, po, _, at_, .int z, rfl, rfl, SqL.of g6, hz, by show 2 ≤ sizeLine; decide, fun q7 m7 => ?_⟩
      have acc7 := step_en (p := q7) (o := .tup [.int z, .non]) (e := .pair z .non) acc6 m7 ⟨q7, rfl, upd_same, "NoneType", rfl⟩
      have s7 := same_upd (o := .tup [.int z, .non]) m7
      have g7 := s7 _ _ g6
      generalize upd J6 q7 (.tup [.int z, .non]) = J7 at acc7 s7 g7 ⊢
      refine ⟨_, rfl, _, rfl, po, _, at_, .int z, rfl, rfl, SqL.of g7, hz, by show 2 ≤ sizeLine; decide, fun q8 m8 => ?_⟩
      have acc8 := step_en (p := q8) (o := .tup [.int z, .bl true]) (e := .pair z (.bl true)) acc7 m8 ⟨q8, rfl, upd_same, "bool", rfl⟩
      have s8 := same_upd (o := .tup [.int z, .bl true]) m8
      generalize upd J7 q8 (.tup [.int z, .bl true]) = J8 at acc8 s8 ⊢
      refine ⟨by show 8 ≤ sizeLine; decide, fun q9 m9 => ?_⟩
      have s9 := same_upd (o := .lst [.ref q1, .ref q2, .ref q3, .non, .ref q5, .ref q6, .ref q7, .ref q8]) m9
      have s49 := s1.trans (s2.trans (s3.trans (s5.trans (s6.trans (s7.trans (s8.trans s9))))))
      have u49 := u24.same s49
      have acc : ∀ x ∈ [V.ref q1, .ref q2, .ref q3, .non, .ref q5, .ref q6, .ref q7, .ref q8], ∃ e, IsEnD (upd J8 q9 (.lst [.ref q1, .ref q2, .ref q3, .non, .ref q5, .ref q6, .ref q7, .ref q8])) x e := by
        intro x hx
        by_cases hnon : x = .non
        · exact ⟨.bad, .inl hnon⟩
        · obtain ⟨e, he⟩ := acc8 x (by
            simp only [List.nil_append, List.cons_append, List.mem_cons, List.not_mem_nil, or_false] at hx ⊢
            rcases hx with h | h | h | h | h | h | h | h
            all_goals first | exact absurd h hnon | simp [h])
          exact ⟨e, he.sm s9⟩
      have e9 : (upd J8 q9 (.lst [.ref q1, .ref q2, .ref q3, .non, .ref q5, .ref q6, .ref q7, .ref q8])) q9 = some (.lst [.ref q1, .ref q2, .ref q3, .non, .ref q5, .ref q6, .ref q7, .ref q8]) := upd_same
      have nq9 : q9 ≠ r := (u24.same (s1.trans (s2.trans (s3.trans (s5.trans (s6.trans (s7.trans s8))))))).2.2.rn m9
      generalize upd J8 q9 (.lst [.ref q1, .ref q2, .ref q3, .non, .ref q5, .ref q6, .ref q7, .ref q8]) = J9 at s9 s49 u49 acc e9 ⊢
      refine ⟨sa, ns, r, q9, _, rfl, u49.2.2, nq9, e9, by show 0 < 8; decide, by show 8 ≤ 1000; decide, fun H5 j v u5 hv => ?_⟩
      obtain ⟨e, he⟩ := acc v (List.mem_of_getElem? hv)
      have u25 := u49.trans u5
      have e5 := u25.1 _ _ nlr e2
      have hix : ixN xs.length at_ = some at_.toNat := by
        unfold ixN
        rw [if_pos ha0, if_pos (by rw [xlen, hnl]; omega)]
      refine ⟨_, rfl, _, rfl, l, xs, at_, at_.toNat, rfl, rfl, e5, hix, ?_⟩
      have hpr5 : Paired (IsEnD H5) xs (esOf nps) := Paired.mp (fun _ _ z => z.up u25) hpr2
      have uF : RowUp K sa ns r H (upd H5 l (.lst (xs.set at_.toNat v))) := ext_row.md _ (u2.trans u25) nl
      refine h7 D _ (.ref sa) (.ref r) o2 o3 o4 v1 v2 lf lo po pr (.ref a) l (some (.int at_)) o14 o15 o16 o17 F1 F2 L1 L2' own far nps (xs.set at_.toNat v) ((esOf nps).set at_.toNat e) (h.rup uF) (hn.up uF) hnp upd_same ?_ (by rw [List.length_set]; exact hel) (fun H' o14' o15' o16' o17' s' => q H' _ _ _ _ _ _ (uF.same s'))
      exact Paired.set ((he.up u5).upd' e5 hrefs) _ (Paired.mp (fun _ _ z => z.upd' e5 hrefs) hpr5)
    · exact h7 D H2 (.ref sa) (.ref r) o2 o3 o4 v1 v2 lf lo po pr (.ref a) l o13 o14 o15 o16 o17 F1 F2 L1 L2' own far nps xs (esOf nps) h2 hn2 hnp e2 hpr2 hel (fun H' o14' o15' o16' o17' s' => q H' _ _ _ _ _ _ (u2.same s'))
end
end B72
set_option Elab.async false
set_option linter.all false
set_option maxRecDepth 100000
set_option maxHeartbeats 4000000
/-! The law's outer turn, whole; the law. -/
namespace B72
open PySem PySem.Spec PyProof.Rows L2 R72 Mk72
section
variable {P : Program} {w : World} {K : PySem.W.Frag} {mg : Str → Option Value} {base : Heap}
variable {C f : Addr} {cdv : Value} {A : Around} {outer : List Env} {s : Shared} {H0 : Hp} {E : XK} {k : Nat}
theorem turn4 (T : Fx mg) (L : CalL P w K mg base C) (hr : Room k (A.deeper (envOfC "law" (defScope sLaw) s.heap.objs.size f cdv))) (hk : 8 ≤ k) :
    ∃ t, PSs (cxOf CX0 P w K mg base nLaw "law" (defScope sLaw) f cdv A outer s H0 E).nox (turnB.drop 4) t ∧
      ∀ (D : Ends) (H : Hp) (sa r : Addr) (ns : List Int) (o2 o3 o4 : Option V) (v1 v2 : V) (lf lo po pr : Addr) (names : V) (o12 o13 o14 o15 o16 o17 : Option V) (F1 F2 L1 L2' : List Sx) (own far : List Int),
        TurnF C H v1 v2 lf lo po pr F1 F2 L1 L2' own far → (names = .non ∨ ∃ ps, IsNm H names ps ∧ ps.map (·.1) = own) → Row K sa ns r H →
        (∀ H' o11' o12' o13' o14' o15' o16' o17', RowUp K sa ns r H H' → D.nx [some (.ref sa), some (.ref r), o2, o3, o4, some v1, some v2, some (.ref lf), some (.ref lo), some (.ref po), some (.ref pr), o11', o12', o13', o14', o15', o16', o17', none, none, none] H') →
        t D [some (.ref sa), some (.ref r), o2, o3, o4, some v1, some v2, some (.ref lf), some (.ref lo), some (.ref po), some (.ref pr), some names, o12, o13, o14, o15, o16, o17, none, none, none] H := by
  obtain ⟨t5, p5, h5⟩ := turn5 (P := P) (w := w) (K := K) (base := base) (C := C) (f := f) (outer := outer) (H0 := H0) (E := E) T L hr hk
  apply Exists.intro
  apply And.intro
  · apply pss_cons
    · exact ps_if (pt_cmpR op_isN (pv 11) pe_non (nomark _))
        (pss_one (ps_set (i := 11) scLaw.nd rfl (.inl rfl) (pe_callTy cr_tupF (by rfl) T.zTuple (by decide +kernel) (pa_cons
          (pe_lc (own := [("_law_vertex", 18)]) (g := gName 18) (tt := tYes) (te := tTup (tCons (tVar 18) (tCons (tCall (spTaken K) [] C8.E0 (tCons (tVar 1) (tCons (tC (.int 7)) tNil))) tNil))) rfl scLaw.nd (pi_list (pv 9))
            (blkOk_by (own := [("_law_vertex", 18)]) (N := nLaw) (sc := defScope sLaw) (by decide +kernel))
            (fun _ _ _ _ _ => pg_name (i := 18) scLaw.nd rfl (.inl rfl)) (fun _ _ _ _ _ => pts_nil)
            (fun _ _ _ _ _ => pe_tup (pa_cons (pv 18) (pa_cons (C8.pe_c L.taken hr (by omega) (by rfl) (pa_cons (pv 1) (pa_cons pe_int pa_nil))) pa_nil)))) pa_nil)))) pss_nil
    exact p5
  · intro D H sa r ns o2 o3 o4 v1 v2 lf lo po pr names o12 o13 o14 o15 o16 o17 F1 F2 L1 L2' own far h hn hrow q
    refine ⟨_, rfl, rfl, _, rfl, ?_⟩
    rcases hn with rfl | ⟨ps, hnm, hps⟩
    · rw [show decide (V.non = V.non) = true from decide_eq_true rfl]
      refine iteT ?_
      have hol := h.ol
      have nor : po ≠ r := row_ne hrow h.po
      refine ⟨_, rfl, po, rfl, ⟨_, SqL.of h.po⟩, fun D1 hD1 => ?_⟩
      refine lc_all (ext_row (K := K) (sa := sa) (ns := ns) (r := r)) (bs := own) (walk_list' (K := K) (a := po) (xs := own.map V.int) (List.length_map ..)) (fun _ => true) (fun b (p : Int × Int) => p.1 = b) (fun H y (p : Int × Int) => IsPr H y p.1 (.int p.2))
        (fun kt ⟨a, h1, h2, h3⟩ => ⟨a, h1, kt _ _ h2, h3⟩) hD1 (RowUp.refl hrow) (by omega) (fun H' s => SqL.of (s.1 _ _ nor h.po)) ?_ ?_
      · rintro ii y b H8 H9 NT NF hb s8 ⟨rfl, hy⟩ ht hf
        obtain ⟨z, hz, rfl⟩ := get_int hy
        obtain rfl : b = z := Option.some.inj (hb.symm.trans hz)
        exact ⟨rfl, _, rfl, _, rfl, sa, ns, r, 7, rfl, s8.2.2, by decide, by decide, fun H5 x u5 hx0 hx1 => ⟨by show 2 ≤ sizeLine; decide, fun t nt => ht rfl _ (b, x) _ (u5.same (same_upd nt)) rfl ⟨t, rfl, upd_same, "int", rfl⟩⟩⟩
      · intro H5 ys cs u5 hD5 r1 r2
        rw [filter_yes] at r1
        have ecs : cs.map (·.1) = own := by
          clear r2 hD5
          have go : ∀ {bs : List Int} {cs : List (Int × Int)}, Paired (fun b (p : Int × Int) => p.1 = b) bs cs → cs.map (·.1) = bs := by
            intro bs cs hh
            induction hh with
            | nil => rfl
            | cons h t ih => rw [List.map_cons, h, ih]
          exact go r1
        refine ⟨_, rfl, D1, ys, rfl, SqL.of hD5, fun qa o nq od => ?_⟩
        have t9 := same_upd (o := .frz o (.tup ys)) nq
        have hw : IsNm (upd H5 qa (.frz o (.tup ys))) (.ref qa) cs := ⟨qa, ys, rfl, ⟨o, upd_same, od⟩, Paired.mp (fun _ _ ⟨a, h1, h2, h3⟩ => ⟨a, h1, t9 _ _ h2, h3⟩) r2⟩
        have u9 := u5.same t9
        exact h5 D _ sa r ns o2 o3 o4 v1 v2 lf lo po pr _ o12 o13 o14 o15 o16 o17 F1 F2 L1 L2' own far cs (h.rup u9) hw ecs u9.2.2 (fun H' p12 p13 p14 p15 p16 p17 u => q H' _ _ _ _ _ _ _ (u9.trans u))
    · have hnn : names ≠ .non := by
        obtain ⟨a, _, e, _⟩ := hnm
        rw [e]
        intro z
        cases z
      rw [decide_eq_false hnn]
      refine iteF ?_
      exact h5 D H sa r ns o2 o3 o4 v1 v2 lf lo po pr names o12 o13 o14 o15 o16 o17 F1 F2 L1 L2' own far ps h hnm hps hrow (fun H' p12 p13 p14 p15 p16 p17 u => q H' _ _ _ _ _ _ _ u)
theorem tup_up {sa : Addr} {ns : List Int} {r : Addr} {H H' : Hp} (u : RowUp K sa ns r H H') {v : V} {ss : List Sx} (h : TupSs H v ss) : TupSs H' v ss := h.kt u.kt
theorem cxOk_of {ss : List Sx} (ok : ∀ s ∈ ss, Ok s) : CxOk (genP ss) (mx (genP ss)) :=
  ⟨genP_closed ss, Ok.genP ok, fun s hs => (mem_mx.mp hs).1, Nat.le_trans (mx_len _) (Nat.le_trans (genP_many ok) (by decide))⟩
theorem up_of {ss : List Sx} (nd : (genL ss).Nodup) : UpMem (vertsOf (genL ss)) (genP ss) :=
  ⟨(up_verts nd).1, fun v => ((up_verts nd).2 v).trans (genPL_perm ss).mem_iff.symm⟩
theorem verts_len {ss : List Sx} (ok : ∀ s ∈ ss, Ok s) : (vertsOf (genL ss)).length ≤ 90 := by
  have h1 : (vertsOf (genL ss)).Nodup := up_nodup (up_verts (genL_nd ss)).1
  have h2 := nodup_le _ seven h1 fun v hv => by
    have h3 := ((up_verts (genL_nd ss)).2 v).mp hv
    have h4 := (Ok.genL ok _ h3).bd v (List.mem_singleton.mpr rfl)
    have : v = 0 ∨ v = 1 ∨ v = 2 ∨ v = 3 ∨ v = 4 ∨ v = 5 ∨ v = 6 := by omega
    rcases this with rfl | rfl | rfl | rfl | rfl | rfl | rfl <;> simp [seven]
  exact Nat.le_trans h2 (by decide)
theorem turn0 (T : Fx mg) (TC : Cx72 K mg C) (L : CalL P w K mg base C) (hr : Room k (A.deeper (envOfC "law" (defScope sLaw) s.heap.objs.size f cdv))) (hk : 8 ≤ k) :
    ∃ t, PSs (cxOf CX0 P w K mg base nLaw "law" (defScope sLaw) f cdv A outer s H0 E).nox turnB t ∧
      ∀ (D : Ends) (H : Hp) (sa r : Addr) (ns : List Int) (o2 o3 o4 o5 o6 o7 o8 o9 o10 o11 o12 o13 o14 o15 o16 o17 : Option V), Row K sa ns r H →
        (∀ H' o3' o4' o5' o6' o7' o8' o9' o10' o11' o12' o13' o14' o15' o16' o17', RowUp K sa ns r H H' → D.nx [some (.ref sa), some (.ref r), o2, o3', o4', o5', o6', o7', o8', o9', o10', o11', o12', o13', o14', o15', o16', o17', none, none, none] H') →
        t D [some (.ref sa), some (.ref r), o2, o3, o4, o5, o6, o7, o8, o9, o10, o11, o12, o13, o14, o15, o16, o17, none, none, none] H := by
  obtain ⟨t4, p4, h4⟩ := turn4 (P := P) (w := w) (K := K) (base := base) (C := C) (f := f) (outer := outer) (H0 := H0) (E := E) T L hr hk
  apply Exists.intro
  apply And.intro
  · apply pss_cons
    · exact ps_par (i := 3) (j := 4) (by rfl) scLaw.nd rfl rfl (by decide) rfl rfl (pa_cons (C8.pe_c L.wide hr (by omega) (by rfl) (pa_cons (pv 1) (pa_cons pe_int (pa_cons pe_int pa_nil)))) (pa_cons (C8.pe_c L.wide hr (by omega) (by rfl) (pa_cons (pv 1) (pa_cons pe_int (pa_cons pe_int pa_nil)))) pa_nil)) (by rfl)
    apply pss_cons
    · exact ps_asg (pe_tup (pa_cons (C8.pe_mk L.mkC hr (by omega) (by rfl) (pa_cons (pv 3) pa_nil)) (pa_cons (C8.pe_mk L.mkC hr (by omega) (by rfl) (pa_cons (pv 4) pa_nil))
          (pa_cons (C8.pe_c L.faces hr (by omega) (by rfl) (pa_cons (pv 3) pa_nil)) (pa_cons (C8.pe_c L.faces hr (by omega) (by rfl) (pa_cons (pv 4) pa_nil)) pa_nil)))))
        (pg_tup rfl (pgs_cons (pg_name (i := 5) scLaw.nd rfl (.inl rfl)) (pgs_cons (pg_name (i := 6) scLaw.nd rfl (.inl rfl)) (pgs_cons (pg_name (i := 7) scLaw.nd rfl (.inl rfl)) (pgs_cons (pg_name (i := 8) scLaw.nd rfl (.inr rfl)) pgs_nil)))))
    apply pss_cons
    · exact ps_asg (pe_tup (pa_cons (C8.pe_c L.verts hr (by omega) (by rfl) (pa_cons (pv 7) pa_nil)) (pa_cons (C8.pe_c L.verts hr (by omega) (by rfl) (pa_cons (pv 8) pa_nil)) pa_nil)))
        (pg_tup rfl (pgs_cons (pg_name (i := 9) scLaw.nd rfl (.inl rfl)) (pgs_cons (pg_name (i := 10) scLaw.nd rfl (.inr rfl)) pgs_nil)))
    apply pss_cons
    · exact ps_set (i := 11) scLaw.nd rfl (.inl rfl) (C8.pe_c L.lmap hr (by omega) (by rfl) (pa_cons (pv 1) (pa_cons (pv 7) (pa_cons (pv 8) pa_nil))))
    exact p4
  · intro D H sa r ns o2 o3 o4 o5 o6 o7 o8 o9 o10 o11 o12 o13 o14 o15 o16 o17 hrow q
    refine ⟨_, rfl, sa, ns, r, 6, 3, rfl, hrow, by decide, by decide, by decide, by decide, fun H1 w1 ss1 u1 hw1 ok1 l1 => ?_⟩
    refine ⟨_, rfl, sa, ns, r, 7, 4, rfl, u1.2.2, by decide, by decide, by decide, by decide, fun H2 w2 ss2 u2 hw2 ok2 l2 => ⟨_, _, rfl, ?_⟩⟩
    have u12 := u1.trans u2
    have hw1 := tup_up u2 hw1
    -- Complex(one), Complex(other)
    refine ⟨_, rfl, ?_⟩
    intro x1 d1 nx1 nd1 ne1
    refine ⟨x1, d1, w1, ss1, rfl, upd_same, hw1.kt fun b zs e => ?_, by omega, ok1, fun H3 k3 hc1 => ⟨rfl, ?_⟩⟩
    · rw [upd_ne (ne_of_none e nx1), upd_ne (ne_of_none e nd1)]
      exact e
    have s3 : Same H2 H3 := fun b o e => k3 b o (ne_of_none e nx1) (by rw [upd_ne (ne_of_none e nx1), upd_ne (ne_of_none e nd1)]; exact e)
    clear k3
    refine ⟨_, rfl, ?_⟩
    intro x2 d2 nx2 nd2 ne2
    refine ⟨x2, d2, w2, ss2, rfl, upd_same, (hw2.kt (Same.kt s3)).kt fun b zs e => ?_, by omega, ok2, fun H4 k4 hc2 => ⟨rfl, ?_⟩⟩
    · rw [upd_ne (ne_of_none e nx2), upd_ne (ne_of_none e nd2)]
      exact e
    have s4 : Same H3 H4 := fun b o e => k4 b o (ne_of_none e nx2) (by rw [upd_ne (ne_of_none e nx2), upd_ne (ne_of_none e nd2)]; exact e)
    clear k4
    refine ⟨_, rfl, _, ss1, rfl, .inl ((hw1.kt (Same.kt s3)).kt (Same.kt s4)), ok1, fun H5 lf ys1 s5 e5 r5 => ?_⟩
    refine ⟨_, rfl, _, ss2, rfl, .inl (((hw2.kt (Same.kt s3)).kt (Same.kt s4)).kt (Same.kt s5)), ok2, fun H6 lo ys2 s6 e6 r6 => ?_⟩
    refine ⟨by show 4 ≤ sizeLine; decide, fun pt npt => ?_⟩
    have t7 := same_upd (o := .tup [.ref x1, .ref x2, .ref lf, .ref lo]) npt
    refine ⟨pt, _, rfl, .inl (.inl upd_same), rfl, _, _, rfl, _, _, rfl, _, _, rfl, _, _, rfl, rfl, ?_⟩
    have c1 : IsCx C (upd H6 pt (.tup [.ref x1, .ref x2, .ref lf, .ref lo])) (.ref x1) (genP ss1) (mx (genP ss1)) := hc1.sm (s4.trans (s5.trans (s6.trans t7)))
    have c2 : IsCx C (upd H6 pt (.tup [.ref x1, .ref x2, .ref lf, .ref lo])) (.ref x2) (genP ss2) (mx (genP ss2)) := hc2.sm (s5.trans (s6.trans t7))
    have f1 : LstSs (upd H6 pt (.tup [.ref x1, .ref x2, .ref lf, .ref lo])) (.ref lf) (inOrd (genL ss1)) := LstSs.sm (s6.trans t7) ⟨lf, ys1, rfl, e5, r5⟩
    have f2 : LstSs (upd H6 pt (.tup [.ref x1, .ref x2, .ref lf, .ref lo])) (.ref lo) (inOrd (genL ss2)) := LstSs.sm t7 ⟨lo, ys2, rfl, e6, r6⟩
    have u7 : RowUp K sa ns r H (upd H6 pt (.tup [.ref x1, .ref x2, .ref lf, .ref lo])) := u12.same (s3.trans (s4.trans (s5.trans (s6.trans t7))))
    show tSeq _ _ _ _ (upd H6 pt (.tup [.ref x1, .ref x2, .ref lf, .ref lo]))
    generalize upd H6 pt (.tup [.ref x1, .ref x2, .ref lf, .ref lo]) = H7 at c1 c2 f1 f2 u7 ⊢
    have ln1 : (inOrd (genL ss1)).length ≤ 127 := by rw [(inOrd_perm _).length_eq]; exact genL_many ok1
    have ln2 : (inOrd (genL ss2)).length ≤ 127 := by rw [(inOrd_perm _).length_eq]; exact genL_many ok2
    -- own, far
    refine ⟨_, rfl, _, _, rfl, f1, by omega, fun H8 po s8 e8 => ?_⟩
    refine ⟨_, rfl, _, _, rfl, f2.sm s8, by omega, fun H9 pr s9 e9 => ?_⟩
    refine ⟨by show 2 ≤ sizeLine; decide, fun pt2 npt2 => ?_⟩
    have t10 := same_upd (o := .tup [.ref po, .ref pr]) npt2
    refine ⟨pt2, _, rfl, .inl (.inl upd_same), rfl, _, _, rfl, _, _, rfl, rfl, ?_⟩
    have s10 := s8.trans (s9.trans t10)
    have F : TurnF C (upd H9 pt2 (.tup [.ref po, .ref pr])) (.ref x1) (.ref x2) lf lo po pr (genP ss1) (genP ss2) (inOrd (genL ss1)) (inOrd (genL ss2)) (vertsOf (genL ss1)) (vertsOf (genL ss2)) :=
      ⟨c1.sm s10, c2.sm s10, cxOk_of ok1, cxOk_of ok2, up_of (genL_nd ss1), up_of (genL_nd ss2), verts_len ok1, verts_len ok2, f1.sm s10, f2.sm s10, fun s => mem_inOrd.trans (genPL_perm ss1).mem_iff.symm, fun s => mem_inOrd.trans (genPL_perm ss2).mem_iff.symm,
        (inOrd_eq (genPL_perm ss1)).symm, by omega, by omega, t10 _ _ (s9 _ _ e8), t10 _ _ e9⟩
    have u10 := u7.same s10
    show tSeq _ _ _ _ (upd H9 pt2 (.tup [.ref po, .ref pr]))
    generalize upd H9 pt2 (.tup [.ref po, .ref pr]) = H10 at F u10 ⊢
    -- the map
    refine ⟨_, rfl, _, rfl, _, rfl, sa, ns, r, _, _, inOrd (genL ss1), inOrd (genL ss2), rfl, u10.2.2, F.l1, F.l2, by omega, by omega, fun s hs => Ok.genL ok1 s (mem_inOrd.mp hs), fun s hs => Ok.genL ok2 s (mem_inOrd.mp hs), up_nodup (up_verts (genL_nd ss1)).1, fun H11 nm u11 hnm => ?_⟩
    have u := u10.trans u11
    exact h4 D H11 sa r ns o2 (some w1) (some w2) (.ref x1) (.ref x2) lf lo po pr nm o12 o13 o14 o15 o16 o17 _ _ _ _ _ _ (F.rup u11) hnm u11.2.2 (fun H' p11 p12 p13 p14 p15 p16 p17 u' => q H' _ _ _ _ _ _ _ _ _ _ _ _ _ _ _ (u.trans u'))
/-- law(script) -/
def spLaw (K : PySem.W.Frag) : Sp := fun vs H Q _ => ∃ (sa : Addr) (ns : List Int), vs = [.ref sa] ∧ SqL K H sa (ns.map V.int) ∧ ∀ H', Q (.bl true) H'
theorem ok_law {fd : FuncData} (hk : 8 ≤ k) (F : Fun K "law" "law" sLaw f fd) (T : Fx mg) (TC : Cx72 K mg C) (L : CalL P w K mg base C) : FnOk P w K mg base CX0 (k + 1) f fd ["_law_script"] (spLaw K) := by
  refine F.ok scLaw (fun vs H Q E h => ?_) (fun cdv A outer s H vs Q E hr h => ?_)
  · obtain ⟨_, _, rfl, _⟩ := h
    rfl
  · obtain ⟨sa, ns, rfl, hs, q⟩ := h
    obtain ⟨t0, p0, h0⟩ := turn0 (P := P) (w := w) (K := K) (base := base) (C := C) (f := f) (outer := outer) (H0 := H) (E := E) T TC L hr hk
    apply Exists.intro
    apply And.intro
    · apply pss_cons
      · exact ps_set (i := 1) scLaw.nd rfl (.inr rfl) (pe_lst (pa_cons (pv 0) (pa_cons pe_int (pa_cons pe_int (pa_cons pe_int pa_nil)))))
      apply pss_cons
      · exact ps_for PassesOwn.never rfl (pi_range1 (by rfl) T.zRange (pa_cons pe_int pa_nil)) (pg_name (i := 2) scLaw.nd rfl (.inl rfl)) p0
      apply pss_one
      exact ps_ret pe_bl
    refine ⟨_, rfl, by show 4 ≤ sizeLine; decide, fun r nr => ?_⟩
    have t1 := same_upd (o := .lst [.ref sa, .int 0, .int 3372, .int 0]) nr
    have hrow : Row K sa ns r (upd H r (.lst [.ref sa, .int 0, .int 3372, .int 0])) := by
      refine ⟨sql_to hs (fun u e => t1 _ _ e), ?_, 0, 3372, 0, upd_same, by decide, by decide, by decide⟩
      rcases hs with (hs | ⟨o, hs⟩) | hs
      · exact .inl fun z => by rw [z, nr] at hs; cases hs
      · exact .inl fun z => by rw [z, nr] at hs; cases hs
      · exact .inr fun H' => .inr hs
    refine ⟨2, rfl, by decide, by decide, ?_⟩
    refine for_range (lo := 0) (n := (2 : Int).toNat) (fun i σ H' => ∃ o2 o3 o4 o5 o6 o7 o8 o9 o10 o11 o12 o13 o14 o15 o16 o17, σ = [some (.ref sa), some (.ref r), o2, o3, o4, o5, o6, o7, o8, o9, o10, o11, o12, o13, o14, o15, o16, o17, none, none, none] ∧ Row K sa ns r H')
      ⟨none, none, none, none, none, none, none, none, none, none, none, none, none, none, none, none, rfl, hrow⟩ ?_ ?_
    · rintro i σ H' hi ⟨o2, o3, o4, o5, o6, o7, o8, o9, o10, o11, o12, o13, o14, o15, o16, o17, rfl, hrw⟩
      exact h0 _ H' sa r ns (some (.int (0 + (i : Int)))) o3 o4 o5 o6 o7 o8 o9 o10 o11 o12 o13 o14 o15 o16 o17 hrw (fun H'' p3 p4 p5 p6 p7 p8 p9 p10 p11 p12 p13 p14 p15 p16 p17 u => ⟨_, _, _, _, _, _, _, _, _, _, _, _, _, _, _, _, rfl, u.2.2⟩)
    · rintro σ H' ⟨o2, o3, o4, o5, o6, o7, o8, o9, o10, o11, o12, o13, o14, o15, o16, o17, rfl, hrw⟩
      exact q H'
end
end B72
set_option Elab.async false
set_option linter.all false
set_option maxRecDepth 100000
set_option maxHeartbeats 4000000
/-! All together: what the top has left, then the law's promise. -/
namespace B72
open PySem PySem.Spec PyProof.Rows L2 R72 Mk72
theorem all_mk {P : Program} {w : World} {K : PySem.W.Frag} {h : Heap} {mg : Str → Option Value} {fa C p1 fi fh fg f1 f2 f3 f4 f5 f6 f7 f8 f9 f10 f11 f12 f13 f14 f15 f16 f17 f18 f19 f20 f21 f22 f23 f24 f25 f26 f27 f0 : Addr} (X : K.In h) (G : h.Ns mainGlobals mg) (hfa : mg "law" = some (.ref fa))
    {odi ani odh anh odg ang od1 an1 od2 an2 od3 an3 od4 an4 od5 an5 od6 an6 od7 an7 od8 an8 od9 an9 od10 an10 od11 an11 od12 an12 od13 an13 od14 an14 od15 an15 od16 an16 od17 an17 od18 an18 od19 an19 od20 an20 od21 an21 od22 an22 od23 an23 od24 an24 od25 an25 od26 an26 od27 an27 od0 an0 : Option Addr} {sli slh slg sl1 sl2 sl3 sl4 sl5 sl6 sl7 sl8 sl9 sl10 sl11 sl12 sl13 sl14 sl15 sl16 sl17 sl18 sl19 sl20 sl21 sl22 sl23 sl24 sl25 sl26 sl27 sl0 : Array (Option Value)} {oci kVi dci pmi cdi cti och kVh dch pmh cdh cth ocg kVg dcg pmg cdg ctg oc1 kV1 dc1 pm1 cd1 ct1 oc2 kV2 dc2 pm2 cd2 ct2 oc3 kV3 dc3 pm3 cd3 ct3 oc4 kV4 dc4 pm4 cd4 ct4 oc5 kV5 dc5 pm5 cd5 ct5 oc6 kV6 dc6 pm6 cd6 ct6 oc7 kV7 dc7 pm7 cd7 ct7 oc8 kV8 dc8 pm8 cd8 ct8 oc9 kV9 dc9 pm9 cd9 ct9 oc10 kV10 dc10 pm10 cd10 ct10 oc11 kV11 dc11 pm11 cd11 ct11 oc12 kV12 dc12 pm12 cd12 ct12 oc13 kV13 dc13 pm13 cd13 ct13 oc14 kV14 dc14 pm14 cd14 ct14 oc15 kV15 dc15 pm15 cd15 ct15 oc16 kV16 dc16 pm16 cd16 ct16 oc17 kV17 dc17 pm17 cd17 ct17 oc18 kV18 dc18 pm18 cd18 ct18 oc19 kV19 dc19 pm19 cd19 ct19 oc20 kV20 dc20 pm20 cd20 ct20 oc21 kV21 dc21 pm21 cd21 ct21 oc22 kV22 dc22 pm22 cd22 ct22 oc23 kV23 dc23 pm23 cd23 ct23 oc24 kV24 dc24 pm24 cd24 ct24 oc25 kV25 dc25 pm25 cd25 ct25 oc26 kV26 dc26 pm26 cd26 ct26 oc27 kV27 dc27 pm27 cd27 ct27 oc0 kV0 dc0 pm0 cd0 ct0 : Value}
    (aC : PySem.W.nsIn K mainGlobals "Complex" = some (some (.ref C)))
    (ai : PySem.W.findIn K (.ref C) "__init__" = some (some (.ref fi)))
    (ii : PySem.W.isFn K (.ref fi) = true)
    (li : K.lookup fi = some ⟨oci, odi, .func (PySem.W.fnOf "__init__" "Complex.__init__" (defArgs sCInit) (defBody sCInit) (defScope sCInit) .none kVi dci pmi ani cdi cti), sli⟩)
    (ci : PySem.W.codeIn K cdi "Complex.__init__" = true)
    (ki : PySem.W.keepIn K (.ref fi) = true)
    (ah : PySem.W.findIn K (.ref C) "__contains__" = some (some (.ref fh)))
    (ih : PySem.W.isFn K (.ref fh) = true)
    (lh : K.lookup fh = some ⟨och, odh, .func (PySem.W.fnOf "__contains__" "Complex.__contains__" (defArgs sCHas) (defBody sCHas) (defScope sCHas) .none kVh dch pmh anh cdh cth), slh⟩)
    (ch : PySem.W.codeIn K cdh "Complex.__contains__" = true)
    (kh : PySem.W.keepIn K (.ref fh) = true)
    (ap : PySem.W.findIn K (.ref C) "facets" = some (some (.ref p1)))
    (gp : PySem.W.specialIn K (.ref p1) "__get__" = some (some (.builtin "property.__get__")))
    (tp : PySem.W.takesIn K (.ref p1) = some true)
    (rp : ∃ rest, PySem.W.recIn K p1 "property" = some (.ref fg :: rest))
    (lg : K.lookup fg = some ⟨ocg, odg, .func (PySem.W.fnOf "facets" "Complex.facets" (defArgs sCFac) (defBody sCFac) (defScope sCFac) .none kVg dcg pmg ang cdg ctg), slg⟩)
    (cg : PySem.W.codeIn K cdg "Complex.facets" = true)
    (kg : PySem.W.keepIn K (.ref fg) = true)
    (a1 : PySem.W.nsIn K mainGlobals "is_integer" = some (some (.ref f1)))
    (l1 : K.lookup f1 = some ⟨oc1, od1, .func (PySem.W.fnOf "is_integer" "is_integer" (defArgs sInteger) (defBody sInteger) (defScope sInteger) .none kV1 dc1 pm1 an1 cd1 ct1), sl1⟩)
    (c1 : PySem.W.codeIn K cd1 "is_integer" = true)
    (k1 : PySem.W.keepIn K (.ref f1) = true)
    (a2 : PySem.W.nsIn K mainGlobals "is_in" = some (some (.ref f2)))
    (l2 : K.lookup f2 = some ⟨oc2, od2, .func (PySem.W.fnOf "is_in" "is_in" (defArgs sIn) (defBody sIn) (defScope sIn) .none kV2 dc2 pm2 an2 cd2 ct2), sl2⟩)
    (c2 : PySem.W.codeIn K cd2 "is_in" = true)
    (k2 : PySem.W.keepIn K (.ref f2) = true)
    (a3 : PySem.W.nsIn K mainGlobals "is_list" = some (some (.ref f3)))
    (l3 : K.lookup f3 = some ⟨oc3, od3, .func (PySem.W.fnOf "is_list" "is_list" (defArgs sList) (defBody sList) (defScope sList) .none kV3 dc3 pm3 an3 cd3 ct3), sl3⟩)
    (c3 : PySem.W.codeIn K cd3 "is_list" = true)
    (k3 : PySem.W.keepIn K (.ref f3) = true)
    (a4 : PySem.W.nsIn K mainGlobals "is_ascending" = some (some (.ref f4)))
    (l4 : K.lookup f4 = some ⟨oc4, od4, .func (PySem.W.fnOf "is_ascending" "is_ascending" (defArgs sAsc) (defBody sAsc) (defScope sAsc) .none kV4 dc4 pm4 an4 cd4 ct4), sl4⟩)
    (c4 : PySem.W.codeIn K cd4 "is_ascending" = true)
    (k4 : PySem.W.keepIn K (.ref f4) = true)
    (a5 : PySem.W.nsIn K mainGlobals "is_simplex" = some (some (.ref f5)))
    (l5 : K.lookup f5 = some ⟨oc5, od5, .func (PySem.W.fnOf "is_simplex" "is_simplex" (defArgs sSimp) (defBody sSimp) (defScope sSimp) .none kV5 dc5 pm5 an5 cd5 ct5), sl5⟩)
    (c5 : PySem.W.codeIn K cd5 "is_simplex" = true)
    (k5 : PySem.W.keepIn K (.ref f5) = true)
    (a6 : PySem.W.nsIn K mainGlobals "parts_of" = some (some (.ref f6)))
    (l6 : K.lookup f6 = some ⟨oc6, od6, .func (PySem.W.fnOf "parts_of" "parts_of" (defArgs sParts) (defBody sParts) (defScope sParts) .none kV6 dc6 pm6 an6 cd6 ct6), sl6⟩)
    (c6 : PySem.W.codeIn K cd6 "parts_of" = true)
    (k6 : PySem.W.keepIn K (.ref f6) = true)
    (a7 : PySem.W.nsIn K mainGlobals "generated" = some (some (.ref f7)))
    (l7 : K.lookup f7 = some ⟨oc7, od7, .func (PySem.W.fnOf "generated" "generated" (defArgs sGen) (defBody sGen) (defScope sGen) .none kV7 dc7 pm7 an7 cd7 ct7), sl7⟩)
    (c7 : PySem.W.codeIn K cd7 "generated" = true)
    (k7 : PySem.W.keepIn K (.ref f7) = true)
    (a8 : PySem.W.nsIn K mainGlobals "in_order" = some (some (.ref f8)))
    (l8 : K.lookup f8 = some ⟨oc8, od8, .func (PySem.W.fnOf "in_order" "in_order" (defArgs sOrder) (defBody sOrder) (defScope sOrder) .none kV8 dc8 pm8 an8 cd8 ct8), sl8⟩)
    (c8 : PySem.W.codeIn K cd8 "in_order" = true)
    (k8 : PySem.W.keepIn K (.ref f8) = true)
    (a9 : PySem.W.nsIn K mainGlobals "maximal" = some (some (.ref f9)))
    (l9 : K.lookup f9 = some ⟨oc9, od9, .func (PySem.W.fnOf "maximal" "maximal" (defArgs sMax) (defBody sMax) (defScope sMax) .none kV9 dc9 pm9 an9 cd9 ct9), sl9⟩)
    (c9 : PySem.W.codeIn K cd9 "maximal" = true)
    (k9 : PySem.W.keepIn K (.ref f9) = true)
    (a10 : PySem.W.nsIn K mainGlobals "need_complex" = some (some (.ref f10)))
    (l10 : K.lookup f10 = some ⟨oc10, od10, .func (PySem.W.fnOf "need_complex" "need_complex" (defArgs sNeedC) (defBody sNeedC) (defScope sNeedC) .none kV10 dc10 pm10 an10 cd10 ct10), sl10⟩)
    (c10 : PySem.W.codeIn K cd10 "need_complex" = true)
    (k10 : PySem.W.keepIn K (.ref f10) = true)
    (a11 : PySem.W.nsIn K mainGlobals "made" = some (some (.ref f11)))
    (l11 : K.lookup f11 = some ⟨oc11, od11, .func (PySem.W.fnOf "made" "made" (defArgs sMade) (defBody sMade) (defScope sMade) .none kV11 dc11 pm11 an11 cd11 ct11), sl11⟩)
    (c11 : PySem.W.codeIn K cd11 "made" = true)
    (k11 : PySem.W.keepIn K (.ref f11) = true)
    (a12 : PySem.W.nsIn K mainGlobals "simplices_of" = some (some (.ref f12)))
    (l12 : K.lookup f12 = some ⟨oc12, od12, .func (PySem.W.fnOf "simplices_of" "simplices_of" (defArgs sSOf) (defBody sSOf) (defScope sSOf) .none kV12 dc12 pm12 an12 cd12 ct12), sl12⟩)
    (c12 : PySem.W.codeIn K cd12 "simplices_of" = true)
    (k12 : PySem.W.keepIn K (.ref f12) = true)
    (a13 : PySem.W.nsIn K mainGlobals "vertices_in" = some (some (.ref f13)))
    (l13 : K.lookup f13 = some ⟨oc13, od13, .func (PySem.W.fnOf "vertices_in" "vertices_in" (defArgs sVIn) (defBody sVIn) (defScope sVIn) .none kV13 dc13 pm13 an13 cd13 ct13), sl13⟩)
    (c13 : PySem.W.codeIn K cd13 "vertices_in" = true)
    (k13 : PySem.W.keepIn K (.ref f13) = true)
    (a14 : PySem.W.nsIn K mainGlobals "image_in" = some (some (.ref f14)))
    (l14 : K.lookup f14 = some ⟨oc14, od14, .func (PySem.W.fnOf "image_in" "image_in" (defArgs sImgIn) (defBody sImgIn) (defScope sImgIn) .none kV14 dc14 pm14 an14 cd14 ct14), sl14⟩)
    (c14 : PySem.W.codeIn K cd14 "image_in" = true)
    (k14 : PySem.W.keepIn K (.ref f14) = true)
    (a15 : PySem.W.nsIn K mainGlobals "is_map" = some (some (.ref f15)))
    (l15 : K.lookup f15 = some ⟨oc15, od15, .func (PySem.W.fnOf "is_map" "is_map" (defArgs sIsMap) (defBody sIsMap) (defScope sIsMap) .none kV15 dc15 pm15 an15 cd15 ct15), sl15⟩)
    (c15 : PySem.W.codeIn K cd15 "is_map" = true)
    (k15 : PySem.W.keepIn K (.ref f15) = true)
    (a16 : PySem.W.nsIn K mainGlobals "need_map" = some (some (.ref f16)))
    (l16 : K.lookup f16 = some ⟨oc16, od16, .func (PySem.W.fnOf "need_map" "need_map" (defArgs sNeedM) (defBody sNeedM) (defScope sNeedM) .none kV16 dc16 pm16 an16 cd16 ct16), sl16⟩)
    (c16 : PySem.W.codeIn K cd16 "need_map" = true)
    (k16 : PySem.W.keepIn K (.ref f16) = true)
    (a17 : PySem.W.nsIn K mainGlobals "image_of" = some (some (.ref f17)))
    (l17 : K.lookup f17 = some ⟨oc17, od17, .func (PySem.W.fnOf "image_of" "image_of" (defArgs sImgOf) (defBody sImgOf) (defScope sImgOf) .none kV17 dc17 pm17 an17 cd17 ct17), sl17⟩)
    (c17 : PySem.W.codeIn K cd17 "image_of" = true)
    (k17 : PySem.W.keepIn K (.ref f17) = true)
    (a18 : PySem.W.nsIn K mainGlobals "fixed_simplices" = some (some (.ref f18)))
    (l18 : K.lookup f18 = some ⟨oc18, od18, .func (PySem.W.fnOf "fixed_simplices" "fixed_simplices" (defArgs sFixed) (defBody sFixed) (defScope sFixed) .none kV18 dc18 pm18 an18 cd18 ct18), sl18⟩)
    (c18 : PySem.W.codeIn K cd18 "fixed_simplices" = true)
    (k18 : PySem.W.keepIn K (.ref f18) = true)
    (a19 : PySem.W.nsIn K mainGlobals "_law_taken" = some (some (.ref f19)))
    (l19 : K.lookup f19 = some ⟨oc19, od19, .func (PySem.W.fnOf "_law_taken" "_law_taken" (defArgs sTaken) (defBody sTaken) (defScope sTaken) .none kV19 dc19 pm19 an19 cd19 ct19), sl19⟩)
    (c19 : PySem.W.codeIn K cd19 "_law_taken" = true)
    (k19 : PySem.W.keepIn K (.ref f19) = true)
    (a20 : PySem.W.nsIn K mainGlobals "_law_pick" = some (some (.ref f20)))
    (l20 : K.lookup f20 = some ⟨oc20, od20, .func (PySem.W.fnOf "_law_pick" "_law_pick" (defArgs sPick) (defBody sPick) (defScope sPick) .none kV20 dc20 pm20 an20 cd20 ct20), sl20⟩)
    (c20 : PySem.W.codeIn K cd20 "_law_pick" = true)
    (k20 : PySem.W.keepIn K (.ref f20) = true)
    (a21 : PySem.W.nsIn K mainGlobals "_law_alike" = some (some (.ref f21)))
    (l21 : K.lookup f21 = some ⟨oc21, od21, .func (PySem.W.fnOf "_law_alike" "_law_alike" (defArgs sAlike) (defBody sAlike) (defScope sAlike) .none kV21 dc21 pm21 an21 cd21 ct21), sl21⟩)
    (c21 : PySem.W.codeIn K cd21 "_law_alike" = true)
    (k21 : PySem.W.keepIn K (.ref f21) = true)
    (a22 : PySem.W.nsIn K mainGlobals "_law_simplex" = some (some (.ref f22)))
    (l22 : K.lookup f22 = some ⟨oc22, od22, .func (PySem.W.fnOf "_law_simplex" "_law_simplex" (defArgs sLSx) (defBody sLSx) (defScope sLSx) .none kV22 dc22 pm22 an22 cd22 ct22), sl22⟩)
    (c22 : PySem.W.codeIn K cd22 "_law_simplex" = true)
    (k22 : PySem.W.keepIn K (.ref f22) = true)
    (a23 : PySem.W.nsIn K mainGlobals "_law_simplices" = some (some (.ref f23)))
    (l23 : K.lookup f23 = some ⟨oc23, od23, .func (PySem.W.fnOf "_law_simplices" "_law_simplices" (defArgs sLSxs) (defBody sLSxs) (defScope sLSxs) .none kV23 dc23 pm23 an23 cd23 ct23), sl23⟩)
    (c23 : PySem.W.codeIn K cd23 "_law_simplices" = true)
    (k23 : PySem.W.keepIn K (.ref f23) = true)
    (a24 : PySem.W.nsIn K mainGlobals "_law_faces" = some (some (.ref f24)))
    (l24 : K.lookup f24 = some ⟨oc24, od24, .func (PySem.W.fnOf "_law_faces" "_law_faces" (defArgs sLFaces) (defBody sLFaces) (defScope sLFaces) .none kV24 dc24 pm24 an24 cd24 ct24), sl24⟩)
    (c24 : PySem.W.codeIn K cd24 "_law_faces" = true)
    (k24 : PySem.W.keepIn K (.ref f24) = true)
    (a25 : PySem.W.nsIn K mainGlobals "_law_vertices" = some (some (.ref f25)))
    (l25 : K.lookup f25 = some ⟨oc25, od25, .func (PySem.W.fnOf "_law_vertices" "_law_vertices" (defArgs sLVert) (defBody sLVert) (defScope sLVert) .none kV25 dc25 pm25 an25 cd25 ct25), sl25⟩)
    (c25 : PySem.W.codeIn K cd25 "_law_vertices" = true)
    (k25 : PySem.W.keepIn K (.ref f25) = true)
    (a26 : PySem.W.nsIn K mainGlobals "_law_wide" = some (some (.ref f26)))
    (l26 : K.lookup f26 = some ⟨oc26, od26, .func (PySem.W.fnOf "_law_wide" "_law_wide" (defArgs sLWide) (defBody sLWide) (defScope sLWide) .none kV26 dc26 pm26 an26 cd26 ct26), sl26⟩)
    (c26 : PySem.W.codeIn K cd26 "_law_wide" = true)
    (k26 : PySem.W.keepIn K (.ref f26) = true)
    (a27 : PySem.W.nsIn K mainGlobals "_law_map" = some (some (.ref f27)))
    (l27 : K.lookup f27 = some ⟨oc27, od27, .func (PySem.W.fnOf "_law_map" "_law_map" (defArgs sLMap) (defBody sLMap) (defScope sLMap) .none kV27 dc27 pm27 an27 cd27 ct27), sl27⟩)
    (c27 : PySem.W.codeIn K cd27 "_law_map" = true)
    (k27 : PySem.W.keepIn K (.ref f27) = true)
    (a0 : PySem.W.nsIn K mainGlobals "law" = some (some (.ref f0)))
    (l0 : K.lookup f0 = some ⟨oc0, od0, .func (PySem.W.fnOf "law" "law" (defArgs sLaw) (defBody sLaw) (defScope sLaw) .none kV0 dc0 pm0 an0 cd0 ct0), sl0⟩)
    (c0 : PySem.W.codeIn K cd0 "law" = true)
    (k0 : PySem.W.keepIn K (.ref f0) = true)
    (pg : PySem.W.plainGet K C Str.empty = true)
    (hd : PySem.W.hasDictIn K C = true)
    (po : PySem.W.plainOver K C = true)
    (sa : PySem.W.findIn K (.ref C) "__setattr__" = some (some (.builtin "object.__setattr__")))
    (mk : PySem.W.makesIn K C = true)
    (kc : PySem.W.keepIn K (.ref C) = true)
    (nF : PySem.W.findIn K (.ref C) "faces" = some none)
    (nT : PySem.W.findIn K (.ref C) "tops" = some none)
    (x1 : PySem.W.findIn K (.ref C) "__class__" = some (some (.builtin "object.__class__")))
    (x2 : PySem.W.specialIn K (.builtin "object.__class__") "__get__" = some (some (.builtin "getset_descriptor.__get__")))
    (x3 : PySem.W.takesIn K (.builtin "object.__class__") = some true)
    (x4 : PySem.W.mroIn K C (.type "object") = some true)
    (z_isinstance : PySem.W.nsIn K mainGlobals "isinstance" = some none)
    (z_len : PySem.W.nsIn K mainGlobals "len" = some none)
    (z_all : PySem.W.nsIn K mainGlobals "all" = some none)
    (z_any : PySem.W.nsIn K mainGlobals "any" = some none)
    (z_zip : PySem.W.nsIn K mainGlobals "zip" = some none)
    (z_enumerate : PySem.W.nsIn K mainGlobals "enumerate" = some none)
    (z_sorted : PySem.W.nsIn K mainGlobals "sorted" = some none)
    (z_tuple : PySem.W.nsIn K mainGlobals "tuple" = some none)
    (z_list : PySem.W.nsIn K mainGlobals "list" = some none)
    (z_set : PySem.W.nsIn K mainGlobals "set" = some none)
    (z_dict : PySem.W.nsIn K mainGlobals "dict" = some none)
    (z_range : PySem.W.nsIn K mainGlobals "range" = some none)
    (z_int : PySem.W.nsIn K mainGlobals "int" = some none)
    (z_bool : PySem.W.nsIn K mainGlobals "bool" = some none)
    (z_str : PySem.W.nsIn K mainGlobals "str" = some none)
    (z_min : PySem.W.nsIn K mainGlobals "min" = some none)
    (q1 : ∃ u t, PySem.W.nsIn K mainGlobals "MOST_VERTEX" = some (some u) ∧ u = .int 30 t)
    (q2 : ∃ u t, PySem.W.nsIn K mainGlobals "MOST_LENGTH" = some (some u) ∧ u = .int 8 t)
    (q3 : ∃ u t, PySem.W.nsIn K mainGlobals "MOST_FACES" = some (some u) ∧ u = .int 400 t)
    : ∃ fd : FuncData, (∀ (s : Shared) (v : Value), BindsTo s fd ⟨[v], []⟩ [("_law_script", v)]) ∧ ∀ base : Heap, K.In base → base.Ns mainGlobals mg → FnOk P w K mg base CX0 9 fa fd ["_law_script"] (spLaw K) := by
  have e := hfa.symm.trans (PySem.W.mg_of X G a0)
  cases e
  have cl : Cls K C := ⟨pg, hd, po, sa⟩
  have T : Fx mg := ⟨PySem.W.mg_none_of X G z_isinstance, PySem.W.mg_none_of X G z_len, PySem.W.mg_none_of X G z_all, PySem.W.mg_none_of X G z_any, PySem.W.mg_none_of X G z_zip, PySem.W.mg_none_of X G z_enumerate, PySem.W.mg_none_of X G z_sorted, PySem.W.mg_none_of X G z_tuple, PySem.W.mg_none_of X G z_list, PySem.W.mg_none_of X G z_set, PySem.W.mg_none_of X G z_dict, PySem.W.mg_none_of X G z_range, PySem.W.mg_none_of X G z_int, PySem.W.mg_none_of X G z_bool, PySem.W.mg_none_of X G z_str, PySem.W.mg_none_of X G z_min, (let ⟨_, t, h1, h2⟩ := q1; ⟨t, h2 ▸ PySem.W.mg_of X G h1⟩), (let ⟨_, t, h1, h2⟩ := q2; ⟨t, h2 ▸ PySem.W.mg_of X G h1⟩), (let ⟨_, t, h1, h2⟩ := q3; ⟨t, h2 ▸ PySem.W.mg_of X G h1⟩)⟩
  have TC : Cx72 K mg C := ⟨⟨cl, x1, x2, x3, x4, if_pos (beq_self_eq_true _)⟩, nF, nT, PySem.W.mg_of X G aC⟩
  have Fi := fun_mk (st := sCInit) li ci ki
  have bi := Fi.binds (ps := ["self", "simplices"]) fun _ _ _ _ _ _ us hl => match us, hl with | [_, _], _ => rfl
  have Fh := fun_mk (st := sCHas) lh ch kh
  have bh := Fh.binds (ps := ["self", "simplex"]) fun _ _ _ _ _ _ us hl => match us, hl with | [_, _], _ => rfl
  have Fg := fun_mk (st := sCFac) lg cg kg
  have bg := Fg.binds (ps := ["self"]) fun _ _ _ _ _ _ us hl => match us, hl with | [_], _ => rfl
  have F1 := fun_mk (st := sInteger) l1 c1 k1
  have b1 := F1.binds (ps := ["value"]) fun _ _ _ _ _ _ us hl => match us, hl with | [_], _ => rfl
  have m1 := PySem.W.mg_of X G a1
  have F2 := fun_mk (st := sIn) l2 c2 k2
  have b2 := F2.binds (ps := ["value", "least", "most"]) fun _ _ _ _ _ _ us hl => match us, hl with | [_, _, _], _ => rfl
  have m2 := PySem.W.mg_of X G a2
  have F3 := fun_mk (st := sList) l3 c3 k3
  have b3 := F3.binds (ps := ["value", "least", "most"]) fun _ _ _ _ _ _ us hl => match us, hl with | [_, _, _], _ => rfl
  have m3 := PySem.W.mg_of X G a3
  have F4 := fun_mk (st := sAsc) l4 c4 k4
  have b4 := F4.binds (ps := ["value", "least", "most"]) fun _ _ _ _ _ _ us hl => match us, hl with | [_, _, _], _ => rfl
  have m4 := PySem.W.mg_of X G a4
  have F5 := fun_mk (st := sSimp) l5 c5 k5
  have b5 := F5.binds (ps := ["value"]) fun _ _ _ _ _ _ us hl => match us, hl with | [_], _ => rfl
  have m5 := PySem.W.mg_of X G a5
  have F6 := fun_mk (st := sParts) l6 c6 k6
  have b6 := F6.binds (ps := ["simplex"]) fun _ _ _ _ _ _ us hl => match us, hl with | [_], _ => rfl
  have m6 := PySem.W.mg_of X G a6
  have F7 := fun_mk (st := sGen) l7 c7 k7
  have b7 := F7.binds (ps := ["simplices"]) fun _ _ _ _ _ _ us hl => match us, hl with | [_], _ => rfl
  have m7 := PySem.W.mg_of X G a7
  have F8 := fun_mk (st := sOrder) l8 c8 k8
  have b8 := F8.binds (ps := ["simplices"]) fun _ _ _ _ _ _ us hl => match us, hl with | [_], _ => rfl
  have m8 := PySem.W.mg_of X G a8
  have F9 := fun_mk (st := sMax) l9 c9 k9
  have b9 := F9.binds (ps := ["faces"]) fun _ _ _ _ _ _ us hl => match us, hl with | [_], _ => rfl
  have m9 := PySem.W.mg_of X G a9
  have F10 := fun_mk (st := sNeedC) l10 c10 k10
  have b10 := F10.binds (ps := ["value"]) fun _ _ _ _ _ _ us hl => match us, hl with | [_], _ => rfl
  have m10 := PySem.W.mg_of X G a10
  have F11 := fun_mk (st := sMade) l11 c11 k11
  have b11 := F11.binds (ps := ["simplices"]) fun _ _ _ _ _ _ us hl => match us, hl with | [_], _ => rfl
  have m11 := PySem.W.mg_of X G a11
  have F12 := fun_mk (st := sSOf) l12 c12 k12
  have b12 := F12.binds (ps := ["shape"]) fun _ _ _ _ _ _ us hl => match us, hl with | [_], _ => rfl
  have m12 := PySem.W.mg_of X G a12
  have F13 := fun_mk (st := sVIn) l13 c13 k13
  have b13 := F13.binds (ps := ["shape"]) fun _ _ _ _ _ _ us hl => match us, hl with | [_], _ => rfl
  have m13 := PySem.W.mg_of X G a13
  have F14 := fun_mk (st := sImgIn) l14 c14 k14
  have b14 := F14.binds (ps := ["names", "simplex"]) fun _ _ _ _ _ _ us hl => match us, hl with | [_, _], _ => rfl
  have m14 := PySem.W.mg_of X G a14
  have F15 := fun_mk (st := sIsMap) l15 c15 k15
  have b15 := F15.binds (ps := ["one", "other", "names"]) fun _ _ _ _ _ _ us hl => match us, hl with | [_, _, _], _ => rfl
  have m15 := PySem.W.mg_of X G a15
  have F16 := fun_mk (st := sNeedM) l16 c16 k16
  have b16 := F16.binds (ps := ["one", "other", "names"]) fun _ _ _ _ _ _ us hl => match us, hl with | [_, _, _], _ => rfl
  have m16 := PySem.W.mg_of X G a16
  have F17 := fun_mk (st := sImgOf) l17 c17 k17
  have b17 := F17.binds (ps := ["one", "other", "names"]) fun _ _ _ _ _ _ us hl => match us, hl with | [_, _, _], _ => rfl
  have m17 := PySem.W.mg_of X G a17
  have F18 := fun_mk (st := sFixed) l18 c18 k18
  have b18 := F18.binds (ps := ["shape", "names"]) fun _ _ _ _ _ _ us hl => match us, hl with | [_, _], _ => rfl
  have m18 := PySem.W.mg_of X G a18
  have F19 := fun_mk (st := sTaken) l19 c19 k19
  have b19 := F19.binds (ps := ["_law_row", "_law_many"]) fun _ _ _ _ _ _ us hl => match us, hl with | [_, _], _ => rfl
  have m19 := PySem.W.mg_of X G a19
  have F20 := fun_mk (st := sPick) l20 c20 k20
  have b20 := F20.binds (ps := ["_law_row", "_law_things"]) fun _ _ _ _ _ _ us hl => match us, hl with | [_, _], _ => rfl
  have m20 := PySem.W.mg_of X G a20
  have F21 := fun_mk (st := sAlike) l21 c21 k21
  have b21 := F21.binds (ps := ["_law_found", "_law_due"]) fun _ _ _ _ _ _ us hl => match us, hl with | [_, _], _ => rfl
  have m21 := PySem.W.mg_of X G a21
  have F22 := fun_mk (st := sLSx) l22 c22 k22
  have b22 := F22.binds (ps := ["_law_row", "_law_most", "_law_size"]) fun _ _ _ _ _ _ us hl => match us, hl with | [_, _, _], _ => rfl
  have m22 := PySem.W.mg_of X G a22
  have F23 := fun_mk (st := sLSxs) l23 c23 k23
  have b23 := F23.binds (ps := ["_law_row", "_law_most", "_law_size"]) fun _ _ _ _ _ _ us hl => match us, hl with | [_, _, _], _ => rfl
  have m23 := PySem.W.mg_of X G a23
  have F24 := fun_mk (st := sLFaces) l24 c24 k24
  have b24 := F24.binds (ps := ["_law_simplices_here"]) fun _ _ _ _ _ _ us hl => match us, hl with | [_], _ => rfl
  have m24 := PySem.W.mg_of X G a24
  have F25 := fun_mk (st := sLVert) l25 c25 k25
  have b25 := F25.binds (ps := ["_law_faces_here"]) fun _ _ _ _ _ _ us hl => match us, hl with | [_], _ => rfl
  have m25 := PySem.W.mg_of X G a25
  have F26 := fun_mk (st := sLWide) l26 c26 k26
  have b26 := F26.binds (ps := ["_law_row", "_law_most", "_law_size"]) fun _ _ _ _ _ _ us hl => match us, hl with | [_, _, _], _ => rfl
  have m26 := PySem.W.mg_of X G a26
  have F27 := fun_mk (st := sLMap) l27 c27 k27
  have b27 := F27.binds (ps := ["_law_row", "_law_faces_here", "_law_others"]) fun _ _ _ _ _ _ us hl => match us, hl with | [_, _, _], _ => rfl
  have m27 := PySem.W.mg_of X G a27
  refine ⟨PySem.W.fnOf "law" "law" (defArgs sLaw) (defBody sLaw) (defScope sLaw) .none kV0 dc0 pm0 an0 cd0 ct0, fun s v => .of_eq rfl, fun base _ _ => ?_⟩
  have c_integer : Cal72 P w K mg base 1 "is_integer" spInteger := cal_of F1 m1 b1 (ok_integer F1 T)
  have c_in : Cal72 P w K mg base 2 "is_in" spIn := cal_of F2 m2 b2 (ok_in (by decide) F2 c_integer)
  have c_list : Cal72 P w K mg base 1 "is_list" spList := cal_of F3 m3 b3 (ok_list F3 T)
  have c_asc : Cal72 P w K mg base 3 "is_ascending" spAsc := cal_of F4 m4 b4 (ok_asc (by decide) F4 T c_in c_list)
  have c_simp : Cal72 P w K mg base 4 "is_simplex" spSimp := cal_of F5 m5 b5 (ok_simp (by decide) F5 T c_asc)
  have c_parts : Cal72 P w K mg base 1 "parts_of" spParts := cal_of F6 m6 b6 (ok_parts F6)
  have c_gen : Cal72 P w K mg base 2 "generated" spGen := cal_of F7 m7 b7 (ok_gen (by decide) F7 T c_parts)
  have c_ordL : Cal72 P w K mg base 1 "in_order" spOrderL := cal_of F8 m8 b8 (ok_orderL F8 T)
  have c_ordD : Cal72 P w K mg base 1 "in_order" spOrderD := cal_of F8 m8 b8 (ok_orderD F8 T)
  have c_max : Cal72 P w K mg base 1 "maximal" spMax := cal_of F9 m9 b9 (ok_max F9 T)
  have G_i : FnOk P w K mg base CX0 5 fi _ ["self", "simplices"] (spCInit C) := ok_cinit (by decide) Fi T TC c_list c_simp c_gen c_max
  have c_mk : C8.Mak P w K mg base 5 "Complex" C (spCInit C) [] := ⟨fi, _, _, [], ⟨mk, ai, ii, kc⟩, G_i, PySem.W.mg_of X G aC, bi, .nil⟩
  have G_h : FnOk P w K mg base CX0 5 fh _ ["self", "simplex"] (spCHas C) := ok_chas (by decide) Fh TC c_simp
  have G_g : FnOk P w K mg base CX0 1 fg _ ["self"] (getSp C "tops") := fn_getter (N := ["self"]) lg cg ⟨rfl, rfl, rfl, by decide +kernel, rfl, by decide +kernel, by decide +kernel⟩ rfl rfl cl nT
  have O : Own72 P w K mg base C := ⟨⟨fh, _, G_h, bh, ah, ih⟩, ⟨p1, fg, _, ⟨ap, gp, tp, rp⟩, G_g, bg⟩⟩
  have c_needc : Cal72 P w K mg base 1 "need_complex" (spNeedC C) := cal_of F10 m10 b10 (ok_needc F10 T TC)
  have c_made : Cal72 P w K mg base 7 "made" (spMade C) := cal_of F11 m11 b11 (ok_made (by decide) F11 c_mk c_gen c_max)
  have c_sof : Cal72 P w K mg base 2 "simplices_of" (spSOf C) := cal_of F12 m12 b12 (ok_sof (by decide) F12 TC c_needc c_ordD)
  have c_vin : Cal72 P w K mg base 1 "vertices_in" (spVIn C) := cal_of F13 m13 b13 (ok_vin F13 T TC)
  have c_imgin : Cal72 P w K mg base 1 "image_in" spImgIn := cal_of F14 m14 b14 (ok_imgin F14 T)
  have c_ismap : Cal72 P w K mg base 6 "is_map" (spIsMap C) := cal_of F15 m15 b15 (ok_ismap (by decide) F15 T TC O c_needc c_vin c_list c_imgin)
  have c_needm : Cal72 P w K mg base 7 "need_map" (spNeedM C) := cal_of F16 m16 b16 (ok_needm (by decide) F16 c_ismap)
  have c_imgof : Cal72 P w K mg base 8 "image_of" (spImgOf C) := cal_of F17 m17 b17 (ok_imgof (by decide) F17 T TC O c_needm c_made c_imgin)
  have c_fixed : Cal72 P w K mg base 8 "fixed_simplices" (spFixed C) := cal_of F18 m18 b18 (ok_fixed (by decide) F18 T TC c_needm c_ordL c_imgin)
  have c_taken : Cal72 P w K mg base 1 "_law_taken" (spTaken K) := cal_of F19 m19 b19 (ok_taken F19 T)
  have c_pick : Cal72 P w K mg base 2 "_law_pick" (spPick K) := cal_of F20 m20 b20 (ok_pick (by decide) F20 T c_taken)
  have c_al0 : Cal72 P w K mg base 1 "_law_alike" (spAlike 0) := cal_of F21 m21 b21 (ok_alike0 F21 T)
  have c_al1 : Cal72 P w K mg base 2 "_law_alike" (spAlike 1) := cal_of F21 m21 b21 (ok_alikeS (j := 1) (by decide) F21 T c_al0)
  have c_al2 : Cal72 P w K mg base 3 "_law_alike" (spAlike 2) := cal_of F21 m21 b21 (ok_alikeS (j := 2) (by decide) F21 T c_al1)
  have c_lsx : Cal72 P w K mg base 2 "_law_simplex" (spLSx K) := cal_of F22 m22 b22 (ok_lsx (by decide) F22 T c_taken)
  have c_lsxs : Cal72 P w K mg base 3 "_law_simplices" (spLSxs K) := cal_of F23 m23 b23 (ok_lsxs (by decide) F23 T c_taken c_lsx)
  have c_faces : Cal72 P w K mg base 1 "_law_faces" spLFaces := cal_of F24 m24 b24 (ok_lfaces F24 T)
  have c_verts : Cal72 P w K mg base 1 "_law_vertices" spLVert := cal_of F25 m25 b25 (ok_lvert F25 T)
  have c_wide : Cal72 P w K mg base 4 "_law_wide" (spLWide K) := cal_of F26 m26 b26 (ok_lwide (by decide) F26 T c_taken c_lsxs c_pick)
  have c_lmap : Cal72 P w K mg base 3 "_law_map" (spLMap K) := cal_of F27 m27 b27 (ok_lmap (by decide) F27 T c_verts c_pick)
  exact ok_law (by decide) (fun_mk (st := sLaw) l0 c0 k0) T TC ⟨c_ismap, c_imgof, c_fixed, c_sof, c_al0, c_al2, c_faces, c_verts, c_wide, c_lmap, c_taken, c_pick, c_mk⟩
theorem walk72 {l : PySem.W.OpenLaw} {q : Program} {loose : List Str} {XP : (Str → Option Value) → Heap → Prop} {YP : World → Heap → Prop} {d : DefRec} {K : Params → PySem.W.Frag} (hn : l.most = some 63) (hdf : d.params.defaults = [])
    (hY : ∀ (w : World) (h : Heap), YP w h → (K w.params).In h)
    (F : ∀ (w : World) (mg : Str → Option Value) (fa : Addr) (h : Heap), (K w.params).In h → h.Ns mainGlobals mg → mg d.name = some (.ref fa) →
      ∃ fd : FuncData, (∀ (s : Shared) (u : Value), BindsTo s fd ⟨[u], []⟩ [("_law_script", u)]) ∧ ∀ base : Heap, (K w.params).In base → base.Ns mainGlobals mg → FnOk l.prog w (K w.params) mg base CX0 9 fa fd ["_law_script"] (spLaw (K w.params))) :
    PySem.W.WalkO q loose XP YP l.row.toRowW d [] (fun f vs => PySem.call f vs) :=
  L2.walk_of (n := 63) (k := 9) (x := "_law_script") (CX := fun _ => CX0) (sp := fun w => spLaw (K w.params)) hn (by decide) hdf ⟨rfl, by decide, by decide⟩ hY F (fun _ _ a ns _ _ hS => ⟨a, ns, rfl, hS, fun _ => rfl⟩) fun _ _ _ _ _ z => z
end B72
open PySem PySem.W PyProof.Rows in
set_option maxRecDepth 100000 in
set_option maxHeartbeats 0 in
theorem PySem.Challenge.cw_shapeholes_k72_whole_maps_judged_holds : PySem.Challenge.rw_shapeholes_k72_whole_maps_judged.Holds := by
  w_on; o_law; k_head; (case hw => w_witness2)
  k_fill
  refine B72.walk72 (l := PySem.Challenge.rw_shapeholes_k72_whole_maps_judged) rfl rfl (fun w h Y => PySem.W.kIn_of Y) ?F
  case F =>
    intro w mg fa h KX G hmg
    refine' B72.all_mk KX G hmg ?aC ?ai ?ii ?li ?ci ?ki ?ah ?ih ?lh ?ch ?kh ?ap ?gp ?tp ?rp ?lg ?cg ?kg ?a1 ?l1 ?c1 ?k1 ?a2 ?l2 ?c2 ?k2 ?a3 ?l3 ?c3 ?k3 ?a4 ?l4 ?c4 ?k4 ?a5 ?l5 ?c5 ?k5 ?a6 ?l6 ?c6 ?k6 ?a7 ?l7 ?c7 ?k7 ?a8 ?l8 ?c8 ?k8 ?a9 ?l9 ?c9 ?k9 ?a10 ?l10 ?c10 ?k10 ?a11 ?l11 ?c11 ?k11 ?a12 ?l12 ?c12 ?k12 ?a13 ?l13 ?c13 ?k13 ?a14 ?l14 ?c14 ?k14 ?a15 ?l15 ?c15 ?k15 ?a16 ?l16 ?c16 ?k16 ?a17 ?l17 ?c17 ?k17 ?a18 ?l18 ?c18 ?k18 ?a19 ?l19 ?c19 ?k19 ?a20 ?l20 ?c20 ?k20 ?a21 ?l21 ?c21 ?k21 ?a22 ?l22 ?c22 ?k22 ?a23 ?l23 ?c23 ?k23 ?a24 ?l24 ?c24 ?k24 ?a25 ?l25 ?c25 ?k25 ?a26 ?l26 ?c26 ?k26 ?a27 ?l27 ?c27 ?k27 ?a0 ?l0 ?c0 ?k0 ?pg ?hd ?po ?sa ?mk ?kc ?nF ?nT ?x1 ?x2 ?x3 ?x4 ?z_isinstance ?z_len ?z_all ?z_any ?z_zip ?z_enumerate ?z_sorted ?z_tuple ?z_list ?z_set ?z_dict ?z_range ?z_int ?z_bool ?z_str ?z_min ?q1 ?q2 ?q3
    (case aC => k_is)
    (case ai => k_is)
    (case ii => k_is)
    (case li => k_is)
    (case ci => k_is)
    (case ki => k_is)
    (case ah => k_is)
    (case ih => k_is)
    (case lh => k_is)
    (case ch => k_is)
    (case kh => k_is)
    (case ap => k_is)
    (case gp => k_is)
    (case tp => k_is)
    (case rp => exact ⟨_, by k_is⟩)
    (case lg => k_is)
    (case cg => k_is)
    (case kg => k_is)
    (case a1 => k_is)
    (case l1 => k_is)
    (case c1 => k_is)
    (case k1 => k_is)
    (case a2 => k_is)
    (case l2 => k_is)
    (case c2 => k_is)
    (case k2 => k_is)
    (case a3 => k_is)
    (case l3 => k_is)
    (case c3 => k_is)
    (case k3 => k_is)
    (case a4 => k_is)
    (case l4 => k_is)
    (case c4 => k_is)
    (case k4 => k_is)
    (case a5 => k_is)
    (case l5 => k_is)
    (case c5 => k_is)
    (case k5 => k_is)
    (case a6 => k_is)
    (case l6 => k_is)
    (case c6 => k_is)
    (case k6 => k_is)
    (case a7 => k_is)
    (case l7 => k_is)
    (case c7 => k_is)
    (case k7 => k_is)
    (case a8 => k_is)
    (case l8 => k_is)
    (case c8 => k_is)
    (case k8 => k_is)
    (case a9 => k_is)
    (case l9 => k_is)
    (case c9 => k_is)
    (case k9 => k_is)
    (case a10 => k_is)
    (case l10 => k_is)
    (case c10 => k_is)
    (case k10 => k_is)
    (case a11 => k_is)
    (case l11 => k_is)
    (case c11 => k_is)
    (case k11 => k_is)
    (case a12 => k_is)
    (case l12 => k_is)
    (case c12 => k_is)
    (case k12 => k_is)
    (case a13 => k_is)
    (case l13 => k_is)
    (case c13 => k_is)
    (case k13 => k_is)
    (case a14 => k_is)
    (case l14 => k_is)
    (case c14 => k_is)
    (case k14 => k_is)
    (case a15 => k_is)
    (case l15 => k_is)
    (case c15 => k_is)
    (case k15 => k_is)
    (case a16 => k_is)
    (case l16 => k_is)
    (case c16 => k_is)
    (case k16 => k_is)
    (case a17 => k_is)
    (case l17 => k_is)
    (case c17 => k_is)
    (case k17 => k_is)
    (case a18 => k_is)
    (case l18 => k_is)
    (case c18 => k_is)
    (case k18 => k_is)
    (case a19 => k_is)
    (case l19 => k_is)
    (case c19 => k_is)
    (case k19 => k_is)
    (case a20 => k_is)
    (case l20 => k_is)
    (case c20 => k_is)
    (case k20 => k_is)
    (case a21 => k_is)
    (case l21 => k_is)
    (case c21 => k_is)
    (case k21 => k_is)
    (case a22 => k_is)
    (case l22 => k_is)
    (case c22 => k_is)
    (case k22 => k_is)
    (case a23 => k_is)
    (case l23 => k_is)
    (case c23 => k_is)
    (case k23 => k_is)
    (case a24 => k_is)
    (case l24 => k_is)
    (case c24 => k_is)
    (case k24 => k_is)
    (case a25 => k_is)
    (case l25 => k_is)
    (case c25 => k_is)
    (case k25 => k_is)
    (case a26 => k_is)
    (case l26 => k_is)
    (case c26 => k_is)
    (case k26 => k_is)
    (case a27 => k_is)
    (case l27 => k_is)
    (case c27 => k_is)
    (case k27 => k_is)
    (case a0 => k_is)
    (case l0 => k_is)
    (case c0 => k_is)
    (case k0 => k_is)
    (case pg => k_is)
    (case hd => k_is)
    (case po => k_is)
    (case sa => k_is)
    (case mk => k_is)
    (case kc => k_is)
    (case nF => k_is)
    (case nT => k_is)
    (case x1 => k_is)
    (case x2 => k_is)
    (case x3 => k_is)
    (case x4 => k_is)
    (case z_isinstance => k_is)
    (case z_len => k_is)
    (case z_all => k_is)
    (case z_any => k_is)
    (case z_zip => k_is)
    (case z_enumerate => k_is)
    (case z_sorted => k_is)
    (case z_tuple => k_is)
    (case z_list => k_is)
    (case z_set => k_is)
    (case z_dict => k_is)
    (case z_range => k_is)
    (case z_int => k_is)
    (case z_bool => k_is)
    (case z_str => k_is)
    (case z_min => k_is)
    (case q1 => exact ⟨_, _, by k_is, rfl⟩)
    (case q2 => exact ⟨_, _, by k_is, rfl⟩)
    (case q3 => exact ⟨_, _, by k_is, rfl⟩)
