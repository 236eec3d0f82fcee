import PyProof.Rows.All
import HandS.ForMost
import KE.GoesEnum
import HandS.Wide
import HandS.WideMore
import HandS.Dict
import PyProof.DictFindH
import HandS.TupSets
import HandS.Conv
import PySem.Challenge.RW_lockturns_k07_whole_weights
import HandS.AnyAll
import HandS.IsInst
import HandS.Ends
import PyProof.GenCompD
import HandS.SetKeys
import PyProof.DictMoreH
import HandS.DictTup
import HandS.Walk
import HandS.Strs
import HandS.Zip
import HandS.SetFor
import HandS.Flow
import HandS.TupLen
import HandS.Exc
import HandS.ExcOwn
import HandS.WordsExc
import HandS.Style
import PyProof.ExcBaseAll.ValueError
import HandS.Deep
import KE.KDictPairs
import KE.KDictCopyH
import PyProof.P3In
import HandS.EndTab
set_option linter.all false
namespace Lk
/-! turns as lists of places -/
abbrev Tn := List Nat
def beh (a b : Tn) : Tn := a.map fun p => b.getD p 0
def stl (n : Nat) : Tn := List.range n
def bck (t : Tn) : Tn := (List.range t.length).map fun p => t.idxOf p
def swp (a b : Tn) : Tn := beh (beh a b) (beh (bck a) (bck b))
structure IsP (n : Nat) (t : Tn) : Prop where
  len : t.length = n
  lt : ∀ x ∈ t, x < n
  nd : t.Nodup

theorem pigeon {α : Type} [DecidableEq α] : ∀ (l D : List α), l.Nodup → (∀ x ∈ l, x ∈ D) → l.length ≤ D.length
  | [], _, _, _ => Nat.zero_le _
  | x :: l, D, hn, hs => by
    have hx := hs x List.mem_cons_self
    have h1 : l.length ≤ (D.erase x).length := pigeon l (D.erase x) (List.nodup_cons.mp hn).2 fun y hy => by
      have : y ≠ x := fun e => (List.nodup_cons.mp hn).1 (e ▸ hy)
      exact (List.mem_erase_of_ne this).mpr (hs y (List.mem_cons_of_mem _ hy))
    rw [List.length_erase_of_mem hx] at h1
    have := List.length_pos_of_mem hx
    rw [List.length_cons]
    omega

theorem ext_getD {a b : Tn} (hl : a.length = b.length) (h : ∀ p, p < a.length → a.getD p 0 = b.getD p 0) : a = b := by
  apply List.ext_getElem hl
  intro i h1 h2
  have := h i h1
  rw [List.getD_eq_getElem?_getD, List.getD_eq_getElem?_getD, List.getElem?_eq_getElem h1, List.getElem?_eq_getElem h2] at this
  simpa using this
theorem getD_lt {a : Tn} {p : Nat} (h : p < a.length) : a.getD p 0 = a[p] := by
  rw [List.getD_eq_getElem?_getD, List.getElem?_eq_getElem h]; rfl
theorem getD_mem {a : Tn} {p : Nat} (h : p < a.length) : a.getD p 0 ∈ a := by
  rw [getD_lt h]; exact List.getElem_mem h

theorem beh_len (a b : Tn) : (beh a b).length = a.length := List.length_map _
theorem beh_get {a b : Tn} {p : Nat} (h : p < a.length) : (beh a b).getD p 0 = b.getD (a.getD p 0) 0 := by
  rw [getD_lt (by rw [beh_len]; exact h), getD_lt h]
  unfold beh
  rw [List.getElem_map]
theorem stl_len (n : Nat) : (stl n).length = n := List.length_range
theorem stl_get {n p : Nat} (h : p < n) : (stl n).getD p 0 = p := by
  rw [getD_lt (by rw [stl_len]; exact h)]
  unfold stl
  rw [List.getElem_range]
theorem bck_len (t : Tn) : (bck t).length = t.length := by unfold bck; rw [List.length_map, List.length_range]
theorem bck_get {t : Tn} {p : Nat} (h : p < t.length) : (bck t).getD p 0 = t.idxOf p := by
  rw [getD_lt (by rw [bck_len]; exact h)]
  unfold bck
  rw [List.getElem_map, List.getElem_range]

theorem IsP.get {n : Nat} {t : Tn} (h : IsP n t) {p : Nat} (hp : p < n) : t.getD p 0 < n := h.lt _ (getD_mem (by rw [h.len]; exact hp))
theorem IsP.surj {n : Nat} {t : Tn} (h : IsP n t) {q : Nat} (hq : q < n) : q ∈ t := by
  refine Classical.byContradiction fun hm => ?_
  have h1 := pigeon t ((List.range n).erase q) h.nd fun x hx => by
    have : x ≠ q := fun e => hm (e ▸ hx)
    exact (List.mem_erase_of_ne this).mpr (List.mem_range.mpr (h.lt x hx))
  rw [List.length_erase_of_mem (List.mem_range.mpr hq), List.length_range, h.len] at h1
  omega
theorem idx_lt {t : Tn} {q : Nat} (h : q ∈ t) : t.idxOf q < t.length := List.idxOf_lt_length_of_mem h
theorem get_idx {t : Tn} {q : Nat} (h : q ∈ t) : t.getD (t.idxOf q) 0 = q := by
  rw [getD_lt (idx_lt h)]
  exact List.getElem_idxOf (idx_lt h)
theorem IsP.inj {n : Nat} {t : Tn} (h : IsP n t) {p q : Nat} (hp : p < n) (hq : q < n) (e : t.getD p 0 = t.getD q 0) : p = q := by
  have hp' : p < t.length := by rw [h.len]; exact hp
  have hq' : q < t.length := by rw [h.len]; exact hq
  rw [getD_lt hp', getD_lt hq'] at e
  have key := List.pairwise_iff_getElem.mp h.nd
  rcases Nat.lt_trichotomy p q with z | z | z
  · exact absurd e (key p q hp' hq' z)
  · exact z
  · exact absurd e.symm (key q p hq' hp' z)
theorem IsP.idx_get {n : Nat} {t : Tn} (h : IsP n t) {p : Nat} (hp : p < n) : t.idxOf (t.getD p 0) = p := by
  have hp' : p < t.length := by rw [h.len]; exact hp
  have hm := getD_mem (a := t) hp'
  refine h.inj (by rw [← h.len]; exact idx_lt hm) hp (get_idx hm)
theorem isP_of {n : Nat} {t : Tn} (hl : t.length = n) (hlt : ∀ p, p < n → t.getD p 0 < n) (hi : ∀ p q, p < n → q < n → t.getD p 0 = t.getD q 0 → p = q) : IsP n t := by
  refine ⟨hl, fun x hx => ?_, ?_⟩
  · obtain ⟨i, hi', rfl⟩ := List.getElem_of_mem hx
    have := hlt i (by rw [← hl]; exact hi')
    rw [getD_lt hi'] at this
    exact this
  · refine List.pairwise_iff_getElem.mpr fun i j h1 h2 hij e => ?_
    have := hi i j (by omega) (by omega) (by rw [getD_lt h1, getD_lt h2]; exact e)
    omega
theorem isP_stl (n : Nat) : IsP n (stl n) := ⟨stl_len n, fun x hx => List.mem_range.mp hx, List.nodup_range⟩
theorem isP_beh {n : Nat} {a b : Tn} (ha : IsP n a) (hb : IsP n b) : IsP n (beh a b) := by
  have hg : ∀ p, p < n → (beh a b).getD p 0 = b.getD (a.getD p 0) 0 := fun p hp => beh_get (by rw [ha.len]; exact hp)
  refine isP_of (by rw [beh_len, ha.len]) (fun p hp => ?_) fun p q hp hq e => ?_
  · rw [hg p hp]; exact hb.get (ha.get hp)
  · rw [hg p hp, hg q hq] at e
    exact ha.inj hp hq (hb.inj (ha.get hp) (ha.get hq) e)
theorem IsP.bck_get {n : Nat} {t : Tn} (h : IsP n t) {p : Nat} (hp : p < n) : (bck t).getD p 0 = t.idxOf p := Lk.bck_get (by rw [h.len]; exact hp)
theorem isP_bck {n : Nat} {t : Tn} (h : IsP n t) : IsP n (bck t) := by
  refine isP_of (by rw [bck_len, h.len]) (fun p hp => ?_) fun p q hp hq e => ?_
  · rw [h.bck_get hp, ← h.len]; exact idx_lt (h.surj hp)
  · rw [h.bck_get hp, h.bck_get hq] at e
    rw [← get_idx (h.surj hp), ← get_idx (h.surj hq), e]
theorem isP_swp {n : Nat} {a b : Tn} (ha : IsP n a) (hb : IsP n b) : IsP n (swp a b) := isP_beh (isP_beh ha hb) (isP_beh (isP_bck ha) (isP_bck hb))
theorem beh_assoc {n : Nat} {a b c : Tn} (ha : IsP n a) (hb : IsP n b) (hc : IsP n c) : beh (beh a b) c = beh a (beh b c) := by
  refine ext_getD (by rw [beh_len, beh_len, beh_len]) fun p hp => ?_
  rw [beh_len, beh_len, ha.len] at hp
  rw [beh_get (by rw [beh_len, ha.len]; exact hp), beh_get (by rw [ha.len]; exact hp), beh_get (by rw [ha.len]; exact hp), beh_get (by rw [hb.len]; exact ha.get hp)]
theorem stl_beh {n : Nat} {a : Tn} (ha : IsP n a) : beh (stl n) a = a := by
  refine ext_getD (by rw [beh_len, stl_len, ha.len]) fun p hp => ?_
  rw [beh_len, stl_len] at hp
  rw [beh_get (by rw [stl_len]; exact hp), stl_get hp]
theorem beh_stl {n : Nat} {a : Tn} (ha : IsP n a) : beh a (stl n) = a := by
  refine ext_getD (by rw [beh_len]) fun p hp => ?_
  rw [beh_len, ha.len] at hp
  rw [beh_get (by rw [ha.len]; exact hp), stl_get (ha.get hp)]
theorem beh_bck {n : Nat} {a : Tn} (ha : IsP n a) : beh a (bck a) = stl n := by
  refine ext_getD (by rw [beh_len, stl_len, ha.len]) fun p hp => ?_
  rw [beh_len, ha.len] at hp
  rw [beh_get (by rw [ha.len]; exact hp), stl_get hp, ha.bck_get (ha.get hp), ha.idx_get hp]
theorem bck_beh {n : Nat} {a : Tn} (ha : IsP n a) : beh (bck a) a = stl n := by
  refine ext_getD (by rw [beh_len, bck_len, stl_len, ha.len]) fun p hp => ?_
  rw [beh_len, bck_len, ha.len] at hp
  rw [beh_get (by rw [bck_len, ha.len]; exact hp), stl_get hp, ha.bck_get hp, get_idx (ha.surj hp)]
theorem bck_uniq {n : Nat} {a b : Tn} (ha : IsP n a) (hb : IsP n b) (e : beh a b = stl n) : b = bck a := by
  rw [← stl_beh hb, ← bck_beh ha, beh_assoc (isP_bck ha) ha hb, e, beh_stl (isP_bck ha)]
theorem bck_beh_rev {n : Nat} {a b : Tn} (ha : IsP n a) (hb : IsP n b) : bck (beh a b) = beh (bck b) (bck a) := by
  refine (bck_uniq (isP_beh ha hb) (isP_beh (isP_bck hb) (isP_bck ha)) ?_).symm
  rw [beh_assoc ha hb (isP_beh (isP_bck hb) (isP_bck ha)), ← beh_assoc hb (isP_bck hb) (isP_bck ha), beh_bck hb, stl_beh (isP_bck ha), beh_bck ha]
theorem bck_bck {n : Nat} {a : Tn} (ha : IsP n a) : bck (bck a) = a := (bck_uniq (isP_bck ha) ha (bck_beh ha)).symm

/-! places called otherwise -/
def cnj (o t : Tn) : Tn := beh (beh (bck o) t) o
section
variable {n : Nat} {o a b : Tn} (ho : IsP n o) (ha : IsP n a) (hb : IsP n b)
include ho ha
theorem isP_cnj : IsP n (cnj o a) := isP_beh (isP_beh (isP_bck ho) ha) ho
theorem cnj_at {p : Nat} (hp : p < n) : (cnj o a).getD (o.getD p 0) 0 = o.getD (a.getD p 0) 0 := by
  unfold cnj
  have h1 := ho.get hp
  rw [beh_get (by rw [beh_len, bck_len, ho.len]; exact h1), beh_get (by rw [bck_len, ho.len]; exact h1), ho.bck_get h1, ho.idx_get hp]
theorem cnj_inv : cnj (bck o) (cnj o a) = a := by
  have h1 := isP_bck ho
  have e1 : beh o (beh (beh (bck o) a) o) = beh a o := by
    rw [← beh_assoc ho (isP_beh h1 ha) ho, ← beh_assoc ho h1 ha, beh_bck ho, stl_beh ha]
  unfold cnj
  rw [bck_bck ho, e1, beh_assoc ha ho h1, beh_bck ho, beh_stl ha]
include hb
theorem cnj_beh : cnj o (beh a b) = beh (cnj o a) (cnj o b) := by
  have h1 := isP_bck ho
  unfold cnj
  rw [beh_assoc (isP_beh h1 ha) ho (isP_beh (isP_beh h1 hb) ho), ← beh_assoc ho (isP_beh h1 hb) ho, ← beh_assoc ho h1 hb, beh_bck ho, stl_beh hb,
    ← beh_assoc (isP_beh h1 ha) hb ho, beh_assoc h1 ha hb]
theorem cnj_inj (e : cnj o a = cnj o b) : a = b := by
  rw [← cnj_inv ho ha, e, cnj_inv ho hb]
omit hb
theorem cnj_bck : cnj o (bck a) = bck (cnj o a) := by
  refine bck_uniq (isP_cnj ho ha) (isP_cnj ho (isP_bck ha)) ?_
  rw [← cnj_beh ho ha (isP_bck ha), beh_bck ha]
  unfold cnj
  rw [beh_stl (isP_bck ho), bck_beh ho]
include hb
theorem cnj_swp : cnj o (swp a b) = swp (cnj o a) (cnj o b) := by
  unfold swp
  rw [cnj_beh ho (isP_beh ha hb) (isP_beh (isP_bck ha) (isP_bck hb)), cnj_beh ho ha hb, cnj_beh ho (isP_bck ha) (isP_bck hb), cnj_bck ho ha, cnj_bck ho hb]
omit hb
omit ha
theorem cnj_stl : cnj o (stl n) = stl n := by
  unfold cnj
  rw [beh_stl (isP_bck ho), bck_beh ho]
end
end Lk
set_option linter.all false
namespace Lk
/-! sorted sets of turns -/
def codA (a : Nat) : Tn → Nat
  | [] => a
  | x :: t => codA (a * 16 + x) t
def cod (t : Tn) : Nat := codA 0 t
theorem codA_inj : ∀ (t u : Tn) (a b : Nat), t.length = u.length → (∀ x ∈ t, x < 16) → (∀ x ∈ u, x < 16) → codA a t = codA b u → a = b ∧ t = u
  | [], [], _, _, _, _, _, e => ⟨e, rfl⟩
  | x :: t, y :: u, a, b, hl, ht, hu, e => by
    have h := codA_inj t u (a * 16 + x) (b * 16 + y) (by simpa using hl) (fun z hz => ht z (List.mem_cons_of_mem _ hz)) (fun z hz => hu z (List.mem_cons_of_mem _ hz)) e
    have hx := ht x List.mem_cons_self
    have hy := hu y List.mem_cons_self
    have e1 := h.1
    have : a = b ∧ x = y := by omega
    exact ⟨this.1, by rw [this.2, h.2]⟩
theorem cod_inj {n : Nat} {t u : Tn} (hn : n ≤ 16) (ht : IsP n t) (hu : IsP n u) (e : cod t = cod u) : t = u :=
  (codA_inj t u 0 0 (by rw [ht.len, hu.len]) (fun x hx => Nat.lt_of_lt_of_le (ht.lt x hx) hn) (fun x hx => Nat.lt_of_lt_of_le (hu.lt x hx) hn) e).2
def Srt (l : List Tn) : Prop := l.Pairwise fun a b => cod a < cod b
def ins (t : Tn) : List Tn → List Tn
  | [] => [t]
  | u :: r => if cod t < cod u then t :: u :: r else if cod t = cod u then u :: r else u :: ins t r
def setS (l : List Tn) : List Tn := l.foldr ins []
theorem srt_ext : ∀ {a b : List Tn}, Srt a → Srt b → (∀ t, t ∈ a ↔ t ∈ b) → a = b
  | [], [], _, _, _ => rfl
  | [], y :: b, _, _, h => absurd ((h y).mpr List.mem_cons_self) List.not_mem_nil
  | x :: a, [], _, _, h => absurd ((h x).mp List.mem_cons_self) List.not_mem_nil
  | x :: a, y :: b, ha, hb, h => by
    have ha' := List.pairwise_cons.mp ha
    have hb' := List.pairwise_cons.mp hb
    have exy : x = y := by
      rcases List.mem_cons.mp ((h x).mp List.mem_cons_self) with e | m
      · exact e
      · rcases List.mem_cons.mp ((h y).mpr List.mem_cons_self) with e | m2
        · exact e.symm
        · have := hb'.1 x m
          have := ha'.1 y m2
          omega
    subst exy
    rw [srt_ext ha'.2 hb'.2 fun t => ?_]
    constructor
    · intro ht
      rcases List.mem_cons.mp ((h t).mp (List.mem_cons_of_mem _ ht)) with e | m
      · subst e
        exact absurd (ha'.1 t ht) (Nat.lt_irrefl _)
      · exact m
    · intro ht
      rcases List.mem_cons.mp ((h t).mpr (List.mem_cons_of_mem _ ht)) with e | m
      · subst e
        exact absurd (hb'.1 t ht) (Nat.lt_irrefl _)
      · exact m
theorem Srt.nodup {l : List Tn} (h : Srt l) : l.Nodup := List.Pairwise.imp (fun {a b} h e => by rw [e] at h; exact Nat.lt_irrefl _ h) h
/-- all are permutations of n places -/
def AllP (n : Nat) (l : List Tn) : Prop := ∀ t ∈ l, IsP n t
theorem mem_ins {n : Nat} (hn : n ≤ 16) {t : Tn} (ht : IsP n t) : ∀ {l : List Tn}, AllP n l → ∀ x, x ∈ ins t l ↔ x = t ∨ x ∈ l
  | [], _, x => by simp [ins]
  | u :: r, h, x => by
    unfold ins
    split
    · simp
    · split
      · rename_i h1 h2
        have e := cod_inj hn ht (h u List.mem_cons_self) h2
        subst e
        simp
      · rw [List.mem_cons, mem_ins hn ht (fun y hy => h y (List.mem_cons_of_mem _ hy)), List.mem_cons]
        constructor
        · rintro (h | h | h)
          · exact .inr (.inl h)
          · exact .inl h
          · exact .inr (.inr h)
        · rintro (h | h | h)
          · exact .inr (.inl h)
          · exact .inl h
          · exact .inr (.inr h)
theorem allP_ins {n : Nat} {t : Tn} (ht : IsP n t) : ∀ {l : List Tn}, AllP n l → AllP n (ins t l)
  | [], _, x, hx => by
    rw [ins, List.mem_singleton] at hx
    rw [hx]; exact ht
  | u :: r, h, x, hx => by
    unfold ins at hx
    split at hx
    · rcases List.mem_cons.mp hx with e | m
      · rw [e]; exact ht
      · exact h x m
    · split at hx
      · exact h x hx
      · rcases List.mem_cons.mp hx with e | m
        · rw [e]; exact h u List.mem_cons_self
        · exact allP_ins ht (fun y hy => h y (List.mem_cons_of_mem _ hy)) x m
theorem srt_ins {n : Nat} (hn : n ≤ 16) {t : Tn} (ht : IsP n t) : ∀ {l : List Tn}, AllP n l → Srt l → Srt (ins t l)
  | [], _, _ => List.pairwise_singleton _ _
  | u :: r, h, hs => by
    have hs' := List.pairwise_cons.mp hs
    unfold ins
    split
    · rename_i h1
      refine List.pairwise_cons.mpr ⟨fun y hy => ?_, hs⟩
      rcases List.mem_cons.mp hy with e | m
      · rw [e]; exact h1
      · have := hs'.1 y m
        omega
    · split
      · exact hs
      · have hr : AllP n r := fun y hy => h y (List.mem_cons_of_mem _ hy)
        refine List.pairwise_cons.mpr ⟨fun y hy => ?_, srt_ins hn ht hr hs'.2⟩
        rcases (mem_ins hn ht hr y).mp hy with e | m
        · rw [e]; omega
        · exact hs'.1 y m
theorem setS_ok {n : Nat} (hn : n ≤ 16) : ∀ {l : List Tn}, AllP n l → AllP n (setS l) ∧ Srt (setS l) ∧ ∀ x, x ∈ setS l ↔ x ∈ l
  | [], _ => ⟨fun x hx => absurd hx List.not_mem_nil, List.Pairwise.nil, fun x => Iff.rfl⟩
  | t :: l, h => by
    have ht := h t List.mem_cons_self
    obtain ⟨h1, h2, h3⟩ := setS_ok hn (l := l) fun y hy => h y (List.mem_cons_of_mem _ hy)
    refine ⟨allP_ins ht h1, srt_ins hn ht h1 h2, fun x => ?_⟩
    rw [show setS (t :: l) = ins t (setS l) from rfl, mem_ins hn ht h1, h3, List.mem_cons]
theorem mem_setS {n : Nat} (hn : n ≤ 16) {l : List Tn} (h : AllP n l) (x : Tn) : x ∈ setS l ↔ x ∈ l := (setS_ok hn h).2.2 x
theorem srt_setS {n : Nat} (hn : n ≤ 16) {l : List Tn} (h : AllP n l) : Srt (setS l) := (setS_ok hn h).2.1
theorem setS_id {n : Nat} (hn : n ≤ 16) {l : List Tn} (h : AllP n l) (hs : Srt l) : setS l = l := srt_ext (srt_setS hn h) hs fun t => mem_setS hn h t
theorem setS_congr {n : Nat} (hn : n ≤ 16) {l m : List Tn} (hl : AllP n l) (hm : AllP n m) (h : ∀ t, t ∈ l ↔ t ∈ m) : setS l = setS m :=
  srt_ext (srt_setS hn hl) (srt_setS hn hm) fun t => by rw [mem_setS hn hl, mem_setS hn hm, h]
theorem setS_len {n : Nat} (hn : n ≤ 16) {l : List Tn} (h : AllP n l) (hd : l.Nodup) : (setS l).length = l.length := by
  have h1 := pigeon l (setS l) hd fun x hx => (mem_setS hn h x).mpr hx
  have h2 := pigeon (setS l) l (srt_setS hn h).nodup fun x hx => (mem_setS hn h x).mp hx
  omega

/-! what turns make -/
inductive Clo (n : Nat) (g : List Tn) : Tn → Prop
  | nil : Clo n g (stl n)
  | step {t o : Tn} : Clo n g t → o ∈ g → Clo n g (beh t o)
theorem Clo.isP {n : Nat} {g : List Tn} (hg : AllP n g) {t : Tn} (h : Clo n g t) : IsP n t := by
  induction h with
  | nil => exact isP_stl n
  | step _ ho ih => exact isP_beh ih (hg _ ho)
theorem Clo.mono {n : Nat} {g g' : List Tn} (hs : ∀ t ∈ g, t ∈ g') {t : Tn} (h : Clo n g t) : Clo n g' t := by
  induction h with
  | nil => exact .nil
  | step _ ho ih => exact .step ih (hs _ ho)
theorem Clo.in {n : Nat} {g W : List Tn} (h0 : stl n ∈ W) (hc : ∀ t ∈ W, ∀ o ∈ g, beh t o ∈ W) {t : Tn} (h : Clo n g t) : t ∈ W := by
  induction h with
  | nil => exact h0
  | step _ ho ih => exact hc _ ih _ ho
theorem Clo.mul {n : Nat} {g : List Tn} (hg : AllP n g) {t u : Tn} (h : Clo n g t) (h' : Clo n g u) : Clo n g (beh t u) := by
  induction h' with
  | nil => rw [beh_stl (h.isP hg)]; exact h
  | step hu ho ih => rw [← beh_assoc (h.isP hg) (hu.isP hg) (hg _ ho)]; exact .step ih ho
theorem Clo.of {n : Nat} {g : List Tn} (hg : AllP n g) {o : Tn} (h : o ∈ g) : Clo n g o := by
  have := Clo.step (Clo.nil (n := n)) h
  rw [stl_beh (hg o h)] at this
  exact this

/-! layer by layer, as spanned does it -/
def addN (one : Tn) (fl : List Tn × List Tn) : List Tn × List Tn := if fl.1.contains one then fl else (fl.1 ++ [one], fl.2 ++ [one])
def row1 (t : Tn) (g : List Tn) (fl : List Tn × List Tn) : List Tn × List Tn := g.foldl (fun fl o => addN (beh t o) fl) fl
def lay1 (layer g : List Tn) (fl : List Tn × List Tn) : List Tn × List Tn := layer.foldl (fun fl t => row1 t g fl) fl
def bfs (g : List Tn) : Nat → List Tn → List Tn → List Tn
  | 0, found, _ => found
  | k + 1, found, layer => match layer with
    | [] => found
    | t :: r => bfs g k (lay1 (t :: r) g (found, [])).1 (lay1 (t :: r) g (found, [])).2
def ends (g : List Tn) : Nat → List Tn → List Tn → Prop
  | 0, _, layer => layer = []
  | k + 1, found, layer => match layer with
    | [] => True
    | t :: r => ends g k (lay1 (t :: r) g (found, [])).1 (lay1 (t :: r) g (found, [])).2
def spn (n : Nat) (g : List Tn) : List Tn := setS (bfs g 64 [stl n] [stl n])

/-- a pair (found, later) on the way; f0: what was found ahead of this layer -/
structure Mid (n : Nat) (g W f0 : List Tn) (fl : List Tn × List Tn) : Prop where
  nd : fl.1.Nodup
  inW : ∀ t ∈ fl.1, t ∈ W
  clo : ∀ t ∈ fl.1, Clo n g t
  sub : ∀ t ∈ fl.2, t ∈ fl.1
  new : ∀ t ∈ fl.1, t ∈ f0 ∨ t ∈ fl.2
  old : ∀ t ∈ f0, t ∈ fl.1
  len : fl.1.length = f0.length + fl.2.length
section
variable {n : Nat} {g W f0 : List Tn} {fl : List Tn × List Tn}
theorem addN_sub (one : Tn) : (∀ t ∈ fl.1, t ∈ (addN one fl).1) ∧ one ∈ (addN one fl).1 := by
  unfold addN
  split
  · rename_i h
    exact ⟨fun t h => h, List.contains_iff_mem.mp h⟩
  · exact ⟨fun t h => List.mem_append_left _ h, List.mem_append_right _ (List.mem_singleton.mpr rfl)⟩
theorem Mid.add (M : Mid n g W f0 fl) {one : Tn} (hW : one ∈ W) (hc : Clo n g one) : Mid n g W f0 (addN one fl) := by
  unfold addN
  split
  · exact M
  · rename_i h
    have hn : one ∉ fl.1 := fun m => h (List.contains_iff_mem.mpr m)
    refine ⟨?_, fun t ht => ?_, fun t ht => ?_, fun t ht => ?_, fun t ht => ?_, fun t ht => List.mem_append_left _ (M.old t ht), ?_⟩
    · refine List.nodup_append.mpr ⟨M.nd, List.pairwise_singleton _ _, fun a ha b hb e => ?_⟩
      rw [List.mem_singleton.mp hb] at e
      exact hn (e ▸ ha)
    · rcases List.mem_append.mp ht with z | z
      · exact M.inW t z
      · rw [List.mem_singleton.mp z]; exact hW
    · rcases List.mem_append.mp ht with z | z
      · exact M.clo t z
      · rw [List.mem_singleton.mp z]; exact hc
    · rcases List.mem_append.mp ht with z | z
      · exact List.mem_append_left _ (M.sub t z)
      · exact List.mem_append_right _ z
    · rcases List.mem_append.mp ht with z | z
      · rcases M.new t z with q | q
        · exact .inl q
        · exact .inr (List.mem_append_left _ q)
      · exact .inr (List.mem_append_right _ z)
    · have := M.len
      simp only [List.length_append, List.length_singleton]
      omega
theorem row1_sub {t : Tn} : ∀ (g' : List Tn) (fl : List Tn × List Tn), (∀ u ∈ fl.1, u ∈ (row1 t g' fl).1) ∧ ∀ o ∈ g', beh t o ∈ (row1 t g' fl).1
  | [], fl => ⟨fun u h => h, fun o h => absurd h List.not_mem_nil⟩
  | o :: g', fl => by
    have h1 := addN_sub (fl := fl) (beh t o)
    obtain ⟨h2, h3⟩ := row1_sub (t := t) g' (addN (beh t o) fl)
    refine ⟨fun u hu => h2 u (h1.1 u hu), fun o' ho' => ?_⟩
    rcases List.mem_cons.mp ho' with e | m
    · rw [e]; exact h2 _ h1.2
    · exact h3 o' m
theorem Mid.row (hW : ∀ t ∈ W, ∀ o ∈ g, beh t o ∈ W) {t : Tn} (ht : t ∈ W) (hc : Clo n g t) : ∀ (g' : List Tn) (fl : List Tn × List Tn), (∀ o ∈ g', o ∈ g) → Mid n g W f0 fl → Mid n g W f0 (row1 t g' fl)
  | [], fl, _, M => M
  | o :: g', fl, hs, M => Mid.row hW ht hc g' _ (fun x hx => hs x (List.mem_cons_of_mem _ hx)) (M.add (hW t ht o (hs o List.mem_cons_self)) (.step hc (hs o List.mem_cons_self)))
theorem lay1_sub : ∀ (l : List Tn) (fl : List Tn × List Tn), (∀ u ∈ fl.1, u ∈ (lay1 l g fl).1) ∧ ∀ t ∈ l, ∀ o ∈ g, beh t o ∈ (lay1 l g fl).1
  | [], fl => ⟨fun u h => h, fun t h => absurd h List.not_mem_nil⟩
  | t :: l, fl => by
    have h1 := row1_sub (t := t) g fl
    obtain ⟨h2, h3⟩ := lay1_sub l (row1 t g fl)
    refine ⟨fun u hu => h2 u (h1.1 u hu), fun t' ht' => ?_⟩
    rcases List.mem_cons.mp ht' with e | m
    · rw [e]; exact fun o ho => h2 _ (h1.2 o ho)
    · exact h3 t' m
theorem Mid.lay (hW : ∀ t ∈ W, ∀ o ∈ g, beh t o ∈ W) : ∀ (l : List Tn) (fl : List Tn × List Tn), (∀ t ∈ l, t ∈ W ∧ Clo n g t) → Mid n g W f0 fl → Mid n g W f0 (lay1 l g fl)
  | [], fl, _, M => M
  | t :: l, fl, hs, M => Mid.lay hW l _ (fun x hx => hs x (List.mem_cons_of_mem _ hx)) (Mid.row hW (hs t List.mem_cons_self).1 (hs t List.mem_cons_self).2 g fl (fun _ h => h) M)
end
/-- found, layer between two rounds -/
structure Bfs (n : Nat) (g W found layer : List Tn) : Prop where
  nd : found.Nodup
  inW : ∀ t ∈ found, t ∈ W
  clo : ∀ t ∈ found, Clo n g t
  sub : ∀ t ∈ layer, t ∈ found
  zero : stl n ∈ found
  done : ∀ t ∈ found, t ∉ layer → ∀ o ∈ g, beh t o ∈ found
section
variable {n : Nat} {g W found layer : List Tn}
theorem Bfs.mid (B : Bfs n g W found layer) : Mid n g W found (found, []) :=
  ⟨B.nd, B.inW, B.clo, fun t h => absurd h List.not_mem_nil, fun t h => .inl h, fun t h => h, rfl⟩
theorem Bfs.start (h0 : stl n ∈ W) : Bfs n g W [stl n] [stl n] :=
  ⟨List.pairwise_singleton _ _, fun t h => by rw [List.mem_singleton.mp h]; exact h0, fun t h => by rw [List.mem_singleton.mp h]; exact .nil, fun t h => h, List.mem_singleton.mpr rfl, fun t h q => absurd h q⟩
theorem Bfs.laid (hW : ∀ t ∈ W, ∀ o ∈ g, beh t o ∈ W) (B : Bfs n g W found layer) : Mid n g W found (lay1 layer g (found, [])) :=
  Mid.lay hW layer _ (fun t ht => ⟨B.inW t (B.sub t ht), B.clo t (B.sub t ht)⟩) B.mid
theorem Bfs.next (hW : ∀ t ∈ W, ∀ o ∈ g, beh t o ∈ W) (B : Bfs n g W found layer) : Bfs n g W (lay1 layer g (found, [])).1 (lay1 layer g (found, [])).2 := by
  have M := B.laid hW
  obtain ⟨h1, h2⟩ := lay1_sub (g := g) layer (found, [])
  refine ⟨M.nd, M.inW, M.clo, M.sub, h1 _ B.zero, fun t ht hn o ho => ?_⟩
  rcases M.new t ht with z | z
  · by_cases hl : t ∈ layer
    · exact h2 t hl o ho
    · exact h1 _ (B.done t z hl o ho)
  · exact absurd z hn
theorem Bfs.len (B : Bfs n g W found layer) : found.length ≤ W.length := pigeon _ _ B.nd B.inW
/-- it ends, closed -/
theorem bfs_ok (hW : ∀ t ∈ W, ∀ o ∈ g, beh t o ∈ W) : ∀ (k : Nat) (found layer : List Tn), Bfs n g W found layer → (layer = [] ∨ W.length + 2 ≤ k + found.length) → ends g k found layer ∧ Bfs n g W (bfs g k found layer) []
  | 0, found, layer, B, h => by
    rcases h with h | h
    · subst h; exact ⟨rfl, B⟩
    · have := B.len; omega
  | k + 1, found, [], B, h => ⟨trivial, B⟩
  | k + 1, found, t :: r, B, h => by
    refine bfs_ok hW k _ _ (B.next hW) ?_
    have h' : W.length + 2 ≤ k + 1 + found.length := by
      rcases h with h | h
      · exact absurd h (by simp)
      · exact h
    have hl := (B.laid hW).len
    cases e : (lay1 (t :: r) g (found, [])).2 with
    | nil => exact .inl rfl
    | cons a b =>
      rw [e] at hl
      simp only [List.length_cons] at hl
      exact .inr (by omega)
/-- the turns made, ascending -/
structure IsSpan (n : Nat) (g ts : List Tn) : Prop where
  srt : Srt ts
  mem : ∀ t, t ∈ ts ↔ Clo n g t
theorem IsSpan.uniq {ts us : List Tn} (h : IsSpan n g ts) (h' : IsSpan n g us) : ts = us := srt_ext h.srt h'.srt fun t => by rw [h.mem, h'.mem]
theorem Bfs.span (hn : n ≤ 16) (hg : AllP n g) (B : Bfs n g W found []) : IsSpan n g (setS found) := by
  have hp : AllP n found := fun t ht => (B.clo t ht).isP hg
  refine ⟨srt_setS hn hp, fun t => ?_⟩
  rw [mem_setS hn hp]
  exact ⟨B.clo t, fun h => h.in B.zero fun u hu o ho => B.done u hu List.not_mem_nil o ho⟩
/-- a bound: a list that holds what g makes -/
structure Box (n : Nat) (g W : List Tn) : Prop where
  zero : stl n ∈ W
  step : ∀ t ∈ W, ∀ o ∈ g, beh t o ∈ W
  len : W.length ≤ 60
theorem Box.ends (b : Box n g W) : ends g 64 [stl n] [stl n] := (bfs_ok b.step 64 _ _ (Bfs.start b.zero) (.inr (by have := b.len; simp; omega))).1
theorem Box.last (b : Box n g W) : Bfs n g W (bfs g 64 [stl n] [stl n]) [] := (bfs_ok b.step 64 _ _ (Bfs.start b.zero) (.inr (by have := b.len; simp; omega))).2
theorem Box.span (b : Box n g W) (hn : n ≤ 16) (hg : AllP n g) : IsSpan n g (spn n g) := b.last.span hn hg
end
end Lk
set_option linter.all false
namespace Lk
structure Grp (n : Nat) (W : List Tn) : Prop where
  srt : Srt W
  isP : AllP n W
  zero : stl n ∈ W
  mul : ∀ a ∈ W, ∀ b ∈ W, beh a b ∈ W
  inv : ∀ a ∈ W, bck a ∈ W
  few : W.length ≤ 60
def Sub (g W : List Tn) : Prop := ∀ t ∈ g, t ∈ W
section
variable {n : Nat} {W g : List Tn}
theorem Grp.swp (G : Grp n W) {a b : Tn} (ha : a ∈ W) (hb : b ∈ W) : swp a b ∈ W := G.mul _ (G.mul _ ha _ hb) _ (G.mul _ (G.inv _ ha) _ (G.inv _ hb))
theorem Grp.box (G : Grp n W) (h : Sub g W) : Box n g W := ⟨G.zero, fun t ht o ho => G.mul t ht o (h o ho), G.few⟩
theorem Grp.allP (G : Grp n W) (h : Sub g W) : AllP n g := fun t ht => G.isP t (h t ht)
theorem Grp.span (G : Grp n W) (hn : n ≤ 16) (h : Sub g W) : IsSpan n g (spn n g) := (G.box h).span hn (G.allP h)
theorem Grp.spn (G : Grp n W) (hn : n ≤ 16) (h : Sub g W) : Sub (spn n g) W := fun t ht => (((G.span hn h).mem t).mp ht).in G.zero fun u hu o ho => G.mul u hu o (h o ho)
end

/-! the program's functions over lists of turns -/
def swS (one other : List Tn) : List Tn := setS (one.flatMap fun l => other.map fun r => swp l r)
def low (n : Nat) (W : List Tn) : Nat → List Tn → List (List Tn)
  | 0, _ => []
  | k + 1, last => if spn n (swS last W) = last then [] else spn n (swS last W) :: low n W k (spn n (swS last W))
def lowE (n : Nat) (W : List Tn) : Nat → List Tn → Prop
  | 0, _ => False
  | k + 1, last => spn n (swS last W) = last ∨ lowE n W k (spn n (swS last W))
def pwr (t : Tn) : Nat → Tn
  | 0 => stl t.length
  | k + 1 => beh (pwr t k) t
def mny (p j w : Nat) : Nat → Nat → Nat
  | 0, m => m
  | k + 1, m => if j * m < w then mny p j w k (m * p) else m
def powG (p w : Nat) : Nat → List (List Tn) → List Tn
  | _, [] => []
  | j, term :: r => term.map (fun t => pwr t (mny p j w 6 1)) ++ powG p w (j + 1) r
def trm (n p : Nat) (terms : List (List Tn)) (w : Nat) : List Tn := spn n (setS (powG p w 1 terms))
def wgh (n p : Nat) (terms : List (List Tn)) : Nat → Nat → Option (List (List Tn))
  | 0, _ => none
  | k + 1, w => if (trm n p terms w).length = 1 then some [] else (wgh n p terms k (w + 1)).map (trm n p terms w :: ·)
def setD (k : Tn) (v : List Tn) (d : List (Tn × List Tn)) : List (Tn × List Tn) := if (d.map (·.1)).contains k then d else d ++ [(k, v)]
def com1 (lock : List Tn) : List (Tn × List Tn) := lock.foldl (fun d t => setD t [t] d) []
def comR (lock : List Tn) (tg : Tn × List Tn) (e : List (Tn × List Tn)) : List (Tn × List Tn) := lock.foldl (fun e o => setD (swp tg.1 o) (tg.2 ++ [o]) e) e
def comS (lock : List Tn) (d : List (Tn × List Tn)) : List (Tn × List Tn) := d.foldl (fun e tg => comR lock tg e) []
def com (lock : List Tn) : Nat → List (Tn × List Tn)
  | 0 => com1 lock
  | k + 1 => comS lock (com lock k)
structure Ch where
  given : List Tn
  turn : Tn
  long : Nat
  fin : Nat
  deriving DecidableEq
def fil1 (n p w : Nat) (term : List Tn) (sc : List Tn × List Ch) (ch : Ch) : List Tn × List Ch :=
  if ch.fin * p = w ∧ sc.1.length < term.length then
    if sc.1.length < (spn n (sc.1 ++ [pwr ch.turn (p ^ ch.long)])).length then (spn n (sc.1 ++ [pwr ch.turn (p ^ ch.long)]), sc.2 ++ [{ ch with long := ch.long + 1, fin := w }])
    else (sc.1, sc.2 ++ [ch])
  else (sc.1, sc.2 ++ [ch])
def fil2 (n w : Nat) (term : List Tn) (sc : List Tn × List Ch) (tg : Tn × List Tn) : List Tn × List Ch :=
  if sc.1.length < term.length then
    if sc.1.length < (spn n (sc.1 ++ [tg.1])).length then (spn n (sc.1 ++ [tg.1]), sc.2 ++ [⟨tg.2, tg.1, 1, w⟩])
    else sc
  else sc
def fil (n p : Nat) (lock : List Tn) (w : Nat) (term later : List Tn) (chs : List Ch) : List Ch :=
  ((com lock (w - 1)).foldl (fil2 n w term) (chs.foldl (fil1 n p w term) (later, []))).2
def chn (n p : Nat) (lock : List Tn) : Nat → List (List Tn) → List Ch → List Ch
  | w, one :: other :: r, chs => chn n p lock (w + 1) (other :: r) (fil n p lock w one other chs)
  | _, _, chs => chs

/-! lower's end -/
theorem swS_sub {n : Nat} {W a b : List Tn} (hn : n ≤ 16) (G : Grp n W) (ha : Sub a W) (hb : Sub b W) : AllP n (a.flatMap fun l => b.map fun r => swp l r) ∧ Sub (swS a b) W ∧ ∀ t, t ∈ swS a b ↔ ∃ l ∈ a, ∃ r ∈ b, t = swp l r := by
  have h1 : ∀ t, t ∈ (a.flatMap fun l => b.map fun r => swp l r) ↔ ∃ l ∈ a, ∃ r ∈ b, t = swp l r := fun t => by
    rw [List.mem_flatMap]
    constructor
    · rintro ⟨l, hl, hm⟩
      obtain ⟨r, hr, e⟩ := List.mem_map.mp hm
      exact ⟨l, hl, r, hr, e.symm⟩
    · rintro ⟨l, hl, r, hr, e⟩
      exact ⟨l, hl, List.mem_map.mpr ⟨r, hr, e.symm⟩⟩
  have h2 : Sub (a.flatMap fun l => b.map fun r => swp l r) W := fun t ht => by
    obtain ⟨l, hl, r, hr, e⟩ := (h1 t).mp ht
    rw [e]; exact G.swp (ha l hl) (hb r hr)
  have h3 := G.allP h2
  exact ⟨h3, fun t ht => h2 t ((mem_setS hn h3 t).mp ht), fun t => by unfold swS; rw [mem_setS hn h3, h1]⟩
theorem srt_eq {a b : List Tn} (ha : Srt a) (hb : Srt b) (hs : Sub a b) (hl : b.length ≤ a.length) : a = b := by
  refine srt_ext ha hb fun t => ⟨hs t, fun ht => Classical.byContradiction fun hn => ?_⟩
  have := pigeon a (b.erase t) ha.nodup fun x hx => (List.mem_erase_of_ne (fun e : x = t => hn (e ▸ hx))).mpr (hs x hx)
  rw [List.length_erase_of_mem ht] at this
  have := List.length_pos_of_mem ht
  omega
theorem low_step {n : Nat} {W last : List Tn} (hn : n ≤ 16) (G : Grp n W) (hl : Sub last W) : Sub (spn n (swS last W)) W ∧ Srt (spn n (swS last W)) :=
  have h := (swS_sub hn G hl (fun t h => h)).2.1
  ⟨G.spn hn h, (G.span hn h).srt⟩
theorem lowE_of {n : Nat} {W : List Tn} (hn : n ≤ 16) (G : Grp n W) : ∀ (k : Nat) (last : List Tn), Sub last W → Srt last → Sub (spn n (swS last W)) last → last.length < k → lowE n W k last
  | 0, _, _, _, _, h => absurd h (Nat.not_lt_zero _)
  | k + 1, last, hl, hs, hd, h => by
    obtain ⟨h1, h2⟩ := low_step hn G hl
    by_cases e : spn n (swS last W) = last
    · exact .inl e
    · refine .inr (lowE_of hn G k _ h1 h2 (fun t ht => ?_) ?_)
      · have hq := (swS_sub hn G h1 (fun t h => h)).2.1
        have := ((G.span hn hq).mem t).mp ht
        refine ((G.span hn (swS_sub hn G hl (fun t h => h)).2.1).mem t).mpr (this.mono fun u hu => ?_)
        obtain ⟨l, hl', r, hr, e⟩ := ((swS_sub hn G h1 (fun t h => h)).2.2 u).mp hu
        exact ((swS_sub hn G hl (fun t h => h)).2.2 u).mpr ⟨l, hd l hl', r, hr, e⟩
      · have := pigeon _ last h2.nodup hd
        by_cases e2 : last.length ≤ (spn n (swS last W)).length
        · exact absurd (srt_eq h2 hs hd e2) e
        · omega
theorem lowE_all {n : Nat} {W : List Tn} (hn : n ≤ 16) (G : Grp n W) : lowE n W 64 W := by
  have hs : Sub W W := fun t h => h
  exact lowE_of hn G 64 W hs G.srt (low_step hn G hs).1 (by have := G.few; omega)
theorem low_sub {n : Nat} {W : List Tn} (hn : n ≤ 16) (G : Grp n W) : ∀ (k : Nat) (last : List Tn), Sub last W → ∀ T ∈ low n W k last, Sub T W ∧ Srt T
  | 0, _, _, T, hT => absurd hT List.not_mem_nil
  | k + 1, last, hl, T, hT => by
    unfold low at hT
    split at hT
    · exact absurd hT List.not_mem_nil
    · rcases List.mem_cons.mp hT with e | m
      · rw [e]; exact low_step hn G hl
      · exact low_sub hn G k _ (low_step hn G hl).1 T m
theorem low_len {n : Nat} {W : List Tn} : ∀ (k : Nat) (last : List Tn), (low n W k last).length ≤ k
  | 0, _ => Nat.le_refl _
  | k + 1, last => by
    unfold low
    split
    · exact Nat.zero_le _
    · rw [List.length_cons]; exact Nat.succ_le_succ (low_len k _)

theorem pwr_len (t : Tn) : ∀ k, (pwr t k).length = t.length
  | 0 => stl_len _
  | k + 1 => by rw [pwr, beh_len, pwr_len t k]
theorem isP_pwr {n : Nat} {t : Tn} (h : IsP n t) : ∀ k, IsP n (pwr t k)
  | 0 => by rw [pwr, h.len]; exact isP_stl n
  | k + 1 => isP_beh (isP_pwr h k) h
theorem Grp.pwr {n : Nat} {W : List Tn} (G : Grp n W) {t : Tn} (h : t ∈ W) : ∀ k, pwr t k ∈ W
  | 0 => by rw [Lk.pwr, (G.isP t h).len]; exact G.zero
  | k + 1 => G.mul _ (G.pwr h k) _ h
theorem powG_sub {n : Nat} {W : List Tn} (G : Grp n W) (p w : Nat) : ∀ (terms : List (List Tn)) (j : Nat), (∀ T ∈ terms, Sub T W) → Sub (powG p w j terms) W
  | [], _, _, t, ht => absurd ht List.not_mem_nil
  | T :: r, j, h, t, ht => by
    rcases List.mem_append.mp ht with z | z
    · obtain ⟨u, hu, e⟩ := List.mem_map.mp z
      rw [← e]; exact G.pwr (h T List.mem_cons_self u hu) _
    · exact powG_sub G p w r (j + 1) (fun T hT => h T (List.mem_cons_of_mem _ hT)) t z
theorem sub_setS {n : Nat} {W l : List Tn} (hn : n ≤ 16) (G : Grp n W) (h : Sub l W) : Sub (setS l) W := fun t ht => h t ((mem_setS hn (G.allP h) t).mp ht)
theorem trm_sub {n : Nat} {W : List Tn} (hn : n ≤ 16) (G : Grp n W) (p : Nat) {terms : List (List Tn)} (w : Nat) (h : ∀ T ∈ terms, Sub T W) : Sub (trm n p terms w) W ∧ Srt (trm n p terms w) :=
  have h1 := sub_setS hn G (powG_sub G p w terms 1 h)
  ⟨G.spn hn h1, (G.span hn h1).srt⟩
end Lk
set_option linter.all false
namespace Lk
/-! places called otherwise: what the functions give then -/
def Img (o : Tn) (g' g : List Tn) : Prop := ∀ x, x ∈ g' ↔ ∃ t ∈ g, x = cnj o t
def cS (o : Tn) (l : List Tn) : List Tn := setS (l.map (cnj o))
section
variable {n : Nat} {o : Tn} (hn : n ≤ 16) (ho : IsP n o)
theorem img_map (l : List Tn) : Img o (l.map (cnj o)) l := fun x => by
  rw [List.mem_map]
  constructor
  · rintro ⟨t, h, e⟩; exact ⟨t, h, e.symm⟩
  · rintro ⟨t, h, e⟩; exact ⟨t, h, e.symm⟩
include ho
theorem allP_map {l : List Tn} (h : AllP n l) : AllP n (l.map (cnj o)) := fun x hx => by
  obtain ⟨t, ht, e⟩ := List.mem_map.mp hx
  rw [← e]; exact isP_cnj ho (h t ht)
theorem Img.allP {g' g : List Tn} (i : Img o g' g) (h : AllP n g) : AllP n g' := fun x hx => by
  obtain ⟨t, ht, e⟩ := (i x).mp hx
  rw [e]; exact isP_cnj ho (h t ht)
include hn
theorem Img.set {g' g : List Tn} (i : Img o g' g) (h : AllP n g) : setS g' = cS o g :=
  setS_congr hn (i.allP ho h) (allP_map ho h) fun t => by rw [i t, img_map g t]
theorem mem_cS {l : List Tn} (h : AllP n l) : Img o (cS o l) l := fun x => by
  unfold cS
  rw [mem_setS hn (allP_map ho h)]
  exact img_map l x
theorem srt_cS {l : List Tn} (h : AllP n l) : Srt (cS o l) := srt_setS hn (allP_map ho h)
theorem allP_cS {l : List Tn} (h : AllP n l) : AllP n (cS o l) := (mem_cS hn ho h).allP ho h
theorem nodup_map {l : List Tn} (h : AllP n l) (hd : l.Nodup) : (l.map (cnj o)).Nodup := by
  refine List.pairwise_map.mpr (List.Pairwise.imp_of_mem (fun {a b} ha hb hne e => hne (cnj_inj ho (h a ha) (h b hb) e)) hd)
theorem cS_len {l : List Tn} (h : AllP n l) (hd : l.Nodup) : (cS o l).length = l.length := by
  unfold cS
  rw [setS_len hn (allP_map ho h) (nodup_map hn ho h hd), List.length_map]
theorem cS_inj {a b : List Tn} (ha : AllP n a) (hb : AllP n b) (sa : Srt a) (sb : Srt b) (e : cS o a = cS o b) : a = b := by
  have key : ∀ {a b : List Tn}, AllP n a → AllP n b → cS o a = cS o b → ∀ t ∈ a, t ∈ b := fun {a b} ha hb e t ht => by
    have h1 : cnj o t ∈ cS o a := (mem_cS hn ho ha _).mpr ⟨t, ht, rfl⟩
    rw [e] at h1
    obtain ⟨u, hu, e2⟩ := (mem_cS hn ho hb _).mp h1
    rw [cnj_inj ho (ha t ht) (hb u hu) e2]; exact hu
  exact srt_ext sa sb fun t => ⟨key ha hb e t, key hb ha e.symm t⟩
theorem grp_cS {W : List Tn} (G : Grp n W) : Grp n (cS o W) := by
  have M := mem_cS hn ho G.isP
  refine ⟨srt_cS hn ho G.isP, allP_cS hn ho G.isP, (M _).mpr ⟨stl n, G.zero, (cnj_stl ho).symm⟩, fun a ha b hb => ?_, fun a ha => ?_, ?_⟩
  · obtain ⟨t, ht, rfl⟩ := (M a).mp ha
    obtain ⟨u, hu, rfl⟩ := (M b).mp hb
    exact (M _).mpr ⟨beh t u, G.mul t ht u hu, (cnj_beh ho (G.isP t ht) (G.isP u hu)).symm⟩
  · obtain ⟨t, ht, rfl⟩ := (M a).mp ha
    exact (M _).mpr ⟨bck t, G.inv t ht, (cnj_bck ho (G.isP t ht)).symm⟩
  · rw [cS_len hn ho G.isP G.srt.nodup]; exact G.few
theorem sub_cS {W l l' : List Tn} (G : Grp n W) (h : Sub l W) (i : Img o l' l) : Sub l' (cS o W) := fun x hx => by
  obtain ⟨t, ht, e⟩ := (i x).mp hx
  exact (mem_cS hn ho G.isP x).mpr ⟨t, h t ht, e⟩
omit hn in
theorem clo_cS {g g' : List Tn} (hg : AllP n g) (i : Img o g' g) (x : Tn) : Clo n g' x ↔ ∃ t, Clo n g t ∧ x = cnj o t := by
  constructor
  · intro h
    induction h with
    | nil => exact ⟨stl n, .nil, (cnj_stl ho).symm⟩
    | step _ h2 ih =>
      obtain ⟨t, ht, rfl⟩ := ih
      obtain ⟨u, hu, rfl⟩ := (i _).mp h2
      exact ⟨beh t u, .step ht hu, (cnj_beh ho (ht.isP hg) (hg u hu)).symm⟩
  · rintro ⟨t, ht, rfl⟩
    induction ht with
    | nil => rw [cnj_stl ho]; exact .nil
    | step h1 h2 ih => rw [cnj_beh ho (h1.isP hg) (hg _ h2)]; exact .step ih ((i _).mpr ⟨_, h2, rfl⟩)
theorem spn_cS {W g g' : List Tn} (G : Grp n W) (h : Sub g W) (i : Img o g' g) : spn n g' = cS o (spn n g) := by
  have S1 := G.span hn h
  have S2 := (grp_cS hn ho G).span hn (sub_cS hn ho G h i)
  have hp := G.allP (G.spn hn h)
  refine S2.uniq ⟨srt_cS hn ho hp, fun t => ?_⟩
  rw [mem_cS hn ho hp t, clo_cS ho (G.allP h) i]
  constructor
  · rintro ⟨u, hu, e⟩; exact ⟨u, (S1.mem u).mp hu, e⟩
  · rintro ⟨u, hu, e⟩; exact ⟨u, (S1.mem u).mpr hu, e⟩
theorem swS_cS {W a b : List Tn} (G : Grp n W) (ha : Sub a W) (hb : Sub b W) : Img o (swS (cS o a) (cS o b)) (swS a b) := fun x => by
  have G' := grp_cS hn ho G
  have pa := G.allP ha
  have pb := G.allP hb
  have Ma := mem_cS hn ho pa
  have Mb := mem_cS hn ho pb
  rw [(swS_sub hn G' (sub_cS hn ho G ha Ma) (sub_cS hn ho G hb Mb)).2.2 x]
  have S := (swS_sub hn G ha hb).2.2
  constructor
  · rintro ⟨l, hl, r, hr, rfl⟩
    obtain ⟨t, ht, rfl⟩ := (Ma l).mp hl
    obtain ⟨u, hu, rfl⟩ := (Mb r).mp hr
    exact ⟨swp t u, (S _).mpr ⟨t, ht, u, hu, rfl⟩, (cnj_swp ho (pa t ht) (pb u hu)).symm⟩
  · rintro ⟨t, ht, rfl⟩
    obtain ⟨l, hl, r, hr, rfl⟩ := (S t).mp ht
    exact ⟨_, (Ma _).mpr ⟨l, hl, rfl⟩, _, (Mb _).mpr ⟨r, hr, rfl⟩, cnj_swp ho (pa l hl) (pb r hr)⟩
theorem spnS_cS {W last : List Tn} (G : Grp n W) (hl : Sub last W) : spn n (swS (cS o last) (cS o W)) = cS o (spn n (swS last W)) :=
  spn_cS hn ho G (swS_sub hn G hl (fun t h => h)).2.1 (swS_cS hn ho G hl (fun t h => h))
theorem low_cS {W : List Tn} (G : Grp n W) : ∀ (k : Nat) (last : List Tn), Sub last W → Srt last → low n (cS o W) k (cS o last) = (low n W k last).map (cS o)
  | 0, _, _, _ => rfl
  | k + 1, last, hl, hs => by
    obtain ⟨h1, h2⟩ := low_step hn G hl
    unfold low
    rw [spnS_cS hn ho G hl]
    by_cases e : spn n (swS last W) = last
    · rw [if_pos e, e, if_pos rfl]; rfl
    · rw [if_neg e, if_neg fun q => e (cS_inj hn ho (G.allP h1) (G.allP hl) h2 hs q), List.map_cons, low_cS G k _ h1 h2]
omit hn in
theorem pwr_cnj {t : Tn} (h : IsP n t) : ∀ k, pwr (cnj o t) k = cnj o (pwr t k)
  | 0 => by rw [pwr, pwr, (isP_cnj ho h).len, h.len, cnj_stl ho]
  | k + 1 => by rw [pwr, pwr, pwr_cnj h k, cnj_beh ho (isP_pwr h k) h]
theorem powG_cS {W : List Tn} (G : Grp n W) (p w : Nat) : ∀ (terms : List (List Tn)) (j : Nat), (∀ T ∈ terms, Sub T W) → Img o (powG p w j (terms.map (cS o))) (powG p w j terms)
  | [], _, _ => fun x => by simp [powG]
  | T :: r, j, h => fun x => by
    have hT := G.allP (h T List.mem_cons_self)
    have ih := powG_cS G p w r (j + 1) (fun T hT => h T (List.mem_cons_of_mem _ hT)) x
    rw [List.map_cons, powG, powG, List.mem_append, ih]
    constructor
    · rintro (z | ⟨t, ht, e⟩)
      · obtain ⟨u, hu, e⟩ := List.mem_map.mp z
        obtain ⟨t, ht, rfl⟩ := (mem_cS hn ho hT u).mp hu
        exact ⟨_, List.mem_append_left _ (List.mem_map.mpr ⟨t, ht, rfl⟩), by rw [← e, pwr_cnj ho (hT t ht)]⟩
      · exact ⟨t, List.mem_append_right _ ht, e⟩
    · rintro ⟨t, ht, e⟩
      rcases List.mem_append.mp ht with z | z
      · obtain ⟨u, hu, e2⟩ := List.mem_map.mp z
        exact .inl (List.mem_map.mpr ⟨cnj o u, (mem_cS hn ho hT _).mpr ⟨u, hu, rfl⟩, by rw [pwr_cnj ho (hT u hu), e2, e]⟩)
      · exact .inr ⟨t, z, e⟩
theorem trm_cS {W : List Tn} (G : Grp n W) (p : Nat) {terms : List (List Tn)} (w : Nat) (h : ∀ T ∈ terms, Sub T W) : trm n p (terms.map (cS o)) w = cS o (trm n p terms w) := by
  have h1 := powG_sub G p w terms 1 h
  have i := powG_cS hn ho G p w terms 1 h
  unfold trm
  refine spn_cS hn ho G (sub_setS hn G h1) fun x => ?_
  rw [mem_setS hn (i.allP ho (G.allP h1)), i x]
  constructor
  · rintro ⟨t, ht, e⟩; exact ⟨t, (mem_setS hn (G.allP h1) t).mpr ht, e⟩
  · rintro ⟨t, ht, e⟩; exact ⟨t, (mem_setS hn (G.allP h1) t).mp ht, e⟩
theorem len_cS {W l : List Tn} (G : Grp n W) (h : Sub l W) (hs : Srt l) : (cS o l).length = l.length := cS_len hn ho (G.allP h) hs.nodup
theorem wgh_cS {W : List Tn} (G : Grp n W) (p : Nat) {terms : List (List Tn)} (h : ∀ T ∈ terms, Sub T W) : ∀ (k w : Nat), wgh n p (terms.map (cS o)) k w = (wgh n p terms k w).map (List.map (cS o))
  | 0, _ => rfl
  | k + 1, w => by
    obtain ⟨h1, h2⟩ := trm_sub hn G p w h
    unfold wgh
    rw [trm_cS hn ho G p w h, len_cS hn ho G h1 h2, wgh_cS G p h k (w + 1)]
    split
    · rfl
    · cases wgh n p terms k (w + 1) <;> rfl

/-! commutators -/
def cM (o : Tn) (d : List (Tn × List Tn)) : List (Tn × List Tn) := d.map fun tg => (cnj o tg.1, tg.2.map (cnj o))
def KeysP (n : Nat) (d : List (Tn × List Tn)) : Prop := ∀ p ∈ d, IsP n p.1
omit hn in
theorem setD_cM {k : Tn} (hk : IsP n k) (v : List Tn) {d : List (Tn × List Tn)} (hd : KeysP n d) : setD (cnj o k) (v.map (cnj o)) (cM o d) = cM o (setD k v d) ∧ KeysP n (setD k v d) := by
  have e : ((cM o d).map (·.1)).contains (cnj o k) = (d.map (·.1)).contains k := by
    rw [Bool.eq_iff_iff, List.contains_iff_mem, List.contains_iff_mem, List.mem_map, List.mem_map]
    constructor
    · rintro ⟨p, hp, e⟩
      obtain ⟨q, hq, rfl⟩ := List.mem_map.mp hp
      exact ⟨q, hq, cnj_inj ho (hd q hq) hk e⟩
    · rintro ⟨p, hp, e⟩
      exact ⟨_, List.mem_map.mpr ⟨p, hp, rfl⟩, by rw [← e]⟩
  unfold setD
  rw [e]
  split
  · exact ⟨rfl, hd⟩
  · refine ⟨by unfold cM; rw [List.map_append]; rfl, fun p hp => ?_⟩
    rcases List.mem_append.mp hp with z | z
    · exact hd p z
    · rw [List.mem_singleton.mp z]; exact hk
omit hn in
theorem com1_cM {lock : List Tn} (hl : AllP n lock) : com1 (lock.map (cnj o)) = cM o (com1 lock) ∧ KeysP n (com1 lock) := by
  have key : ∀ (l : List Tn) (d : List (Tn × List Tn)), AllP n l → KeysP n d →
      (l.map (cnj o)).foldl (fun d t => setD t [t] d) (cM o d) = cM o (l.foldl (fun d t => setD t [t] d) d) ∧ KeysP n (l.foldl (fun d t => setD t [t] d) d) := by
    intro l
    induction l with
    | nil => exact fun d _ hd => ⟨rfl, hd⟩
    | cons t r ih =>
      intro d hl hd
      have h := setD_cM ho (hl t List.mem_cons_self) [t] hd
      rw [List.map_cons, List.foldl_cons, List.foldl_cons]
      rw [show ([cnj o t] : List Tn) = [t].map (cnj o) from rfl, h.1]
      exact ih _ (fun x hx => hl x (List.mem_cons_of_mem _ hx)) h.2
  exact key lock [] hl fun p hp => absurd hp List.not_mem_nil
omit hn in
theorem comR_cM {t : Tn} (ht : IsP n t) (g : List Tn) : ∀ (l : List Tn) (e : List (Tn × List Tn)), AllP n l → KeysP n e →
    (l.map (cnj o)).foldl (fun e q => setD (swp (cnj o t) q) (g.map (cnj o) ++ [q]) e) (cM o e) = cM o (l.foldl (fun e q => setD (swp t q) (g ++ [q]) e) e) ∧ KeysP n (l.foldl (fun e q => setD (swp t q) (g ++ [q]) e) e)
  | [], _, _, he => ⟨rfl, he⟩
  | q :: r, e, hl, he => by
    have hq := hl q List.mem_cons_self
    have h := setD_cM ho (isP_swp ht hq) (g ++ [q]) he
    rw [List.map_cons, List.foldl_cons, List.foldl_cons, ← cnj_swp ho ht hq, show g.map (cnj o) ++ [cnj o q] = (g ++ [q]).map (cnj o) by rw [List.map_append]; rfl, h.1]
    exact comR_cM ht g r _ (fun x hx => hl x (List.mem_cons_of_mem _ hx)) h.2
omit hn in
theorem comS_cM {lock : List Tn} (hl : AllP n lock) : ∀ (d e : List (Tn × List Tn)), KeysP n d → KeysP n e →
    (cM o d).foldl (fun e tg => comR (lock.map (cnj o)) tg e) (cM o e) = cM o (d.foldl (fun e tg => comR lock tg e) e) ∧ KeysP n (d.foldl (fun e tg => comR lock tg e) e)
  | [], _, _, he => ⟨rfl, he⟩
  | tg :: d, e, hd, he => by
    have h := comR_cM ho (hd tg List.mem_cons_self) tg.2 lock e hl he
    rw [show cM o (tg :: d) = (cnj o tg.1, tg.2.map (cnj o)) :: cM o d from rfl, List.foldl_cons, List.foldl_cons]
    rw [show comR (lock.map (cnj o)) (cnj o tg.1, tg.2.map (cnj o)) (cM o e) = cM o (comR lock tg e) from h.1]
    exact comS_cM hl d _ (fun p hp => hd p (List.mem_cons_of_mem _ hp)) h.2
omit hn in
theorem com_cM {lock : List Tn} (hl : AllP n lock) : ∀ k, com (lock.map (cnj o)) k = cM o (com lock k) ∧ KeysP n (com lock k)
  | 0 => com1_cM ho hl
  | k + 1 => by
    obtain ⟨h1, h2⟩ := com_cM hl k
    unfold com comS
    rw [h1]
    exact comS_cM ho hl _ [] h2 fun p hp => absurd hp List.not_mem_nil
end
end Lk
set_option linter.all false
namespace Lk
def cC (o : Tn) (ch : Ch) : Ch := ⟨ch.given.map (cnj o), cnj o ch.turn, ch.long, ch.fin⟩
theorem setD_mem {k : Tn} {v : List Tn} {d : List (Tn × List Tn)} : ∀ p ∈ setD k v d, p ∈ d ∨ p = (k, v) := fun p hp => by
  unfold setD at hp
  split at hp
  · exact .inl hp
  · rcases List.mem_append.mp hp with z | z
    · exact .inl z
    · exact .inr (List.mem_singleton.mp z)
/-- what stands in a table of commutators -/
def ComOk (W lock : List Tn) (d : List (Tn × List Tn)) : Prop := ∀ p ∈ d, p.1 ∈ W ∧ Sub p.2 lock ∧ p.2 ≠ []
theorem comOk_setD {W lock : List Tn} {k : Tn} {v : List Tn} {d : List (Tn × List Tn)} (hd : ComOk W lock d) (hk : k ∈ W) (hv : Sub v lock) (hne : v ≠ []) : ComOk W lock (setD k v d) := fun p hp => by
  rcases setD_mem p hp with z | z
  · exact hd p z
  · rw [z]; exact ⟨hk, hv, hne⟩
theorem comOk_row {n : Nat} {W lock : List Tn} (G : Grp n W) (hs : Sub lock W) {tg : Tn × List Tn} (ht : tg.1 ∈ W) (hg : Sub tg.2 lock) : ∀ (l : List Tn) (e : List (Tn × List Tn)), Sub l lock → ComOk W lock e →
    ComOk W lock (l.foldl (fun e o => setD (swp tg.1 o) (tg.2 ++ [o]) e) e)
  | [], _, _, he => he
  | q :: r, e, hl, he => by
    have hq := hl q List.mem_cons_self
    refine comOk_row G hs ht hg r _ (fun x hx => hl x (List.mem_cons_of_mem _ hx)) (comOk_setD he (G.swp ht (hs q hq)) (fun x hx => ?_) (by simp))
    rcases List.mem_append.mp hx with z | z
    · exact hg x z
    · rw [List.mem_singleton.mp z]; exact hq
theorem comOk_com {n : Nat} {W lock : List Tn} (G : Grp n W) (hs : Sub lock W) : ∀ k, ComOk W lock (com lock k)
  | 0 => by
    have key : ∀ (l : List Tn) (d : List (Tn × List Tn)), Sub l lock → ComOk W lock d → ComOk W lock (l.foldl (fun d t => setD t [t] d) d) := by
      intro l
      induction l with
      | nil => exact fun d _ hd => hd
      | cons t r ih =>
        intro d hl hd
        have ht := hl t List.mem_cons_self
        exact ih _ (fun x hx => hl x (List.mem_cons_of_mem _ hx)) (comOk_setD hd (hs t ht) (fun x hx => by rw [List.mem_singleton.mp hx]; exact ht) (by simp))
    exact key lock [] (fun x h => h) fun p hp => absurd hp List.not_mem_nil
  | k + 1 => by
    have key : ∀ (d e : List (Tn × List Tn)), ComOk W lock d → ComOk W lock e → ComOk W lock (d.foldl (fun e tg => comR lock tg e) e) := by
      intro d
      induction d with
      | nil => exact fun e _ he => he
      | cons tg d ih =>
        intro e hd he
        have h := hd tg List.mem_cons_self
        exact ih _ (fun p hp => hd p (List.mem_cons_of_mem _ hp)) (comOk_row G hs h.1 h.2.1 lock e (fun x h => h) he)
    exact key _ [] (comOk_com G hs k) fun p hp => absurd hp List.not_mem_nil

def ChsOk (W lock : List Tn) (chs : List Ch) : Prop := ∀ ch ∈ chs, ch.turn ∈ W ∧ Sub ch.given lock ∧ ch.given ≠ []
/-- a pair (span, chains) on the way -/
structure ScOk (W lock : List Tn) (sc : List Tn × List Ch) : Prop where
  sub : Sub sc.1 W
  srt : Srt sc.1
  chs : ChsOk W lock sc.2
section
variable {n : Nat} {W lock : List Tn} (hn : n ≤ 16) (G : Grp n W)
include hn G
theorem spn_more {span : List Tn} {t : Tn} (h : Sub span W) (ht : t ∈ W) : Sub (span ++ [t]) W ∧ Sub (spn n (span ++ [t])) W ∧ Srt (spn n (span ++ [t])) := by
  have h1 : Sub (span ++ [t]) W := fun x hx => by
    rcases List.mem_append.mp hx with z | z
    · exact h x z
    · rw [List.mem_singleton.mp z]; exact ht
  exact ⟨h1, G.spn hn h1, (G.span hn h1).srt⟩
omit hn G in
theorem chsOk_snoc {chs : List Ch} {ch : Ch} (h : ChsOk W lock chs) (h1 : ch.turn ∈ W) (h2 : Sub ch.given lock) (h3 : ch.given ≠ []) : ChsOk W lock (chs ++ [ch]) := fun x hx => by
  rcases List.mem_append.mp hx with z | z
  · exact h x z
  · rw [List.mem_singleton.mp z]; exact ⟨h1, h2, h3⟩
theorem fil1_ok {p w : Nat} {term : List Tn} {sc : List Tn × List Ch} {ch : Ch} (S : ScOk W lock sc) (h1 : ch.turn ∈ W) (h2 : Sub ch.given lock) (h3 : ch.given ≠ []) : ScOk W lock (fil1 n p w term sc ch) := by
  have M := spn_more hn G S.sub (G.pwr h1 (p ^ ch.long))
  unfold fil1
  split
  · split
    · exact ⟨M.2.1, M.2.2, chsOk_snoc S.chs h1 h2 h3⟩
    · exact ⟨S.sub, S.srt, chsOk_snoc S.chs h1 h2 h3⟩
  · exact ⟨S.sub, S.srt, chsOk_snoc S.chs h1 h2 h3⟩
theorem fil2_ok {w : Nat} {term : List Tn} {sc : List Tn × List Ch} {tg : Tn × List Tn} (S : ScOk W lock sc) (h1 : tg.1 ∈ W) (h2 : Sub tg.2 lock) (h3 : tg.2 ≠ []) : ScOk W lock (fil2 n w term sc tg) := by
  have M := spn_more hn G S.sub h1
  unfold fil2
  split
  · split
    · exact ⟨M.2.1, M.2.2, chsOk_snoc S.chs h1 h2 h3⟩
    · exact S
  · exact S
theorem fold1_ok {p w : Nat} {term : List Tn} : ∀ (chs : List Ch) (sc : List Tn × List Ch), ChsOk W lock chs → ScOk W lock sc → ScOk W lock (chs.foldl (fil1 n p w term) sc)
  | [], _, _, S => S
  | ch :: r, sc, hc, S => fold1_ok r _ (fun x hx => hc x (List.mem_cons_of_mem _ hx)) (fil1_ok hn G S (hc ch List.mem_cons_self).1 (hc ch List.mem_cons_self).2.1 (hc ch List.mem_cons_self).2.2)
theorem fold2_ok {w : Nat} {term : List Tn} : ∀ (d : List (Tn × List Tn)) (sc : List Tn × List Ch), ComOk W lock d → ScOk W lock sc → ScOk W lock (d.foldl (fil2 n w term) sc)
  | [], _, _, S => S
  | tg :: r, sc, hc, S => fold2_ok r _ (fun x hx => hc x (List.mem_cons_of_mem _ hx)) (fil2_ok hn G S (hc tg List.mem_cons_self).1 (hc tg List.mem_cons_self).2.1 (hc tg List.mem_cons_self).2.2)
theorem fil_ok {p w : Nat} {term later : List Tn} {chs : List Ch} (hs : Sub lock W) (h1 : Sub later W) (h2 : Srt later) (hc : ChsOk W lock chs) : ChsOk W lock (fil n p lock w term later chs) :=
  (fold2_ok hn G _ _ (comOk_com G hs _) (fold1_ok hn G chs (later, []) hc ⟨h1, h2, fun x hx => absurd hx List.not_mem_nil⟩)).chs
theorem chn_ok {p : Nat} (hs : Sub lock W) : ∀ (terms : List (List Tn)) (w : Nat) (chs : List Ch), (∀ T ∈ terms, Sub T W ∧ Srt T) → ChsOk W lock chs → ChsOk W lock (chn n p lock w terms chs)
  | [], _, _, _, hc => hc
  | [_], _, _, _, hc => hc
  | one :: other :: r, w, chs, hT, hc => by
    have h2 := hT other (List.mem_cons_of_mem _ List.mem_cons_self)
    unfold chn
    exact chn_ok hs (other :: r) (w + 1) _ (fun T h => hT T (List.mem_cons_of_mem _ h)) (fil_ok hn G hs h2.1 h2.2 hc)
end
section
variable {n : Nat} {o : Tn} {W lock : List Tn} (hn : n ≤ 16) (ho : IsP n o) (G : Grp n W)
include hn ho G
theorem img_more {span : List Tn} {t : Tn} (h : Sub span W) : Img o (cS o span ++ [cnj o t]) (span ++ [t]) := fun x => by
  rw [List.mem_append, mem_cS hn ho (G.allP h) x, List.mem_singleton]
  constructor
  · rintro (⟨u, hu, e⟩ | e)
    · exact ⟨u, List.mem_append_left _ hu, e⟩
    · exact ⟨t, List.mem_append_right _ (List.mem_singleton.mpr rfl), e⟩
  · rintro ⟨u, hu, e⟩
    rcases List.mem_append.mp hu with z | z
    · exact .inl ⟨u, z, e⟩
    · rw [List.mem_singleton.mp z] at e; exact .inr e
theorem spn_more_cS {span : List Tn} {t : Tn} (h : Sub span W) (ht : t ∈ W) : spn n (cS o span ++ [cnj o t]) = cS o (spn n (span ++ [t])) ∧ (spn n (cS o span ++ [cnj o t])).length = (spn n (span ++ [t])).length := by
  obtain ⟨h1, h2, h3⟩ := spn_more hn G h ht
  have e := spn_cS hn ho G h1 (img_more hn ho G (t := t) h)
  exact ⟨e, by rw [e]; exact len_cS hn ho G h2 h3⟩
theorem fil1_cS {p w : Nat} {term : List Tn} {sc : List Tn × List Ch} {ch : Ch} (hT : Sub term W ∧ Srt term) (S : ScOk W lock sc) (h1 : ch.turn ∈ W) :
    fil1 n p w (cS o term) (cS o sc.1, sc.2.map (cC o)) (cC o ch) = (cS o (fil1 n p w term sc ch).1, (fil1 n p w term sc ch).2.map (cC o)) := by
  obtain ⟨e1, e2⟩ := spn_more_cS hn ho G S.sub (G.pwr h1 (p ^ ch.long))
  have e3 : pwr (cC o ch).turn (p ^ (cC o ch).long) = cnj o (pwr ch.turn (p ^ ch.long)) := pwr_cnj ho (G.isP _ h1) _
  unfold fil1
  simp only [e3, e2, len_cS hn ho G S.sub S.srt, len_cS hn ho G hT.1 hT.2]
  rw [show (cC o ch).fin = ch.fin from rfl]
  split
  · split
    · rw [e1, List.map_append]; rfl
    · rw [List.map_append]; rfl
  · rw [List.map_append]; rfl
theorem fil2_cS {w : Nat} {term : List Tn} {sc : List Tn × List Ch} {tg : Tn × List Tn} (hT : Sub term W ∧ Srt term) (S : ScOk W lock sc) (h1 : tg.1 ∈ W) :
    fil2 n w (cS o term) (cS o sc.1, sc.2.map (cC o)) (cnj o tg.1, tg.2.map (cnj o)) = (cS o (fil2 n w term sc tg).1, (fil2 n w term sc tg).2.map (cC o)) := by
  obtain ⟨e1, e2⟩ := spn_more_cS hn ho G S.sub h1
  unfold fil2
  simp only [e2, len_cS hn ho G S.sub S.srt, len_cS hn ho G hT.1 hT.2]
  split
  · split
    · rw [e1, List.map_append]; rfl
    · rfl
  · rfl
theorem fold1_cS {p w : Nat} {term : List Tn} (hT : Sub term W ∧ Srt term) : ∀ (chs : List Ch) (sc : List Tn × List Ch), ChsOk W lock chs → ScOk W lock sc →
    (chs.map (cC o)).foldl (fil1 n p w (cS o term)) (cS o sc.1, sc.2.map (cC o)) = (cS o (chs.foldl (fil1 n p w term) sc).1, (chs.foldl (fil1 n p w term) sc).2.map (cC o))
  | [], _, _, _ => rfl
  | ch :: r, sc, hc, S => by
    have h := hc ch List.mem_cons_self
    rw [List.map_cons, List.foldl_cons, List.foldl_cons, fil1_cS hn ho G hT S h.1]
    exact fold1_cS hT r _ (fun x hx => hc x (List.mem_cons_of_mem _ hx)) (fil1_ok hn G S h.1 h.2.1 h.2.2)
theorem fold2_cS {w : Nat} {term : List Tn} (hT : Sub term W ∧ Srt term) : ∀ (d : List (Tn × List Tn)) (sc : List Tn × List Ch), ComOk W lock d → ScOk W lock sc →
    (cM o d).foldl (fil2 n w (cS o term)) (cS o sc.1, sc.2.map (cC o)) = (cS o (d.foldl (fil2 n w term) sc).1, (d.foldl (fil2 n w term) sc).2.map (cC o))
  | [], _, _, _ => rfl
  | tg :: r, sc, hc, S => by
    have h := hc tg List.mem_cons_self
    rw [show cM o (tg :: r) = (cnj o tg.1, tg.2.map (cnj o)) :: cM o r from rfl, List.foldl_cons, List.foldl_cons, fil2_cS hn ho G hT S h.1]
    exact fold2_cS hT r _ (fun x hx => hc x (List.mem_cons_of_mem _ hx)) (fil2_ok hn G S h.1 h.2.1 h.2.2)
theorem fil_cS {p w : Nat} {term later : List Tn} {chs : List Ch} (hs : Sub lock W) (hT : Sub term W ∧ Srt term) (hL : Sub later W ∧ Srt later) (hc : ChsOk W lock chs) :
    fil n p (lock.map (cnj o)) w (cS o term) (cS o later) (chs.map (cC o)) = (fil n p lock w term later chs).map (cC o) := by
  have S0 : ScOk W lock (later, ([] : List Ch)) := ⟨hL.1, hL.2, fun x hx => absurd hx List.not_mem_nil⟩
  unfold fil
  rw [(com_cM ho (G.allP hs) (w - 1)).1, show ((cS o later, []) : List Tn × List Ch) = (cS o (later, ([] : List Ch)).1, (later, ([] : List Ch)).2.map (cC o)) from rfl, fold1_cS hn ho G hT chs _ hc S0,
    fold2_cS hn ho G hT _ _ (comOk_com G hs _) (fold1_ok hn G chs _ hc S0)]
theorem chn_cS {p : Nat} (hs : Sub lock W) : ∀ (terms : List (List Tn)) (w : Nat) (chs : List Ch), (∀ T ∈ terms, Sub T W ∧ Srt T) → ChsOk W lock chs →
    chn n p (lock.map (cnj o)) w (terms.map (cS o)) (chs.map (cC o)) = (chn n p lock w terms chs).map (cC o)
  | [], _, _, _, _ => rfl
  | [_], _, _, _, _ => rfl
  | one :: other :: r, w, chs, hT, hc => by
    have h1 := hT one List.mem_cons_self
    have h2 := hT other (List.mem_cons_of_mem _ List.mem_cons_self)
    rw [List.map_cons, List.map_cons, chn, chn, fil_cS hn ho G hs h1 h2 hc]
    exact chn_cS hs (other :: r) (w + 1) _ (fun T h => hT T (List.mem_cons_of_mem _ h)) (fil_ok hn G hs h2.1 h2.2 hc)
end
end Lk
set_option linter.all false
namespace Lk
/-! sums of turns: rows of numbers modulo a prime -/
abbrev Rw := List Nat
def elim1 (p : Nat) (one : Rw) (lo : Nat × Rw) : Rw := if one.getD lo.1 0 ≠ 0 then List.zipWith (fun l r => (l + (p - one.getD lo.1 0) * r) % p) one lo.2 else one
def elim (p : Nat) (found : List (Nat × Rw)) (one : Rw) : Rw := found.foldl (elim1 p) one
def lead (one : Rw) : Option Nat := one.findIdx? fun x => x != 0
def invp (p x : Nat) : Nat := ((List.range' 1 (p - 1)).filter fun k => k * x % p == 1).headD 0
def norm (p : Nat) (one : Rw) (l : Nat) : Rw := one.map fun x => invp p (one.getD l 0) * x % p
def red1 (p : Nat) (found : List (Nat × Rw)) (one : Rw) : List (Nat × Rw) := match lead (elim p found one) with
  | none => found
  | some l => found ++ [(l, norm p (elim p found one) l)]
def redF (p : Nat) (rows : List Rw) : List (Nat × Rw) := rows.foldl (red1 p) []
def reduce (p : Nat) (rows : List Rw) : List Rw := (redF p rows).map (·.2)
def tab (W : List Tn) (g : Tn) : List Nat := W.map fun t => W.idxOf (beh t g)
def mov1 (p : Nat) (mv : Rw) (sx : Nat × Nat) : Rw := mv.set sx.1 ((mv.getD sx.1 0 + sx.2) % p)
def moved (p m : Nat) (tb : List Nat) (one : Rw) : Rw := (tb.zip one).foldl (mov1 p) (List.replicate m 0)
def minus (p : Nat) (mv one : Rw) : Rw := List.zipWith (fun l r => (l + (p - r)) % p) mv one
def stepR (p : Nat) (W lock : List Tn) (rows : List Rw) : List Rw := rows.flatMap fun one => lock.map fun g => minus p (moved p W.length (tab W g) one) one
def initR (p n : Nat) (W : List Tn) : List Rw := W.flatMap fun t => if W.idxOf t ≠ W.idxOf (stl n) then [((List.replicate W.length 0).set (W.idxOf t) 1).set (W.idxOf (stl n)) (p - 1)] else []
def die (p : Nat) (W lock : List Tn) : Nat → Nat → List Rw → Option Nat
  | 0, _, _ => none
  | k + 1, many, now => if now = [] then some many else die p W lock k (many + 1) (reduce p (stepR p W lock now))

/-! what rows span -/
abbrev Fu := Tn → Int
inductive Lin (p : Nat) (D : List Tn) (S : Fu → Prop) : Fu → Prop
  | zero {f : Fu} : (∀ t ∈ D, ∃ k : Int, f t = p * k) → Lin p D S f
  | add {f g h : Fu} (a : Int) : S g → Lin p D S f → (∀ t ∈ D, ∃ k : Int, h t = a * g t + f t + p * k) → Lin p D S h
def Nul (p : Nat) (D : List Tn) (f : Fu) : Prop := ∀ t ∈ D, ∃ k : Int, f t = p * k
section
variable {p : Nat} {D : List Tn} {S T : Fu → Prop}
theorem Lin.congr {f h : Fu} (hf : Lin p D S f) (e : ∀ t ∈ D, ∃ k : Int, h t = f t + p * k) : Lin p D S h := by
  cases hf with
  | zero z =>
    refine .zero fun t ht => ?_
    obtain ⟨k, hk⟩ := z t ht
    obtain ⟨j, hj⟩ := e t ht
    exact ⟨k + j, by rw [hj, hk, Int.mul_add]⟩
  | add a hs hf' z =>
    refine .add a hs hf' fun t ht => ?_
    obtain ⟨k, hk⟩ := z t ht
    obtain ⟨j, hj⟩ := e t ht
    exact ⟨k + j, by rw [hj, hk, Int.mul_add, Int.add_assoc]⟩
theorem Lin.comb {f g : Fu} (hf : Lin p D S f) (hg : Lin p D S g) (a : Int) : ∀ h : Fu, (∀ t ∈ D, ∃ k : Int, h t = a * f t + g t + p * k) → Lin p D S h := by
  induction hf with
  | zero z =>
    intro h e
    refine hg.congr fun t ht => ?_
    obtain ⟨k, hk⟩ := z t ht
    obtain ⟨j, hj⟩ := e t ht
    exact ⟨a * k + j, by rw [hj, hk, Int.mul_add]; grind⟩
  | @add f0 g0 h0 b hs hf' z ih =>
    intro h e
    refine .add (a * b) hs (ih (fun t => a * f0 t + g t) fun t ht => ⟨0, by grind⟩) fun t ht => ?_
    obtain ⟨k, hk⟩ := z t ht
    obtain ⟨j, hj⟩ := e t ht
    exact ⟨a * k + j, by rw [hj, hk]; grind⟩
theorem Lin.of {g : Fu} (h : S g) : Lin p D S g := .add 1 h (.zero (f := fun _ => 0) fun t _ => ⟨0, by simp⟩) fun t _ => ⟨0, by simp⟩
theorem Lin.trans (hs : ∀ g, S g → Lin p D T g) {f : Fu} (hf : Lin p D S f) : Lin p D T f := by
  induction hf with
  | zero z => exact .zero z
  | add a h _ z ih => exact (hs _ h).comb ih a _ z
theorem Lin.scale {f h : Fu} (hf : Lin p D S f) (a : Int) (e : ∀ t ∈ D, ∃ k : Int, h t = a * f t + p * k) : Lin p D S h :=
  hf.comb (.zero (f := fun _ => 0) fun t _ => ⟨0, by simp⟩) a h fun t ht => by
    obtain ⟨k, hk⟩ := e t ht
    exact ⟨k, by rw [hk, Int.add_zero]⟩
theorem Lin.nul (hs : ∀ g, S g → Nul p D g) {f : Fu} (hf : Lin p D S f) : Nul p D f := by
  induction hf with
  | zero z => exact z
  | add a h _ z ih =>
    intro t ht
    obtain ⟨k, hk⟩ := z t ht
    obtain ⟨i, hi⟩ := hs _ h t ht
    obtain ⟨j, hj⟩ := ih t ht
    exact ⟨a * i + j + k, by rw [hk, hi, hj]; grind⟩
end
/-- places of the turns of D in rows of m numbers -/
structure Lab (D : List Tn) (m : Nat) (ix : Tn → Nat) : Prop where
  lt : ∀ t ∈ D, ix t < m
  inj : ∀ t ∈ D, ∀ u ∈ D, ix t = ix u → t = u
  sur : ∀ i, i < m → ∃ t ∈ D, ix t = i
def vec (ix : Tn → Nat) (row : Rw) : Fu := fun t => (row.getD (ix t) 0 : Int)
structure RowOk (p m : Nat) (row : Rw) : Prop where
  len : row.length = m
  lt : ∀ x ∈ row, x < p
theorem getD_zip {f : Nat → Nat → Nat} {a b : Rw} {i : Nat} (h : a.length = b.length) (hi : i < a.length) : (List.zipWith f a b).getD i 0 = f (a.getD i 0) (b.getD i 0) := by
  rw [getD_lt hi, getD_lt (show i < b.length by omega), getD_lt (by rw [List.length_zipWith]; omega), List.getElem_zipWith]
theorem rowOk_zip {p m : Nat} {f : Nat → Nat → Nat} {a b : Rw} (hf : ∀ x y, f x y < p) (ha : a.length = m) (hb : b.length = m) : RowOk p m (List.zipWith f a b) := by
  refine ⟨by rw [List.length_zipWith, ha, hb, Nat.min_self], fun x hx => ?_⟩
  obtain ⟨i, hi, rfl⟩ := List.getElem_of_mem hx
  rw [List.getElem_zipWith]
  exact hf _ _
theorem mod_cong (x p : Nat) : ∃ k : Int, ((x % p : Nat) : Int) = (x : Int) + p * k := by
  refine ⟨-((x / p : Nat) : Int), ?_⟩
  have h := Nat.mod_add_div x p
  have h2 : (x : Int) = ((x % p : Nat) : Int) + (p : Int) * ((x / p : Nat) : Int) := by
    rw [← Int.natCast_mul, ← Int.natCast_add, h]
  rw [h2, Int.mul_neg]; omega
section
variable {p m : Nat} {D : List Tn} {ix : Tn → Nat}
def Sf (ix : Tn → Nat) (found : List (Nat × Rw)) : Fu → Prop := fun g => ∃ lo ∈ found, g = vec ix lo.2
def Sr (ix : Tn → Nat) (rows : List Rw) : Fu → Prop := fun g => ∃ r ∈ rows, g = vec ix r
def FouOk (p m : Nat) (found : List (Nat × Rw)) : Prop := ∀ lo ∈ found, RowOk p m lo.2 ∧ lo.1 < m ∧ ¬ p ∣ lo.2.getD lo.1 0
theorem elim1_ok (hp : 0 < p) (L : Lab D m ix) {one : Rw} {lo : Nat × Rw} (h1 : RowOk p m one) (h2 : RowOk p m lo.2) :
    RowOk p m (elim1 p one lo) ∧ ∃ a : Int, ∀ t ∈ D, ∃ k : Int, vec ix (elim1 p one lo) t = vec ix one t + a * vec ix lo.2 t + p * k := by
  unfold elim1
  split
  · refine ⟨rowOk_zip (fun x y => Nat.mod_lt _ hp) h1.len h2.len, ((p - one.getD lo.1 0 : Nat) : Int), fun t ht => ?_⟩
    have hi := L.lt t ht
    unfold vec
    rw [getD_zip (by rw [h1.len, h2.len]) (by rw [h1.len]; exact hi)]
    obtain ⟨k, hk⟩ := mod_cong (one.getD (ix t) 0 + (p - one.getD lo.1 0) * lo.2.getD (ix t) 0) p
    exact ⟨k, by rw [hk, Int.natCast_add, Int.natCast_mul]⟩
  · exact ⟨h1, 0, fun t _ => ⟨0, by simp⟩⟩
theorem elim_ok (hp : 0 < p) (L : Lab D m ix) {F : List (Nat × Rw)} : ∀ (found : List (Nat × Rw)) (one : Rw), (∀ lo ∈ found, lo ∈ F) → FouOk p m found → RowOk p m one →
    RowOk p m (elim p found one) ∧ ∃ f : Fu, Lin p D (Sf ix F) f ∧ ∀ t ∈ D, ∃ k : Int, vec ix (elim p found one) t = vec ix one t + f t + p * k
  | [], one, _, _, h => ⟨h, fun _ => 0, .zero fun t _ => ⟨0, by simp⟩, fun t _ => ⟨0, by simp [elim]⟩⟩
  | lo :: r, one, hs, hF, h => by
    have hlo := hF lo List.mem_cons_self
    obtain ⟨h1, a, ha⟩ := elim1_ok hp L h hlo.1
    obtain ⟨h2, f, hf, e⟩ := elim_ok hp L r (elim1 p one lo) (fun x hx => hs x (List.mem_cons_of_mem _ hx)) (fun x hx => hF x (List.mem_cons_of_mem _ hx)) h1
    refine ⟨h2, fun t => a * vec ix lo.2 t + f t, .add a ⟨lo, hs lo List.mem_cons_self, rfl⟩ hf (fun t _ => ⟨0, by simp⟩), fun t ht => ?_⟩
    obtain ⟨k, hk⟩ := ha t ht
    obtain ⟨j, hj⟩ := e t ht
    refine ⟨k + j, ?_⟩
    show vec ix (elim p r (elim1 p one lo)) t = _
    rw [hj, hk]; grind
theorem lead_none {one : Rw} (h : lead one = none) : ∀ i, one.getD i 0 = 0 := fun i => by
  rw [lead, List.findIdx?_eq_none_iff] at h
  by_cases hi : i < one.length
  · have := h _ (getD_mem hi)
    simpa using this
  · rw [List.getD_eq_getElem?_getD, List.getElem?_eq_none (by omega)]; rfl
theorem lead_some {one : Rw} {l : Nat} (h : lead one = some l) : l < one.length ∧ one.getD l 0 ≠ 0 := by
  rw [lead, List.findIdx?_eq_some_iff_getElem] at h
  obtain ⟨h1, h2, _⟩ := h
  refine ⟨h1, ?_⟩
  rw [getD_lt h1]
  simpa using h2
/-- the primes that come -/
def PrOk (p : Nat) : Prop := p = 2 ∨ p = 3
theorem PrOk.pos (hp : PrOk p) : 1 < p := by rcases hp with rfl | rfl <;> decide
theorem invp_ok (hp : PrOk p) {x : Nat} (h0 : x ≠ 0) (hx : x < p) : invp p x * x % p = 1 ∧ (((List.range' 1 (p - 1)).filter fun k => k * x % p == 1).head? = some (invp p x)) := by
  rcases hp with rfl | rfl
  · have : x = 1 := by omega
    subst this; decide
  · have : x = 1 ∨ x = 2 := by omega
    rcases this with rfl | rfl <;> decide
theorem red1_ok (hp : PrOk p) (L : Lab D m ix) {found : List (Nat × Rw)} {one : Rw} (hF : FouOk p m found) (h : RowOk p m one) :
    FouOk p m (red1 p found one) ∧ (∀ f, Lin p D (Sf ix (red1 p found one)) f ↔ Lin p D (fun g => Sf ix found g ∨ g = vec ix one) f) := by
  have hp0 : 0 < p := Nat.lt_trans Nat.zero_lt_one hp.pos
  obtain ⟨h1, f, hf, e⟩ := elim_ok hp0 L (F := found) found one (fun _ h => h) hF h
  have hf' : Lin p D (fun g => Sf ix found g ∨ g = vec ix one) f := hf.trans fun g hg => .of (.inl hg)
  unfold red1
  cases hl : lead (elim p found one) with
  | none =>
    refine ⟨hF, fun q => ⟨fun hq => hq.trans fun g hg => .of (.inl hg), fun hq => hq.trans fun g hg => ?_⟩⟩
    rcases hg with hg | rfl
    · exact .of hg
    · refine hf.scale (-1) fun t ht => ?_
      obtain ⟨k, hk⟩ := e t ht
      have z : vec ix (elim p found one) t = 0 := by unfold vec; rw [lead_none hl]; rfl
      rw [z] at hk
      exact ⟨-k, by grind⟩
  | some l =>
    obtain ⟨hl1, hl2⟩ := lead_some hl
    have hx := h1.lt _ (getD_mem hl1)
    obtain ⟨hi, _⟩ := invp_ok hp hl2 hx
    have hg : ∀ i, i < m → (norm p (elim p found one) l).getD i 0 = invp p ((elim p found one).getD l 0) * (elim p found one).getD i 0 % p := fun i hi => by
      have hi' : i < (elim p found one).length := by rw [h1.len]; exact hi
      rw [getD_lt (by unfold norm; rw [List.length_map]; exact hi'), getD_lt hi']
      unfold norm
      rw [List.getElem_map]
    have hlm : l < m := by rw [← h1.len]; exact hl1
    have hn : RowOk p m (norm p (elim p found one) l) := ⟨by unfold norm; rw [List.length_map, h1.len], fun x hx => by
      obtain ⟨y, _, e⟩ := List.mem_map.mp hx
      rw [← e]; exact Nat.mod_lt _ hp0⟩
    have hv : ∀ t ∈ D, ∃ k : Int, vec ix (norm p (elim p found one) l) t = (invp p ((elim p found one).getD l 0) : Int) * vec ix (elim p found one) t + p * k := fun t ht => by
      unfold vec
      rw [hg _ (L.lt t ht)]
      obtain ⟨k, hk⟩ := mod_cong (invp p ((elim p found one).getD l 0) * (elim p found one).getD (ix t) 0) p
      exact ⟨k, by rw [hk, Int.natCast_mul]⟩
    refine ⟨fun lo hlo => ?_, fun q => ⟨fun hq => hq.trans fun g hg' => ?_, fun hq => hq.trans fun g hg' => ?_⟩⟩
    · rcases List.mem_append.mp hlo with z | z
      · exact hF lo z
      · rw [List.mem_singleton.mp z]
        refine ⟨hn, hlm, ?_⟩
        show ¬ p ∣ (norm p (elim p found one) l).getD l 0
        rw [hg l hlm, hi]
        intro hd
        have := Nat.le_of_dvd Nat.zero_lt_one hd
        have := hp.pos
        omega
    · obtain ⟨lo, hlo, rfl⟩ := hg'
      rcases List.mem_append.mp hlo with z | z
      · exact .of (.inl ⟨lo, z, rfl⟩)
      · rw [List.mem_singleton.mp z]
        refine Lin.comb (.of (.inr rfl)) (hf'.scale (h := fun t => (invp p ((elim p found one).getD l 0) : Int) * f t) (invp p ((elim p found one).getD l 0)) fun t _ => ⟨0, by simp⟩) (invp p ((elim p found one).getD l 0)) _ fun t ht => ?_
        obtain ⟨k, hk⟩ := hv t ht
        obtain ⟨j, hj⟩ := e t ht
        refine ⟨(invp p ((elim p found one).getD l 0) : Int) * j + k, ?_⟩
        show vec ix (norm p (elim p found one) l) t = _
        rw [hk, hj]; grind
    · have hnew : Lin p D (Sf ix (found ++ [(l, norm p (elim p found one) l)])) (vec ix (norm p (elim p found one) l)) := .of ⟨_, List.mem_append_right _ (List.mem_singleton.mpr rfl), rfl⟩
      have hold : ∀ g, Sf ix found g → Lin p D (Sf ix (found ++ [(l, norm p (elim p found one) l)])) g := fun g ⟨lo, hlo, e⟩ => .of ⟨lo, List.mem_append_left _ hlo, e⟩
      rcases hg' with hg' | rfl
      · exact hold g hg'
      · refine Lin.comb hnew ((hf.trans hold).scale (h := fun t => - f t) (-1) fun t _ => ⟨0, by grind⟩) ((elim p found one).getD l 0 : Int) _ fun t ht => ?_
        obtain ⟨k, hk⟩ := hv t ht
        obtain ⟨j, hj⟩ := e t ht
        obtain ⟨i, hi'⟩ : ∃ i : Int, (invp p ((elim p found one).getD l 0) : Int) * ((elim p found one).getD l 0 : Int) = 1 + p * i := by
          obtain ⟨i, hi2⟩ := mod_cong (invp p ((elim p found one).getD l 0) * (elim p found one).getD l 0) p
          rw [hi, Int.natCast_mul] at hi2
          exact ⟨-i, by grind⟩
        refine ⟨-(((elim p found one).getD l 0 : Int) * k) - i * vec ix (elim p found one) t - j, ?_⟩
        rw [hk]
        have e1 : vec ix one t = vec ix (elim p found one) t - f t - p * j := by rw [hj]; grind
        rw [e1]
        generalize vec ix (elim p found one) t = V at *
        generalize ((elim p found one).getD l 0 : Int) = X at *
        generalize (invp p ((elim p found one).getD l 0) : Int) = Y at *
        grind
end
end Lk
set_option linter.all false
namespace Lk
section
variable {p m : Nat} {D : List Tn} {ix : Tn → Nat}
theorem Lin.iff_of {S T : Fu → Prop} (h1 : ∀ g, S g → Lin p D T g) (h2 : ∀ g, T g → Lin p D S g) (f : Fu) : Lin p D S f ↔ Lin p D T f := ⟨fun h => h.trans h1, fun h => h.trans h2⟩
theorem redF_ok (hp : PrOk p) (L : Lab D m ix) : ∀ (rows : List Rw) (F0 : List (Nat × Rw)), FouOk p m F0 → (∀ r ∈ rows, RowOk p m r) →
    FouOk p m (rows.foldl (red1 p) F0) ∧ ∀ f, Lin p D (Sf ix (rows.foldl (red1 p) F0)) f ↔ Lin p D (fun g => Sf ix F0 g ∨ Sr ix rows g) f
  | [], F0, hF, _ => ⟨hF, Lin.iff_of (fun g hg => .of (.inl hg)) fun g hg => by
    rcases hg with hg | ⟨r, hr, _⟩
    · exact .of hg
    · exact absurd hr List.not_mem_nil⟩
  | one :: rows, F0, hF, hR => by
    obtain ⟨h1, h2⟩ := red1_ok hp L hF (hR one List.mem_cons_self)
    obtain ⟨h3, h4⟩ := redF_ok hp L rows (red1 p F0 one) h1 fun r hr => hR r (List.mem_cons_of_mem _ hr)
    refine ⟨h3, fun f => (h4 f).trans (Lin.iff_of (fun g hg => ?_) (fun g hg => ?_) f)⟩
    · rcases hg with hg | ⟨r, hr, e⟩
      · refine ((h2 g).mp (.of hg)).trans fun g' hg' => ?_
        rcases hg' with z | z
        · exact .of (.inl z)
        · exact .of (.inr ⟨one, List.mem_cons_self, z⟩)
      · exact .of (.inr ⟨r, List.mem_cons_of_mem _ hr, e⟩)
    · rcases hg with hg | ⟨r, hr, e⟩
      · exact ((h2 g).mpr (.of (.inl hg))).trans fun g' hg' => .of (.inl hg')
      · rcases List.mem_cons.mp hr with z | z
        · rw [z] at e
          exact ((h2 g).mpr (.of (.inr e))).trans fun g' hg' => .of (.inl hg')
        · exact .of (.inr ⟨r, z, e⟩)
theorem reduce_ok (hp : PrOk p) (L : Lab D m ix) {rows : List Rw} (hR : ∀ r ∈ rows, RowOk p m r) :
    (∀ r ∈ reduce p rows, RowOk p m r) ∧ (∀ f, Lin p D (Sr ix (reduce p rows)) f ↔ Lin p D (Sr ix rows) f) ∧ (reduce p rows = [] ↔ ∀ f, Lin p D (Sr ix rows) f → Nul p D f) := by
  obtain ⟨h1, h2⟩ := redF_ok hp L rows [] (fun lo hlo => absurd hlo List.not_mem_nil) hR
  have h3 : ∀ f, Lin p D (Sr ix (reduce p rows)) f ↔ Lin p D (Sf ix (redF p rows)) f := Lin.iff_of (fun g ⟨r, hr, e⟩ => by
      obtain ⟨lo, hlo, e2⟩ := List.mem_map.mp hr
      exact .of ⟨lo, hlo, by rw [e2]; exact e⟩) fun g ⟨lo, hlo, e⟩ => .of ⟨lo.2, List.mem_map.mpr ⟨lo, hlo, rfl⟩, e⟩
  have h4 : ∀ f, Lin p D (Sr ix (reduce p rows)) f ↔ Lin p D (Sr ix rows) f := fun f => (h3 f).trans ((h2 f).trans (Lin.iff_of (fun g hg => by
      rcases hg with ⟨lo, hlo, _⟩ | hg
      · exact absurd hlo List.not_mem_nil
      · exact .of hg) (fun g hg => .of (.inr hg)) f))
  refine ⟨fun r hr => ?_, h4, fun e f hf => ?_, fun h => ?_⟩
  · obtain ⟨lo, hlo, e2⟩ := List.mem_map.mp hr
    rw [← e2]; exact (h1 lo hlo).1
  · have := (h4 f).mpr hf
    rw [e] at this
    exact this.nul fun g ⟨r, hr, _⟩ => absurd hr List.not_mem_nil
  · cases e : redF p rows with
    | nil => unfold reduce; rw [e]; rfl
    | cons lo r =>
      have hlo : lo ∈ redF p rows := by rw [e]; exact List.mem_cons_self
      obtain ⟨k1, k2, k3⟩ := h1 lo hlo
      have hq := h _ ((h4 _).mp ((h3 (vec ix lo.2)).mpr (.of ⟨lo, hlo, rfl⟩)))
      obtain ⟨t, ht, et⟩ := L.sur _ k2
      obtain ⟨k, hk⟩ := hq t ht
      unfold vec at hk
      rw [et] at hk
      exact absurd (Int.natCast_dvd_natCast.mp ⟨k, hk⟩) k3
end

/-! one step: rows moved by a turn, less themselves -/
theorem getD_set {l : List Nat} {i j x : Nat} (hi : i < l.length) : (l.set i x).getD j 0 = if j = i then x else l.getD j 0 := by
  rw [List.getD_eq_getElem?_getD, List.getElem?_set, List.getD_eq_getElem?_getD]
  by_cases e : i = j
  · subst e; rw [if_pos rfl, if_pos rfl, if_pos hi]; rfl
  · rw [if_neg e, if_neg fun q => e q.symm]
theorem mov_fold {p : Nat} : ∀ (tb : List Nat) (one mv : Rw), tb.Nodup → (∀ s ∈ tb, s < mv.length) →
    ((tb.zip one).foldl (mov1 p) mv).length = mv.length ∧ (∀ s, s ∉ tb → ((tb.zip one).foldl (mov1 p) mv).getD s 0 = mv.getD s 0) ∧
    ∀ i, i < tb.length → i < one.length → ((tb.zip one).foldl (mov1 p) mv).getD (tb.getD i 0) 0 = (mv.getD (tb.getD i 0) 0 + one.getD i 0) % p
  | [], one, mv, _, _ => ⟨rfl, fun _ _ => rfl, fun i hi => absurd hi (Nat.not_lt_zero _)⟩
  | s :: tb, [], mv, _, _ => ⟨rfl, fun _ _ => rfl, fun i _ hi => absurd hi (Nat.not_lt_zero _)⟩
  | s :: tb, x :: one, mv, hn, hl => by
    have hn' := List.nodup_cons.mp hn
    have hs := hl s List.mem_cons_self
    obtain ⟨h1, h2, h3⟩ := mov_fold (p := p) tb one (mov1 p mv (s, x)) hn'.2 fun q hq => by
      unfold mov1; rw [List.length_set]; exact hl q (List.mem_cons_of_mem _ hq)
    have hg : ∀ j, (mov1 p mv (s, x)).getD j 0 = if j = s then (mv.getD s 0 + x) % p else mv.getD j 0 := fun j => getD_set hs
    rw [List.zip_cons_cons, List.foldl_cons]
    refine ⟨by rw [h1]; unfold mov1; rw [List.length_set], fun q hq => ?_, fun i hi1 hi2 => ?_⟩
    · rw [h2 q fun z => hq (List.mem_cons_of_mem _ z), hg, if_neg fun e : q = s => hq (e ▸ List.mem_cons_self)]
    · cases i with
      | zero =>
        show ((tb.zip one).foldl (mov1 p) (mov1 p mv (s, x))).getD s 0 = _
        rw [h2 s hn'.1, hg, if_pos rfl]; rfl
      | succ i =>
        have hi1' : i < tb.length := by simpa using hi1
        show ((tb.zip one).foldl (mov1 p) (mov1 p mv (s, x))).getD (tb.getD i 0) 0 = (mv.getD (tb.getD i 0) 0 + one.getD i 0) % p
        rw [h3 i hi1' (by simpa using hi2), hg, if_neg fun e : tb.getD i 0 = s => hn'.1 (e ▸ getD_mem hi1')]
theorem idxT {W : List Tn} {t : Tn} (h : t ∈ W) : W.idxOf t < W.length := List.idxOf_lt_length_of_mem h
theorem idxT_get {W : List Tn} {t : Tn} (h : t ∈ W) : W[W.idxOf t]'(idxT h) = t := List.getElem_idxOf (idxT h)
theorem idxT_inj {W : List Tn} {t u : Tn} (h : t ∈ W) (e : W.idxOf t = W.idxOf u) : t = u := by
  have hu : W.idxOf u < W.length := by rw [← e]; exact idxT h
  have h1 := idxT_get h
  have h2 := List.getElem_idxOf hu
  rw [← h1, ← h2]
  congr 1
theorem idxT_of {W : List Tn} (hd : W.Nodup) {i : Nat} (hi : i < W.length) : W.idxOf W[i] = i := by
  have hm : W[i] ∈ W := List.getElem_mem hi
  have h1 := idxT_get hm
  have key := List.pairwise_iff_getElem.mp hd
  rcases Nat.lt_trichotomy (W.idxOf W[i]) i with z | z | z
  · exact absurd h1 (key _ _ (idxT hm) hi z)
  · exact z
  · exact absurd h1.symm (key _ _ hi (idxT hm) z)

section
variable {n : Nat} {o : Tn} {W lock : List Tn} {p : Nat}
/-- the place of a turn when places are called otherwise -/
def ixo (o : Tn) (W : List Tn) : Tn → Nat := fun t => (cS o W).idxOf (cnj o t)
variable (hn : n ≤ 16) (ho : IsP n o) (G : Grp n W)
include hn ho G
theorem lab_ixo : Lab W W.length (ixo o W) := by
  have M := mem_cS hn ho G.isP
  have hl : (cS o W).length = W.length := len_cS hn ho G (fun t h => h) G.srt
  refine ⟨fun t ht => ?_, fun t ht u hu e => ?_, fun i hi => ?_⟩
  · rw [← hl]; exact idxT ((M _).mpr ⟨t, ht, rfl⟩)
  · exact cnj_inj ho (G.isP t ht) (G.isP u hu) (idxT_inj ((M _).mpr ⟨t, ht, rfl⟩) e)
  · have hi' : i < (cS o W).length := by rw [hl]; exact hi
    obtain ⟨t, ht, e⟩ := (M _).mp (List.getElem_mem hi')
    refine ⟨t, ht, ?_⟩
    unfold ixo
    rw [← e, idxT_of (grp_cS hn ho G).srt.nodup hi']
theorem tab_get {g t : Tn} (hg : g ∈ W) (ht : t ∈ W) : (tab (cS o W) (cnj o g)).getD (ixo o W t) 0 = ixo o W (beh t g) ∧ (tab (cS o W) (cnj o g)).length = W.length := by
  have M := mem_cS hn ho G.isP
  have hl : (cS o W).length = W.length := len_cS hn ho G (fun t h => h) G.srt
  have hm : cnj o t ∈ cS o W := (M _).mpr ⟨t, ht, rfl⟩
  have hlt := idxT hm
  refine ⟨?_, by unfold tab; rw [List.length_map, hl]⟩
  rw [getD_lt (show ixo o W t < _ by unfold tab; rw [List.length_map]; exact hlt)]
  unfold tab
  rw [List.getElem_map]
  show (cS o W).idxOf (beh ((cS o W)[(cS o W).idxOf (cnj o t)]'hlt) (cnj o g)) = _
  rw [idxT_get hm, ← cnj_beh ho (G.isP t ht) (G.isP g hg)]
  rfl
theorem tab_nodup {g : Tn} (hg : g ∈ W) : (tab (cS o W) (cnj o g)).Nodup ∧ ∀ s ∈ tab (cS o W) (cnj o g), s < W.length := by
  have L := lab_ixo hn ho G
  have hl : (tab (cS o W) (cnj o g)).length = W.length := (tab_get hn ho G hg G.zero).2
  have key : ∀ i, i < W.length → ∃ t ∈ W, ixo o W t = i ∧ (tab (cS o W) (cnj o g)).getD i 0 = ixo o W (beh t g) := fun i hi => by
    obtain ⟨t, ht, e⟩ := L.sur i hi
    exact ⟨t, ht, e, by rw [← e]; exact (tab_get hn ho G hg ht).1⟩
  have inj : ∀ i j, i < W.length → j < W.length → (tab (cS o W) (cnj o g)).getD i 0 = (tab (cS o W) (cnj o g)).getD j 0 → i = j := fun i j hi hj e => by
    obtain ⟨t, ht, e1, e2⟩ := key i hi
    obtain ⟨u, hu, e3, e4⟩ := key j hj
    rw [e2, e4] at e
    have e5 := L.inj _ (G.mul t ht g hg) _ (G.mul u hu g hg) e
    have e6 : t = u := by
      have pt := G.isP t ht
      have pu := G.isP u hu
      have pg := G.isP g hg
      rw [← beh_stl pt, ← beh_bck pg, ← beh_assoc pt pg (isP_bck pg), e5, beh_assoc pu pg (isP_bck pg), beh_bck pg, beh_stl pu]
    rw [← e1, ← e3, e6]
  refine ⟨List.pairwise_iff_getElem.mpr fun i j hi hj hij e => ?_, fun s hs => ?_⟩
  · have := inj i j (by omega) (by omega) (by rw [getD_lt hi, getD_lt hj]; exact e)
    omega
  · obtain ⟨i, hi, e⟩ := List.getElem_of_mem hs
    obtain ⟨t, ht, e1, e2⟩ := key i (by omega)
    rw [← e, ← getD_lt hi, e2]
    exact L.lt _ (G.mul t ht g hg)
theorem step_vec (hp : 0 < p) {g : Tn} (hg : g ∈ W) {one : Rw} (h1 : RowOk p W.length one) :
    RowOk p W.length (minus p (moved p (cS o W).length (tab (cS o W) (cnj o g)) one) one) ∧
    ∀ t ∈ W, ∃ k : Int, vec (ixo o W) (minus p (moved p (cS o W).length (tab (cS o W) (cnj o g)) one) one) t = vec (ixo o W) one (beh t (bck g)) - vec (ixo o W) one t + p * k := by
  have L := lab_ixo hn ho G
  have hl : (cS o W).length = W.length := len_cS hn ho G (fun t h => h) G.srt
  obtain ⟨hnd, hlt⟩ := tab_nodup hn ho G hg
  have htl : (tab (cS o W) (cnj o g)).length = W.length := (tab_get hn ho G hg G.zero).2
  obtain ⟨k1, _, k3⟩ := mov_fold (p := p) (tab (cS o W) (cnj o g)) one (List.replicate (cS o W).length 0) hnd fun s hs => by rw [List.length_replicate, hl]; exact hlt s hs
  rw [List.length_replicate, hl] at k1
  have hm : (moved p (cS o W).length (tab (cS o W) (cnj o g)) one).length = W.length := by unfold moved; rw [hl]; exact k1
  refine ⟨rowOk_zip (fun x y => Nat.mod_lt _ hp) hm h1.len, fun t ht => ?_⟩
  have pt := G.isP t ht
  have pg := G.isP g hg
  have hs := G.mul t ht _ (G.inv g hg)
  have es : beh (beh t (bck g)) g = t := by rw [beh_assoc pt (isP_bck pg) pg, bck_beh pg, beh_stl pt]
  have e1 := (tab_get hn ho G hg hs).1
  rw [es] at e1
  have hi := L.lt _ hs
  have e2 := k3 (ixo o W (beh t (bck g))) (by omega) (by rw [h1.len]; exact hi)
  rw [e1] at e2
  have e0 : (List.replicate (cS o W).length 0).getD (ixo o W t) 0 = 0 := by
    rw [getD_lt (by rw [List.length_replicate, hl]; exact L.lt t ht), List.getElem_replicate]
  have hlt2 : one.getD (ixo o W (beh t (bck g))) 0 < p := h1.lt _ (getD_mem (by rw [h1.len]; exact hi))
  rw [e0, Nat.zero_add, Nat.mod_eq_of_lt hlt2] at e2
  have hlt3 : one.getD (ixo o W t) 0 < p := h1.lt _ (getD_mem (by rw [h1.len]; exact L.lt t ht))
  unfold vec minus
  rw [getD_zip (by rw [hm, h1.len]) (by rw [hm]; exact L.lt t ht)]
  rw [show (moved p (cS o W).length (tab (cS o W) (cnj o g)) one).getD (ixo o W t) 0 = one.getD (ixo o W (beh t (bck g))) 0 from e2]
  obtain ⟨k, hk⟩ := mod_cong (one.getD (ixo o W (beh t (bck g))) 0 + (p - one.getD (ixo o W t) 0)) p
  refine ⟨k + 1, ?_⟩
  rw [hk, Int.natCast_add, Int.natCast_sub (Nat.le_of_lt hlt3), Int.mul_add]
  omega
end

/-! the powers of the sums that come to nothing -/
def mvF (g : Tn) (f : Fu) : Fu := fun t => f (beh t (bck g)) - f t
def gen0 (n : Nat) (W : List Tn) : Fu → Prop := fun f => ∃ t ∈ W, t ≠ stl n ∧ f = fun u => if u = stl n then -1 else if u = t then 1 else 0
def Idl (p n : Nat) (W lock : List Tn) : Nat → Fu → Prop
  | 0 => Lin p W (gen0 n W)
  | k + 1 => Lin p W fun h => ∃ f, Idl p n W lock k f ∧ ∃ g ∈ lock, h = mvF g f
section
variable {n : Nat} {o : Tn} {W lock : List Tn} {p : Nat} (hn : n ≤ 16) (ho : IsP n o) (G : Grp n W) (hs : Sub lock W) (hp : PrOk p)
include hn ho G hp
theorem init_ok : (∀ r ∈ initR p n (cS o W), RowOk p W.length r) ∧ ∀ f, Lin p W (Sr (ixo o W) (initR p n (cS o W))) f ↔ Idl p n W lock 0 f := by
  have L := lab_ixo hn ho G
  have M := mem_cS hn ho G.isP
  have hl : (cS o W).length = W.length := len_cS hn ho G (fun t h => h) G.srt
  have hz : (cS o W).idxOf (stl n) = ixo o W (stl n) := by unfold ixo; rw [cnj_stl ho]
  have hzl := L.lt _ G.zero
  have p1 := hp.pos
  let row : Tn → Rw := fun t => ((List.replicate W.length 0).set (ixo o W t) 1).set (ixo o W (stl n)) (p - 1)
  have mem : ∀ r, r ∈ initR p n (cS o W) ↔ ∃ t ∈ W, t ≠ stl n ∧ r = row t := fun r => by
    unfold initR
    rw [List.mem_flatMap]
    constructor
    · rintro ⟨x, hx, hr⟩
      obtain ⟨t, ht, rfl⟩ := (M x).mp hx
      split at hr
      · rename_i hne
        rw [List.mem_singleton, hl, hz] at hr
        exact ⟨t, ht, fun e => hne (by rw [e, cnj_stl ho]), hr⟩
      · exact absurd hr List.not_mem_nil
    · rintro ⟨t, ht, hne, rfl⟩
      refine ⟨cnj o t, (M _).mpr ⟨t, ht, rfl⟩, ?_⟩
      rw [if_pos fun e => hne (L.inj t ht _ G.zero (by rw [← hz]; exact e)), List.mem_singleton, hl, hz]
      rfl
  have rlen : ∀ t, (row t).length = W.length := fun t => by
    show (((List.replicate W.length 0).set (ixo o W t) 1).set (ixo o W (stl n)) (p - 1)).length = _
    rw [List.length_set, List.length_set, List.length_replicate]
  have rget : ∀ t ∈ W, ∀ j, (row t).getD j 0 = if j = ixo o W (stl n) then p - 1 else if j = ixo o W t then 1 else 0 := fun t ht j => by
    show (((List.replicate W.length 0).set (ixo o W t) 1).set (ixo o W (stl n)) (p - 1)).getD j 0 = _
    rw [getD_set (by rw [List.length_set, List.length_replicate]; exact hzl), getD_set (by rw [List.length_replicate]; exact L.lt t ht)]
    have e0 : (List.replicate W.length 0).getD j 0 = 0 := by
      rw [List.getD_eq_getElem?_getD, List.getElem?_replicate]
      split <;> rfl
    rw [e0]
  have rok : ∀ t ∈ W, RowOk p W.length (row t) := fun t ht => by
    refine ⟨rlen t, fun x hx => ?_⟩
    obtain ⟨i, hi, e⟩ := List.getElem_of_mem hx
    rw [← e, ← getD_lt hi, rget t ht]
    split
    · omega
    · split <;> omega
  have rvec : ∀ t ∈ W, t ≠ stl n → ∀ u ∈ W, ∃ k : Int, vec (ixo o W) (row t) u = (if u = stl n then -1 else if u = t then 1 else 0) + p * k := fun t ht hne u hu => by
    unfold vec
    rw [rget t ht]
    by_cases e1 : u = stl n
    · rw [if_pos (by rw [e1]), if_pos e1]
      exact ⟨1, by omega⟩
    · rw [if_neg fun e => e1 (L.inj u hu _ G.zero e), if_neg e1]
      by_cases e2 : u = t
      · rw [if_pos (by rw [e2]), if_pos e2]; exact ⟨0, by simp⟩
      · rw [if_neg fun e => e2 (L.inj u hu t ht e), if_neg e2]; exact ⟨0, by simp⟩
  refine ⟨fun r hr => ?_, Lin.iff_of (fun g hg => ?_) fun g hg => ?_⟩
  · obtain ⟨t, ht, _, rfl⟩ := (mem r).mp hr
    exact rok t ht
  · obtain ⟨r, hr, rfl⟩ := hg
    obtain ⟨t, ht, hne, rfl⟩ := (mem r).mp hr
    exact Lin.congr (.of ⟨t, ht, hne, rfl⟩) fun u hu => rvec t ht hne u hu
  · obtain ⟨t, ht, hne, rfl⟩ := hg
    refine Lin.congr (.of ⟨row t, (mem _).mpr ⟨t, ht, hne, rfl⟩, rfl⟩) fun u hu => ?_
    obtain ⟨k, hk⟩ := rvec t ht hne u hu
    exact ⟨-k, by rw [hk, Int.mul_neg]; omega⟩
include hs
theorem stepR_ok {R : List Rw} (hR : ∀ r ∈ R, RowOk p W.length r) {k : Nat} (e : ∀ f, Lin p W (Sr (ixo o W) R) f ↔ Idl p n W lock k f) :
    (∀ r ∈ stepR p (cS o W) (lock.map (cnj o)) R, RowOk p W.length r) ∧ ∀ f, Lin p W (Sr (ixo o W) (stepR p (cS o W) (lock.map (cnj o)) R)) f ↔ Idl p n W lock (k + 1) f := by
  have hp0 : 0 < p := Nat.lt_trans Nat.zero_lt_one hp.pos
  have mem : ∀ r, r ∈ stepR p (cS o W) (lock.map (cnj o)) R ↔ ∃ one ∈ R, ∃ g ∈ lock, r = minus p (moved p (cS o W).length (tab (cS o W) (cnj o g)) one) one := fun r => by
    unfold stepR
    rw [List.mem_flatMap]
    constructor
    · rintro ⟨one, h1, h2⟩
      obtain ⟨x, hx, rfl⟩ := List.mem_map.mp h2
      obtain ⟨g, hg, rfl⟩ := List.mem_map.mp hx
      exact ⟨one, h1, g, hg, rfl⟩
    · rintro ⟨one, h1, g, hg, rfl⟩
      exact ⟨one, h1, List.mem_map.mpr ⟨_, List.mem_map.mpr ⟨g, hg, rfl⟩, rfl⟩⟩
  have sv : ∀ one ∈ R, ∀ g ∈ lock, ∀ t ∈ W, ∃ k : Int, vec (ixo o W) (minus p (moved p (cS o W).length (tab (cS o W) (cnj o g)) one) one) t = mvF g (vec (ixo o W) one) t + p * k :=
    fun one h1 g hg => (step_vec hn ho G hp0 (hs g hg) (hR one h1)).2
  refine ⟨fun r hr => ?_, Lin.iff_of (fun h hh => ?_) fun h hh => ?_⟩
  · obtain ⟨one, h1, g, hg, rfl⟩ := (mem r).mp hr
    exact (step_vec hn ho G hp0 (hs g hg) (hR one h1)).1
  · obtain ⟨r, hr, rfl⟩ := hh
    obtain ⟨one, h1, g, hg, rfl⟩ := (mem r).mp hr
    exact Lin.congr (.of ⟨vec (ixo o W) one, (e _).mp (.of ⟨one, h1, rfl⟩), g, hg, rfl⟩) (sv one h1 g hg)
  · obtain ⟨f, hf, g, hg, rfl⟩ := hh
    have hf' := (e f).mpr hf
    have dn : ∀ t ∈ W, beh t (bck g) ∈ W := fun t ht => G.mul t ht _ (G.inv g (hs g hg))
    clear hf
    induction hf' with
    | zero z =>
      refine .zero fun t ht => ?_
      obtain ⟨k1, e1⟩ := z t ht
      obtain ⟨k2, e2⟩ := z _ (dn t ht)
      exact ⟨k2 - k1, by unfold mvF; rw [e1, e2, Int.mul_sub]⟩
    | @add f0 g0 h0 a hs0 _ z ih =>
      obtain ⟨one, h1, rfl⟩ := hs0
      refine .add a ⟨_, (mem _).mpr ⟨one, h1, g, hg, rfl⟩, rfl⟩ ih fun t ht => ?_
      obtain ⟨k1, e1⟩ := z t ht
      obtain ⟨k2, e2⟩ := z _ (dn t ht)
      obtain ⟨k3, e3⟩ := sv one h1 g hg t ht
      refine ⟨k2 - k1 - a * k3, ?_⟩
      rw [e3]
      unfold mvF
      rw [e1, e2]
      generalize vec (ixo o W) one (beh t (bck g)) = x1
      generalize vec (ixo o W) one t = x2
      generalize f0 (beh t (bck g)) = x3
      generalize f0 t = x4
      grind
theorem die_ok {o' : Tn} (ho' : IsP n o') : ∀ (fuel k many : Nat) (R R' : List Rw), (∀ r ∈ R, RowOk p W.length r) → (∀ r ∈ R', RowOk p W.length r) →
    (∀ f, Lin p W (Sr (ixo o W) R) f ↔ Idl p n W lock k f) → (∀ f, Lin p W (Sr (ixo o' W) R') f ↔ Idl p n W lock k f) →
    die p (cS o W) (lock.map (cnj o)) fuel many (reduce p R) = die p (cS o' W) (lock.map (cnj o')) fuel many (reduce p R')
  | 0, _, _, _, _, _, _, _, _ => rfl
  | fuel + 1, k, many, R, R', h1, h2, e1, e2 => by
    obtain ⟨a1, a2, a3⟩ := reduce_ok hp (lab_ixo hn ho G) h1
    obtain ⟨b1, b2, b3⟩ := reduce_ok hp (lab_ixo hn ho' G) h2
    have hz : reduce p R = [] ↔ reduce p R' = [] := by
      rw [a3, b3]
      exact ⟨fun h f hf => h f ((e1 f).mpr ((e2 f).mp hf)), fun h f hf => h f ((e2 f).mpr ((e1 f).mp hf))⟩
    have c := stepR_ok hn ho G hs hp (k := k) a1 fun f => (a2 f).trans (e1 f)
    have c' := stepR_ok hn ho' G hs hp (k := k) b1 fun f => (b2 f).trans (e2 f)
    unfold die
    by_cases e : reduce p R = []
    · rw [if_pos e, if_pos (hz.mp e)]
    · rw [if_neg e, if_neg fun q => e (hz.mpr q)]
      exact die_ok ho' fuel (k + 1) (many + 1) _ _ c.1 c'.1 c.2 c'.2
end
def dies (p n : Nat) (W lock : List Tn) : Option Nat := die p W lock 60 0 (reduce p (initR p n W))
theorem cnj_one {n : Nat} {t : Tn} (h : IsP n t) : cnj (stl n) t = t := by
  have e : bck (stl n) = stl n := (bck_uniq (isP_stl n) (isP_stl n) (stl_beh (isP_stl n))).symm
  unfold cnj
  rw [e, stl_beh h, beh_stl h]
theorem map_cnj_one {n : Nat} : ∀ {l : List Tn}, AllP n l → l.map (cnj (stl n)) = l
  | [], _ => rfl
  | t :: l, h => by rw [List.map_cons, cnj_one (h t List.mem_cons_self), map_cnj_one fun x hx => h x (List.mem_cons_of_mem _ hx)]
theorem dies_cS {n : Nat} {o : Tn} {W lock : List Tn} {p : Nat} (hn : n ≤ 16) (ho : IsP n o) (G : Grp n W) (hs : Sub lock W) (hp : PrOk p) : dies p n (cS o W) (lock.map (cnj o)) = dies p n W lock := by
  have a := init_ok hn ho G hp (lock := lock)
  have b := init_ok hn (isP_stl n) G hp (lock := lock)
  have e : cS (stl n) W = W := by unfold cS; rw [map_cnj_one G.isP]; exact setS_id hn G.isP G.srt
  have h := die_ok hn ho G hs hp (isP_stl n) 60 0 0 _ _ a.1 b.1 a.2 b.2
  rw [e, map_cnj_one (G.allP hs)] at h
  exact h
end Lk
set_option linter.all false
namespace Lk
def strp (d : Nat) : Nat → Nat → Nat
  | 0, m => m
  | k + 1, m => if m % d = 0 then strp d k (m / d) else m
def primeF (m : Nat) : Option Nat := match (List.range' 2 (m - 1)).find? fun d => m % d == 0 with
  | none => none
  | some d => if strp d m m = 1 then some d else none
def sizesL (m : Nat) : List Nat := [2, 3, 5, 7].filter fun d => m % d == 0
def lgp (p : Nat) : Nat → Nat → Nat
  | 0, _ => 0
  | k + 1, m => if 1 < m then lgp p k (m / p) + 1 else 0
def szs (p : Nat) : List (List Tn) → List Nat
  | one :: other :: r => lgp p 64 (one.length / other.length) :: szs p (other :: r)
  | _ => []
def wsum : Nat → List Nat → Nat
  | _, [] => 0
  | j, c :: r => j * c + wsum (j + 1) r
def toldF (p : Nat) (terms : List (List Tn)) : Nat := (p - 1) * wsum 1 (szs p terms)
def bturn : List Tn → Tn
  | [] => []
  | t :: r => r.foldl swp t
def prod1 (p : Nat) (found : List Tn) (ch : Ch) : List Tn := found.flatMap fun one => (List.range (p ^ ch.long)).map fun k => beh one (pwr (bturn ch.given) k)
def prods (n p : Nat) (chs : List Ch) : List Tn := chs.foldl (prod1 p) [stl n]
def csum (p : Nat) (chs : List Ch) : Nat := (chs.map fun ch => ch.given.length * (p ^ ch.long - 1)).sum
def lower (n : Nat) (W : List Tn) : List (List Tn) := W :: low n W 64 W
structure PrimeCase (n : Nat) (lock W : List Tn) (p : Nat) (wt : List (List Tn)) : Prop where
  pr : primeF W.length = some p
  sz : sizesL W.length = [p]
  ok : PrOk p
  nine : (lower n W).length ≤ 9
  hwt : wgh n p (lower n W) 39 1 = some wt
  hd : dies p n W lock = some (toldF p (wt ++ [[stl n]]))
  sum : csum p (chn n p lock 1 (wt ++ [[stl n]]) []) = toldF p (wt ++ [[stl n]])
  all : setS (prods n p (chn n p lock 1 (wt ++ [[stl n]]) [])) = W
  len : (prods n p (chn n p lock 1 (wt ++ [[stl n]]) [])).length = W.length
structure Good (n : Nat) (lock W : List Tn) : Prop where
  lk : AllP n lock
  grp : Grp n W
  sub : Sub lock W
  span : spn n lock = W
  law : (primeF W.length = none ∧ (sizesL W.length).length ≠ 1) ∨ ∃ p wt, PrimeCase n lock W p wt

/-! places called otherwise -/
section
variable {n : Nat} {o : Tn} {W lock : List Tn} (hn : n ≤ 16) (ho : IsP n o) (G : Grp n W)
theorem szs_map {p : Nat} {f : List Tn → List Tn} : ∀ (terms : List (List Tn)), (∀ T ∈ terms, (f T).length = T.length) → szs p (terms.map f) = szs p terms
  | [], _ => rfl
  | [_], _ => rfl
  | one :: other :: r, h => by
    rw [List.map_cons, List.map_cons, szs, szs, h one List.mem_cons_self, h other (List.mem_cons_of_mem _ List.mem_cons_self)]
    have := szs_map (p := p) (f := f) (other :: r) fun T hT => h T (List.mem_cons_of_mem _ hT)
    rw [List.map_cons] at this
    rw [this]
include hn ho in
theorem cS_one : cS o [stl n] = [stl n] := by
  unfold cS
  rw [List.map_cons, List.map_nil, cnj_stl ho]
  exact setS_id hn (fun t h => by rw [List.mem_singleton.mp h]; exact isP_stl n) (List.pairwise_singleton _ _)
include hn G in
theorem lower_ok : ∀ T ∈ lower n W, Sub T W ∧ Srt T := fun T hT => by
  rcases List.mem_cons.mp hT with e | m
  · rw [e]; exact ⟨fun t h => h, G.srt⟩
  · exact low_sub hn G 64 W (fun t h => h) T m
include hn G in
theorem wgh_ok {p : Nat} {terms : List (List Tn)} (h : ∀ T ∈ terms, Sub T W) : ∀ (k w : Nat) (wt : List (List Tn)), wgh n p terms k w = some wt → ∀ T ∈ wt, Sub T W ∧ Srt T
  | 0, _, _, e => by cases e
  | k + 1, w, wt, e => by
    unfold wgh at e
    split at e
    · cases e; exact fun T hT => absurd hT List.not_mem_nil
    · cases e2 : wgh n p terms k (w + 1) with
      | none => rw [e2] at e; cases e
      | some wt' =>
        rw [e2] at e
        cases e
        intro T hT
        rcases List.mem_cons.mp hT with z | z
        · rw [z]; exact trm_sub hn G p w h
        · exact wgh_ok h k (w + 1) wt' e2 T z
include hn G in
theorem terms_ok {wt : List (List Tn)} (h : ∀ T ∈ wt, Sub T W ∧ Srt T) : ∀ T ∈ wt ++ [[stl n]], Sub T W ∧ Srt T := fun T hT => by
  rcases List.mem_append.mp hT with z | z
  · exact h T z
  · rw [List.mem_singleton.mp z]
    exact ⟨fun t ht => by rw [List.mem_singleton.mp ht]; exact G.zero, List.pairwise_singleton _ _⟩
theorem foldl_swp {L : List Tn} (ho : IsP n o) : ∀ (g : List Tn) (t : Tn), IsP n t → AllP n g → (g.map (cnj o)).foldl swp (cnj o t) = cnj o (g.foldl swp t) ∧ IsP n (g.foldl swp t)
  | [], t, ht, _ => ⟨rfl, ht⟩
  | u :: g, t, ht, hg => by
    have hu := hg u List.mem_cons_self
    rw [List.map_cons, List.foldl_cons, List.foldl_cons, ← cnj_swp ho ht hu]
    exact foldl_swp (L := L) ho g _ (isP_swp ht hu) fun x hx => hg x (List.mem_cons_of_mem _ hx)
theorem bturn_cnj (ho : IsP n o) {g : List Tn} (hg : AllP n g) (hne : g ≠ []) : bturn (g.map (cnj o)) = cnj o (bturn g) ∧ IsP n (bturn g) := by
  cases g with
  | nil => exact absurd rfl hne
  | cons t r => exact foldl_swp (L := []) ho r t (hg t List.mem_cons_self) fun x hx => hg x (List.mem_cons_of_mem _ hx)
include ho in
theorem prod1_cS {p : Nat} {found : List Tn} {ch : Ch} (hf : AllP n found) (hg : AllP n ch.given) (hne : ch.given ≠ []) :
    prod1 p (found.map (cnj o)) (cC o ch) = (prod1 p found ch).map (cnj o) ∧ AllP n (prod1 p found ch) := by
  obtain ⟨e, hb⟩ := bturn_cnj ho hg hne
  constructor
  · unfold prod1
    rw [List.map_flatMap, List.flatMap_map]
    refine congrArg List.flatten ?_
    refine List.map_congr_left fun one h1 => ?_
    rw [List.map_map]
    refine List.map_congr_left fun k _ => ?_
    show beh (cnj o one) (pwr (bturn (ch.given.map (cnj o))) k) = cnj o (beh one (pwr (bturn ch.given) k))
    rw [e, pwr_cnj ho hb, cnj_beh ho (hf one h1) (isP_pwr hb k)]
  · intro x hx
    unfold prod1 at hx
    obtain ⟨one, h1, h2⟩ := List.mem_flatMap.mp hx
    obtain ⟨k, _, rfl⟩ := List.mem_map.mp h2
    exact isP_beh (hf one h1) (isP_pwr hb k)
include ho in
theorem prods_cS {p : Nat} (hl : AllP n lock) : ∀ (chs : List Ch) (found : List Tn), AllP n found → (∀ ch ∈ chs, Sub ch.given lock ∧ ch.given ≠ []) →
    (chs.map (cC o)).foldl (prod1 p) (found.map (cnj o)) = (chs.foldl (prod1 p) found).map (cnj o) ∧ AllP n (chs.foldl (prod1 p) found)
  | [], found, hf, _ => ⟨rfl, hf⟩
  | ch :: r, found, hf, hc => by
    have h := hc ch List.mem_cons_self
    obtain ⟨e, h2⟩ := prod1_cS ho (p := p) hf (fun t ht => hl t (h.1 t ht)) h.2
    rw [List.map_cons, List.foldl_cons, List.foldl_cons, e]
    exact prods_cS hl r _ h2 fun x hx => hc x (List.mem_cons_of_mem _ hx)
include hn ho in
theorem Good.cnj (g : Good n lock W) : Good n (lock.map (cnj o)) (cS o W) := by
  have G := g.grp
  have hW : (cS o W).length = W.length := len_cS hn ho G (fun t h => h) G.srt
  have hsW : Sub W W := fun t h => h
  refine ⟨allP_map ho g.lk, grp_cS hn ho G, sub_cS hn ho G g.sub (img_map lock), ?_, ?_⟩
  · rw [spn_cS hn ho G g.sub (img_map lock), g.span]
  · rw [hW]
    rcases g.law with h | ⟨p, wt, h⟩
    · exact .inl h
    · refine .inr ⟨p, wt.map (cS o), ?_⟩
      have hlo := lower_ok hn G
      have hls : ∀ T ∈ lower n W, Sub T W := fun T hT => (hlo T hT).1
      have elo : lower n (cS o W) = (lower n W).map (cS o) := by unfold lower; rw [List.map_cons, low_cS hn ho G 64 W hsW G.srt]
      have hwt := wgh_ok hn G hls 39 1 wt h.hwt
      have hT := terms_ok hn G hwt
      have et : wt.map (cS o) ++ [[stl n]] = (wt ++ [[stl n]]).map (cS o) := by rw [List.map_append, List.map_cons, List.map_nil, cS_one hn ho]
      have told : toldF p (wt.map (cS o) ++ [[stl n]]) = toldF p (wt ++ [[stl n]]) := by
        unfold toldF
        rw [et, szs_map _ fun T h => len_cS hn ho G (hT T h).1 (hT T h).2]
      have ec : chn n p (lock.map (Lk.cnj o)) 1 (wt.map (cS o) ++ [[stl n]]) [] = (chn n p lock 1 (wt ++ [[stl n]]) []).map (cC o) := by
        rw [et]
        exact chn_cS hn ho G g.sub _ 1 [] hT fun x hx => absurd hx List.not_mem_nil
      have hch := chn_ok hn G (p := p) g.sub (wt ++ [[stl n]]) 1 [] hT fun x hx => absurd hx List.not_mem_nil
      have ep := prods_cS ho (p := p) g.lk (chn n p lock 1 (wt ++ [[stl n]]) []) [stl n] (fun t h => by rw [List.mem_singleton.mp h]; exact isP_stl n) fun ch hc => (hch ch hc).2
      have ep1 : prods n p ((chn n p lock 1 (wt ++ [[stl n]]) []).map (cC o)) = (prods n p (chn n p lock 1 (wt ++ [[stl n]]) [])).map (Lk.cnj o) := by
        have := ep.1
        rw [List.map_cons, List.map_nil, cnj_stl ho] at this
        exact this
      refine ⟨by rw [hW]; exact h.pr, by rw [hW]; exact h.sz, h.ok, by rw [elo, List.length_map]; exact h.nine, by rw [elo, wgh_cS hn ho G p hls, h.hwt]; rfl, ?_, ?_, ?_, ?_⟩
      · rw [dies_cS hn ho G g.sub h.ok, told]; exact h.hd
      · rw [told, ec, ← h.sum]
        unfold csum
        rw [List.map_map]
        refine congrArg List.sum (List.map_congr_left fun ch _ => ?_)
        show (ch.given.map (Lk.cnj o)).length * _ = _
        rw [List.length_map]; rfl
      · rw [ec, ep1, (img_map (o := o) (prods n p (chn n p lock 1 (wt ++ [[stl n]]) []))).set hn ho ep.2]
        have : ∀ t, t ∈ prods n p (chn n p lock 1 (wt ++ [[stl n]]) []) ↔ t ∈ W := fun t => by
          have q := mem_setS hn (l := prods n p (chn n p lock 1 (wt ++ [[stl n]]) [])) ep.2 t
          rw [h.all] at q
          exact q.symm
        exact setS_congr hn (allP_map ho ep.2) (allP_map ho G.isP) fun t => by
          rw [List.mem_map, List.mem_map]
          exact ⟨fun ⟨u, hu, e⟩ => ⟨u, (this u).mp hu, e⟩, fun ⟨u, hu, e⟩ => ⟨u, (this u).mpr hu, e⟩⟩
      · rw [ec, ep1, List.length_map, hW]; exact h.len
end

/-! by reckoning -/
def isPB (n : Nat) (t : Tn) : Bool := t.length == n && t.all (fun x => decide (x < n)) && (List.range n).all fun q => t.contains q
theorem isPB_ok {n : Nat} {t : Tn} (h : isPB n t = true) : IsP n t := by
  unfold isPB at h
  simp only [Bool.and_eq_true, beq_iff_eq, List.all_eq_true, decide_eq_true_eq, List.contains_iff_mem, List.mem_range] at h
  obtain ⟨⟨h1, h2⟩, h3⟩ := h
  refine ⟨h1, h2, ?_⟩
  refine Classical.byContradiction fun hd => ?_
  have key : ∀ (l : List Nat), ¬ l.Nodup → ∃ l' : List Nat, l'.length < l.length ∧ ∀ x ∈ l, x ∈ l' := by
    intro l
    induction l with
    | nil => exact fun h => absurd List.Pairwise.nil h
    | cons a r ih =>
      intro h
      by_cases ha : a ∈ r
      · exact ⟨r, Nat.lt_succ_self _, fun x hx => by
          rcases List.mem_cons.mp hx with e | m
          · rw [e]; exact ha
          · exact m⟩
      · obtain ⟨l', h1, h2⟩ := ih fun hr => h (List.nodup_cons.mpr ⟨ha, hr⟩)
        refine ⟨a :: l', by simpa using h1, fun x hx => ?_⟩
        rcases List.mem_cons.mp hx with e | m
        · rw [e]; exact List.mem_cons_self
        · exact List.mem_cons_of_mem _ (h2 x m)
  obtain ⟨l', h4, h5⟩ := key t hd
  have := pigeon (List.range n) l' List.nodup_range fun x hx => h5 x (h3 x (List.mem_range.mp hx))
  rw [List.length_range] at this
  omega
def grpB (n : Nat) (lock W : List Tn) : Bool := lock.all (isPB n) && lock.all (fun t => W.contains t) && W.contains (stl n) && decide (W.length ≤ 60) && W.all (fun t => lock.all fun o => W.contains (beh t o)) && W.all fun t => W.contains (bck t)
theorem grpB_ok {n : Nat} {lock W : List Tn} (hn : n ≤ 16) (e : spn n lock = W) (h : grpB n lock W = true) : AllP n lock ∧ Grp n W ∧ Sub lock W := by
  unfold grpB at h
  simp only [Bool.and_eq_true, List.all_eq_true, List.contains_iff_mem, decide_eq_true_eq] at h
  obtain ⟨⟨⟨⟨⟨h1, h2⟩, h3⟩, h4⟩, h5⟩, h6⟩ := h
  have hp : AllP n lock := fun t ht => isPB_ok (h1 t ht)
  have B : Box n lock W := ⟨h3, h5, h4⟩
  have S := B.span hn hp
  rw [e] at S
  refine ⟨hp, ⟨S.srt, fun t ht => ((S.mem t).mp ht).isP hp, h3, fun a ha b hb => ?_, h6, h4⟩, h2⟩
  exact (S.mem _).mpr (((S.mem a).mp ha).mul hp ((S.mem b).mp hb))
def lawB (n : Nat) (lock W : List Tn) : Bool := match primeF W.length with
  | none => (sizesL W.length).length != 1
  | some p => sizesL W.length == [p] && (p == 2 || p == 3) && decide ((lower n W).length ≤ 9) && match wgh n p (lower n W) 39 1 with
    | none => false
    | some wt => dies p n W lock == some (toldF p (wt ++ [[stl n]])) && csum p (chn n p lock 1 (wt ++ [[stl n]]) []) == toldF p (wt ++ [[stl n]]) &&
      setS (prods n p (chn n p lock 1 (wt ++ [[stl n]]) [])) == W && (prods n p (chn n p lock 1 (wt ++ [[stl n]]) [])).length == W.length
theorem good_of {n : Nat} {lock W : List Tn} (hn : n ≤ 16) (e : spn n lock = W) (h : grpB n lock W = true) (h2 : lawB n lock W = true) : Good n lock W := by
  obtain ⟨a, b, c⟩ := grpB_ok hn e h
  refine ⟨a, b, c, e, ?_⟩
  unfold lawB at h2
  cases e1 : primeF W.length with
  | none =>
    rw [e1] at h2
    exact .inl ⟨rfl, by simpa using h2⟩
  | some p =>
    rw [e1] at h2
    dsimp only at h2
    cases e2 : wgh n p (lower n W) 39 1 with
    | none => rw [e2] at h2; simp at h2
    | some wt =>
      rw [e2] at h2
      simp only [Bool.and_eq_true, beq_iff_eq, Bool.or_eq_true, decide_eq_true_eq] at h2
      obtain ⟨⟨⟨k1, k2⟩, k3⟩, ⟨⟨k4, k5⟩, k6⟩, k7⟩ := h2
      exact .inr ⟨p, wt, ⟨e1, k1, k2, k3, e2, k4, k5, k6, k7⟩⟩
end Lk
set_option linter.all false
set_option Elab.async false
namespace Lk
def k_four : List Tn := [[1, 2, 3, 0]]
def w_four : List Tn := [[0, 1, 2, 3], [1, 2, 3, 0], [2, 3, 0, 1], [3, 0, 1, 2]]
theorem sp_four : spn 4 k_four = w_four := by decide +kernel
theorem gr_four : grpB 4 k_four w_four = true := by decide +kernel
theorem la_four : lawB 4 k_four w_four = true := by decide +kernel
theorem good_four : Good 4 k_four w_four := good_of (by decide) sp_four gr_four la_four
def k_klein : List Tn := [[1, 0, 3, 2], [2, 3, 0, 1]]
def w_klein : List Tn := [[0, 1, 2, 3], [1, 0, 3, 2], [2, 3, 0, 1], [3, 2, 1, 0]]
theorem sp_klein : spn 4 k_klein = w_klein := by decide +kernel
theorem gr_klein : grpB 4 k_klein w_klein = true := by decide +kernel
theorem la_klein : lawB 4 k_klein w_klein = true := by decide +kernel
theorem good_klein : Good 4 k_klein w_klein := good_of (by decide) sp_klein gr_klein la_klein
def k_square : List Tn := [[1, 2, 3, 0], [3, 2, 1, 0]]
def w_square : List Tn := [[0, 1, 2, 3], [0, 3, 2, 1], [1, 0, 3, 2], [1, 2, 3, 0], [2, 1, 0, 3], [2, 3, 0, 1], [3, 0, 1, 2], [3, 2, 1, 0]]
theorem sp_square : spn 4 k_square = w_square := by decide +kernel
theorem gr_square : grpB 4 k_square w_square = true := by decide +kernel
theorem la_square : lawB 4 k_square w_square = true := by decide +kernel
theorem good_square : Good 4 k_square w_square := good_of (by decide) sp_square gr_square la_square
def k_cube : List Tn := [[1, 0, 2, 3, 4, 5], [0, 1, 3, 2, 4, 5], [0, 1, 2, 3, 5, 4]]
def w_cube : List Tn := [[0, 1, 2, 3, 4, 5], [0, 1, 2, 3, 5, 4], [0, 1, 3, 2, 4, 5], [0, 1, 3, 2, 5, 4], [1, 0, 2, 3, 4, 5], [1, 0, 2, 3, 5, 4], [1, 0, 3, 2, 4, 5], [1, 0, 3, 2, 5, 4]]
theorem sp_cube : spn 6 k_cube = w_cube := by decide +kernel
theorem gr_cube : grpB 6 k_cube w_cube = true := by decide +kernel
theorem la_cube : lawB 6 k_cube w_cube = true := by decide +kernel
theorem good_cube : Good 6 k_cube w_cube := good_of (by decide) sp_cube gr_cube la_cube
def k_eight : List Tn := [[1, 2, 3, 4, 5, 6, 7, 0]]
def w_eight : List Tn := [[0, 1, 2, 3, 4, 5, 6, 7], [1, 2, 3, 4, 5, 6, 7, 0], [2, 3, 4, 5, 6, 7, 0, 1], [3, 4, 5, 6, 7, 0, 1, 2], [4, 5, 6, 7, 0, 1, 2, 3], [5, 6, 7, 0, 1, 2, 3, 4], [6, 7, 0, 1, 2, 3, 4, 5], [7, 0, 1, 2, 3, 4, 5, 6]]
theorem sp_eight : spn 8 k_eight = w_eight := by decide +kernel
theorem gr_eight : grpB 8 k_eight w_eight = true := by decide +kernel
theorem la_eight : lawB 8 k_eight w_eight = true := by decide +kernel
theorem good_eight : Good 8 k_eight w_eight := good_of (by decide) sp_eight gr_eight la_eight
def k_nine : List Tn := [[1, 2, 3, 4, 5, 6, 7, 8, 0]]
def w_nine : List Tn := [[0, 1, 2, 3, 4, 5, 6, 7, 8], [1, 2, 3, 4, 5, 6, 7, 8, 0], [2, 3, 4, 5, 6, 7, 8, 0, 1], [3, 4, 5, 6, 7, 8, 0, 1, 2], [4, 5, 6, 7, 8, 0, 1, 2, 3], [5, 6, 7, 8, 0, 1, 2, 3, 4], [6, 7, 8, 0, 1, 2, 3, 4, 5], [7, 8, 0, 1, 2, 3, 4, 5, 6], [8, 0, 1, 2, 3, 4, 5, 6, 7]]
theorem sp_nine : spn 9 k_nine = w_nine := by decide +kernel
theorem gr_nine : grpB 9 k_nine w_nine = true := by decide +kernel
theorem la_nine : lawB 9 k_nine w_nine = true := by decide +kernel
theorem good_nine : Good 9 k_nine w_nine := good_of (by decide) sp_nine gr_nine la_nine
def k_quaternions : List Tn := [[1, 2, 3, 0, 5, 6, 7, 4], [4, 7, 6, 5, 2, 1, 0, 3]]
def w_quaternions : List Tn := [[0, 1, 2, 3, 4, 5, 6, 7], [1, 2, 3, 0, 5, 6, 7, 4], [2, 3, 0, 1, 6, 7, 4, 5], [3, 0, 1, 2, 7, 4, 5, 6], [4, 7, 6, 5, 2, 1, 0, 3], [5, 4, 7, 6, 3, 2, 1, 0], [6, 5, 4, 7, 0, 3, 2, 1], [7, 6, 5, 4, 1, 0, 3, 2]]
theorem sp_quaternions : spn 8 k_quaternions = w_quaternions := by decide +kernel
theorem gr_quaternions : grpB 8 k_quaternions w_quaternions = true := by decide +kernel
theorem la_quaternions : lawB 8 k_quaternions w_quaternions = true := by decide +kernel
theorem good_quaternions : Good 8 k_quaternions w_quaternions := good_of (by decide) sp_quaternions gr_quaternions la_quaternions
def k_threes : List Tn := [[1, 2, 0, 3, 4, 5], [0, 1, 2, 4, 5, 3]]
def w_threes : List Tn := [[0, 1, 2, 3, 4, 5], [0, 1, 2, 4, 5, 3], [0, 1, 2, 5, 3, 4], [1, 2, 0, 3, 4, 5], [1, 2, 0, 4, 5, 3], [1, 2, 0, 5, 3, 4], [2, 0, 1, 3, 4, 5], [2, 0, 1, 4, 5, 3], [2, 0, 1, 5, 3, 4]]
theorem sp_threes : spn 6 k_threes = w_threes := by decide +kernel
theorem gr_threes : grpB 6 k_threes w_threes = true := by decide +kernel
theorem la_threes : lawB 6 k_threes w_threes = true := by decide +kernel
theorem good_threes : Good 6 k_threes w_threes := good_of (by decide) sp_threes gr_threes la_threes
def k_three : List Tn := [[1, 2, 0], [1, 0, 2]]
def w_three : List Tn := [[0, 1, 2], [0, 2, 1], [1, 0, 2], [1, 2, 0], [2, 0, 1], [2, 1, 0]]
theorem sp_three : spn 3 k_three = w_three := by decide +kernel
theorem gr_three : grpB 3 k_three w_three = true := by decide +kernel
theorem la_three : lawB 3 k_three w_three = true := by decide +kernel
theorem good_three : Good 3 k_three w_three := good_of (by decide) sp_three gr_three la_three
def k_heis : List Tn := [[3, 4, 5, 6, 7, 8, 0, 1, 2], [0, 1, 2, 4, 5, 3, 8, 6, 7]]
def w_heis : List Tn := [[0, 1, 2, 3, 4, 5, 6, 7, 8], [0, 1, 2, 4, 5, 3, 8, 6, 7], [0, 1, 2, 5, 3, 4, 7, 8, 6], [1, 2, 0, 3, 4, 5, 8, 6, 7], [1, 2, 0, 4, 5, 3, 7, 8, 6], [1, 2, 0, 5, 3, 4, 6, 7, 8], [2, 0, 1, 3, 4, 5, 7, 8, 6], [2, 0, 1, 4, 5, 3, 6, 7, 8], [2, 0, 1, 5, 3, 4, 8, 6, 7], [3, 4, 5, 6, 7, 8, 0, 1, 2], [3, 4, 5, 7, 8, 6, 2, 0, 1], [3, 4, 5, 8, 6, 7, 1, 2, 0], [4, 5, 3, 6, 7, 8, 2, 0, 1], [4, 5, 3, 7, 8, 6, 1, 2, 0], [4, 5, 3, 8, 6, 7, 0, 1, 2], [5, 3, 4, 6, 7, 8, 1, 2, 0], [5, 3, 4, 7, 8, 6, 0, 1, 2], [5, 3, 4, 8, 6, 7, 2, 0, 1], [6, 7, 8, 0, 1, 2, 3, 4, 5], [6, 7, 8, 1, 2, 0, 5, 3, 4], [6, 7, 8, 2, 0, 1, 4, 5, 3], [7, 8, 6, 0, 1, 2, 5, 3, 4], [7, 8, 6, 1, 2, 0, 4, 5, 3], [7, 8, 6, 2, 0, 1, 3, 4, 5], [8, 6, 7, 0, 1, 2, 4, 5, 3], [8, 6, 7, 1, 2, 0, 3, 4, 5], [8, 6, 7, 2, 0, 1, 5, 3, 4]]
theorem sp_heis : spn 9 k_heis = w_heis := by decide +kernel
theorem gr_heis : grpB 9 k_heis w_heis = true := by decide +kernel
theorem la_heis : lawB 9 k_heis w_heis = true := by decide +kernel
theorem good_heis : Good 9 k_heis w_heis := good_of (by decide) sp_heis gr_heis la_heis
def k_ten : List Tn := [[1, 2, 3, 4, 0], [0, 4, 3, 2, 1]]
def w_ten : List Tn := [[0, 1, 2, 3, 4], [0, 4, 3, 2, 1], [1, 0, 4, 3, 2], [1, 2, 3, 4, 0], [2, 1, 0, 4, 3], [2, 3, 4, 0, 1], [3, 2, 1, 0, 4], [3, 4, 0, 1, 2], [4, 0, 1, 2, 3], [4, 3, 2, 1, 0]]
theorem sp_ten : spn 5 k_ten = w_ten := by decide +kernel
theorem gr_ten : grpB 5 k_ten w_ten = true := by decide +kernel
theorem la_ten : lawB 5 k_ten w_ten = true := by decide +kernel
theorem good_ten : Good 5 k_ten w_ten := good_of (by decide) sp_ten gr_ten la_ten
def perms : Nat → List Tn
  | 2 => [[0, 1], [1, 0]]
  | 3 => [[0, 1, 2], [0, 2, 1], [1, 0, 2], [1, 2, 0], [2, 0, 1], [2, 1, 0]]
  | 4 => [[0, 1, 2, 3], [0, 1, 3, 2], [0, 2, 1, 3], [0, 2, 3, 1], [0, 3, 1, 2], [0, 3, 2, 1], [1, 0, 2, 3], [1, 0, 3, 2], [1, 2, 0, 3], [1, 2, 3, 0], [1, 3, 0, 2], [1, 3, 2, 0], [2, 0, 1, 3], [2, 0, 3, 1], [2, 1, 0, 3], [2, 1, 3, 0], [2, 3, 0, 1], [2, 3, 1, 0], [3, 0, 1, 2], [3, 0, 2, 1], [3, 1, 0, 2], [3, 1, 2, 0], [3, 2, 0, 1], [3, 2, 1, 0]]
  | _ => []
def chk (n : Nat) (lock : List Tn) : Bool := grpB n lock (spn n lock) && lawB n lock (spn n lock)
def reps : List (Tn × Tn) := [([0, 1, 2, 3], [0, 1, 2, 3]), ([0, 1, 2, 3], [0, 1, 3, 2]), ([0, 1, 2, 3], [0, 2, 3, 1]), ([0, 1, 2, 3], [1, 0, 3, 2]), ([0, 1, 2, 3], [1, 2, 3, 0]), ([0, 1, 3, 2], [0, 1, 2, 3]), ([0, 1, 3, 2], [0, 1, 3, 2]), ([0, 1, 3, 2], [0, 2, 1, 3]), ([0, 1, 3, 2], [0, 2, 3, 1]), ([0, 1, 3, 2], [1, 0, 2, 3]), ([0, 1, 3, 2], [1, 0, 3, 2]), ([0, 1, 3, 2], [1, 2, 0, 3]), ([0, 1, 3, 2], [1, 2, 3, 0]), ([0, 1, 3, 2], [2, 3, 0, 1]), ([0, 1, 3, 2], [2, 3, 1, 0]), ([0, 2, 3, 1], [0, 1, 2, 3]), ([0, 2, 3, 1], [0, 1, 3, 2]), ([0, 2, 3, 1], [0, 2, 3, 1]), ([0, 2, 3, 1], [0, 3, 1, 2]), ([0, 2, 3, 1], [1, 0, 2, 3]), ([0, 2, 3, 1], [1, 0, 3, 2]), ([0, 2, 3, 1], [1, 2, 0, 3]), ([0, 2, 3, 1], [1, 2, 3, 0]), ([0, 2, 3, 1], [1, 3, 0, 2]), ([0, 2, 3, 1], [1, 3, 2, 0]), ([1, 0, 3, 2], [0, 1, 2, 3]), ([1, 0, 3, 2], [0, 1, 3, 2]), ([1, 0, 3, 2], [0, 2, 1, 3]), ([1, 0, 3, 2], [0, 2, 3, 1]), ([1, 0, 3, 2], [1, 0, 3, 2]), ([1, 0, 3, 2], [1, 2, 3, 0]), ([1, 0, 3, 2], [2, 3, 0, 1]), ([1, 0, 3, 2], [2, 3, 1, 0]), ([1, 2, 3, 0], [0, 1, 2, 3]), ([1, 2, 3, 0], [0, 1, 3, 2]), ([1, 2, 3, 0], [0, 2, 3, 1]), ([1, 2, 3, 0], [0, 3, 1, 2]), ([1, 2, 3, 0], [0, 3, 2, 1]), ([1, 2, 3, 0], [1, 0, 3, 2]), ([1, 2, 3, 0], [1, 2, 3, 0]), ([1, 2, 3, 0], [1, 3, 0, 2]), ([1, 2, 3, 0], [2, 3, 0, 1]), ([1, 2, 3, 0], [3, 0, 1, 2])]
def repT : List (Tn × Tn × Tn) := [
  ([0, 1, 2, 3], ([0, 1, 2, 3], [0, 1, 2, 3])), ([0, 1, 2, 3], ([0, 1, 2, 3], [0, 1, 3, 2])), ([0, 3, 1, 2], ([0, 1, 2, 3], [0, 1, 3, 2])), ([0, 1, 2, 3], ([0, 1, 2, 3], [0, 2, 3, 1])), ([0, 1, 3, 2], ([0, 1, 2, 3], [0, 2, 3, 1])), ([0, 2, 1, 3], ([0, 1, 2, 3], [0, 1, 3, 2])), ([2, 3, 0, 1], ([0, 1, 2, 3], [0, 1, 3, 2])), ([0, 1, 2, 3], ([0, 1, 2, 3], [1, 0, 3, 2])),
  ([3, 0, 1, 2], ([0, 1, 2, 3], [0, 2, 3, 1])), ([0, 1, 2, 3], ([0, 1, 2, 3], [1, 2, 3, 0])), ([0, 1, 3, 2], ([0, 1, 2, 3], [1, 2, 3, 0])), ([2, 0, 1, 3], ([0, 1, 2, 3], [0, 2, 3, 1])), ([3, 0, 2, 1], ([0, 1, 2, 3], [0, 2, 3, 1])), ([0, 2, 3, 1], ([0, 1, 2, 3], [1, 2, 3, 0])), ([1, 3, 0, 2], ([0, 1, 2, 3], [0, 1, 3, 2])), ([1, 0, 2, 3], ([0, 1, 2, 3], [0, 2, 3, 1])),
  ([0, 2, 1, 3], ([0, 1, 2, 3], [1, 0, 3, 2])), ([0, 2, 1, 3], ([0, 1, 2, 3], [1, 2, 3, 0])), ([0, 3, 2, 1], ([0, 1, 2, 3], [1, 2, 3, 0])), ([2, 0, 3, 1], ([0, 1, 2, 3], [0, 2, 3, 1])), ([1, 0, 3, 2], ([0, 1, 2, 3], [0, 2, 3, 1])), ([1, 2, 0, 3], ([0, 1, 2, 3], [0, 1, 3, 2])), ([0, 3, 1, 2], ([0, 1, 2, 3], [1, 2, 3, 0])), ([0, 3, 1, 2], ([0, 1, 2, 3], [1, 0, 3, 2])),
  ([0, 1, 2, 3], ([0, 1, 3, 2], [0, 1, 2, 3])), ([0, 1, 2, 3], ([0, 1, 3, 2], [0, 1, 3, 2])), ([0, 1, 2, 3], ([0, 1, 3, 2], [0, 2, 1, 3])), ([0, 1, 2, 3], ([0, 1, 3, 2], [0, 2, 3, 1])), ([0, 1, 3, 2], ([0, 1, 3, 2], [0, 2, 3, 1])), ([0, 1, 3, 2], ([0, 1, 3, 2], [0, 2, 1, 3])), ([0, 1, 2, 3], ([0, 1, 3, 2], [1, 0, 2, 3])), ([0, 1, 2, 3], ([0, 1, 3, 2], [1, 0, 3, 2])),
  ([0, 1, 2, 3], ([0, 1, 3, 2], [1, 2, 0, 3])), ([0, 1, 2, 3], ([0, 1, 3, 2], [1, 2, 3, 0])), ([0, 1, 3, 2], ([0, 1, 3, 2], [1, 2, 3, 0])), ([0, 1, 3, 2], ([0, 1, 3, 2], [1, 2, 0, 3])), ([1, 0, 2, 3], ([0, 1, 3, 2], [1, 2, 0, 3])), ([1, 0, 2, 3], ([0, 1, 3, 2], [1, 2, 3, 0])), ([1, 0, 2, 3], ([0, 1, 3, 2], [0, 2, 1, 3])), ([1, 0, 2, 3], ([0, 1, 3, 2], [0, 2, 3, 1])),
  ([0, 1, 2, 3], ([0, 1, 3, 2], [2, 3, 0, 1])), ([0, 1, 2, 3], ([0, 1, 3, 2], [2, 3, 1, 0])), ([1, 0, 3, 2], ([0, 1, 3, 2], [1, 2, 3, 0])), ([1, 0, 3, 2], ([0, 1, 3, 2], [1, 2, 0, 3])), ([1, 0, 3, 2], ([0, 1, 3, 2], [0, 2, 3, 1])), ([1, 0, 3, 2], ([0, 1, 3, 2], [0, 2, 1, 3])), ([0, 1, 3, 2], ([0, 1, 3, 2], [2, 3, 1, 0])), ([0, 1, 3, 2], ([0, 1, 3, 2], [2, 3, 0, 1])),
  ([0, 3, 1, 2], ([0, 1, 3, 2], [0, 1, 2, 3])), ([0, 3, 2, 1], ([0, 1, 3, 2], [0, 2, 1, 3])), ([0, 3, 1, 2], ([0, 1, 3, 2], [0, 1, 3, 2])), ([0, 3, 1, 2], ([0, 1, 3, 2], [0, 2, 3, 1])), ([0, 3, 2, 1], ([0, 1, 3, 2], [0, 2, 3, 1])), ([0, 3, 1, 2], ([0, 1, 3, 2], [0, 2, 1, 3])), ([3, 0, 1, 2], ([0, 1, 3, 2], [0, 2, 1, 3])), ([0, 3, 1, 2], ([0, 1, 3, 2], [2, 3, 0, 1])),
  ([3, 0, 1, 2], ([0, 1, 3, 2], [0, 2, 3, 1])), ([3, 0, 1, 2], ([0, 1, 3, 2], [1, 2, 3, 0])), ([0, 3, 1, 2], ([0, 1, 3, 2], [2, 3, 1, 0])), ([3, 0, 1, 2], ([0, 1, 3, 2], [1, 2, 0, 3])), ([3, 0, 2, 1], ([0, 1, 3, 2], [0, 2, 3, 1])), ([0, 3, 2, 1], ([0, 1, 3, 2], [2, 3, 1, 0])), ([3, 0, 2, 1], ([0, 1, 3, 2], [0, 2, 1, 3])), ([3, 0, 2, 1], ([0, 1, 3, 2], [1, 2, 0, 3])),
  ([0, 3, 2, 1], ([0, 1, 3, 2], [2, 3, 0, 1])), ([3, 0, 2, 1], ([0, 1, 3, 2], [1, 2, 3, 0])), ([0, 3, 2, 1], ([0, 1, 3, 2], [1, 2, 3, 0])), ([0, 3, 1, 2], ([0, 1, 3, 2], [1, 2, 0, 3])), ([0, 3, 2, 1], ([0, 1, 3, 2], [1, 2, 0, 3])), ([0, 3, 1, 2], ([0, 1, 3, 2], [1, 0, 2, 3])), ([0, 3, 1, 2], ([0, 1, 3, 2], [1, 2, 3, 0])), ([0, 3, 1, 2], ([0, 1, 3, 2], [1, 0, 3, 2])),
  ([0, 1, 2, 3], ([0, 2, 3, 1], [0, 1, 2, 3])), ([0, 1, 2, 3], ([0, 2, 3, 1], [0, 1, 3, 2])), ([0, 3, 1, 2], ([0, 2, 3, 1], [0, 1, 3, 2])), ([0, 1, 2, 3], ([0, 2, 3, 1], [0, 2, 3, 1])), ([0, 1, 2, 3], ([0, 2, 3, 1], [0, 3, 1, 2])), ([0, 2, 3, 1], ([0, 2, 3, 1], [0, 1, 3, 2])), ([0, 1, 2, 3], ([0, 2, 3, 1], [1, 0, 2, 3])), ([0, 1, 2, 3], ([0, 2, 3, 1], [1, 0, 3, 2])),
  ([0, 1, 2, 3], ([0, 2, 3, 1], [1, 2, 0, 3])), ([0, 1, 2, 3], ([0, 2, 3, 1], [1, 2, 3, 0])), ([0, 1, 2, 3], ([0, 2, 3, 1], [1, 3, 0, 2])), ([0, 1, 2, 3], ([0, 2, 3, 1], [1, 3, 2, 0])), ([0, 2, 3, 1], ([0, 2, 3, 1], [1, 3, 2, 0])), ([0, 2, 3, 1], ([0, 2, 3, 1], [1, 2, 3, 0])), ([0, 2, 3, 1], ([0, 2, 3, 1], [1, 0, 2, 3])), ([0, 2, 3, 1], ([0, 2, 3, 1], [1, 2, 0, 3])),
  ([0, 2, 3, 1], ([0, 2, 3, 1], [1, 0, 3, 2])), ([0, 2, 3, 1], ([0, 2, 3, 1], [1, 3, 0, 2])), ([0, 3, 1, 2], ([0, 2, 3, 1], [1, 3, 0, 2])), ([0, 3, 1, 2], ([0, 2, 3, 1], [1, 2, 0, 3])), ([0, 3, 1, 2], ([0, 2, 3, 1], [1, 3, 2, 0])), ([0, 3, 1, 2], ([0, 2, 3, 1], [1, 0, 2, 3])), ([0, 3, 1, 2], ([0, 2, 3, 1], [1, 2, 3, 0])), ([0, 3, 1, 2], ([0, 2, 3, 1], [1, 0, 3, 2])),
  ([0, 1, 3, 2], ([0, 2, 3, 1], [0, 1, 2, 3])), ([0, 1, 3, 2], ([0, 2, 3, 1], [0, 1, 3, 2])), ([0, 3, 2, 1], ([0, 2, 3, 1], [0, 1, 3, 2])), ([0, 1, 3, 2], ([0, 2, 3, 1], [0, 3, 1, 2])), ([0, 1, 3, 2], ([0, 2, 3, 1], [0, 2, 3, 1])), ([0, 2, 1, 3], ([0, 2, 3, 1], [0, 1, 3, 2])), ([0, 1, 3, 2], ([0, 2, 3, 1], [1, 0, 2, 3])), ([0, 1, 3, 2], ([0, 2, 3, 1], [1, 0, 3, 2])),
  ([0, 1, 3, 2], ([0, 2, 3, 1], [1, 3, 2, 0])), ([0, 1, 3, 2], ([0, 2, 3, 1], [1, 3, 0, 2])), ([0, 1, 3, 2], ([0, 2, 3, 1], [1, 2, 3, 0])), ([0, 1, 3, 2], ([0, 2, 3, 1], [1, 2, 0, 3])), ([0, 2, 1, 3], ([0, 2, 3, 1], [1, 2, 0, 3])), ([0, 2, 1, 3], ([0, 2, 3, 1], [1, 3, 0, 2])), ([0, 2, 1, 3], ([0, 2, 3, 1], [1, 0, 2, 3])), ([0, 2, 1, 3], ([0, 2, 3, 1], [1, 3, 2, 0])),
  ([0, 2, 1, 3], ([0, 2, 3, 1], [1, 0, 3, 2])), ([0, 2, 1, 3], ([0, 2, 3, 1], [1, 2, 3, 0])), ([0, 3, 2, 1], ([0, 2, 3, 1], [1, 2, 3, 0])), ([0, 3, 2, 1], ([0, 2, 3, 1], [1, 3, 2, 0])), ([0, 3, 2, 1], ([0, 2, 3, 1], [1, 2, 0, 3])), ([0, 3, 2, 1], ([0, 2, 3, 1], [1, 0, 2, 3])), ([0, 3, 2, 1], ([0, 2, 3, 1], [1, 3, 0, 2])), ([0, 3, 2, 1], ([0, 2, 3, 1], [1, 0, 3, 2])),
  ([0, 2, 1, 3], ([0, 1, 3, 2], [0, 1, 2, 3])), ([0, 2, 3, 1], ([0, 1, 3, 2], [0, 2, 1, 3])), ([0, 2, 1, 3], ([0, 1, 3, 2], [0, 2, 1, 3])), ([0, 2, 3, 1], ([0, 1, 3, 2], [0, 2, 3, 1])), ([0, 2, 1, 3], ([0, 1, 3, 2], [0, 2, 3, 1])), ([0, 2, 1, 3], ([0, 1, 3, 2], [0, 1, 3, 2])), ([2, 0, 1, 3], ([0, 1, 3, 2], [0, 2, 1, 3])), ([0, 2, 1, 3], ([0, 1, 3, 2], [2, 3, 0, 1])),
  ([2, 0, 1, 3], ([0, 1, 3, 2], [1, 2, 0, 3])), ([0, 2, 1, 3], ([0, 1, 3, 2], [2, 3, 1, 0])), ([2, 0, 1, 3], ([0, 1, 3, 2], [1, 2, 3, 0])), ([2, 0, 1, 3], ([0, 1, 3, 2], [0, 2, 3, 1])), ([0, 2, 1, 3], ([0, 1, 3, 2], [1, 2, 0, 3])), ([0, 2, 3, 1], ([0, 1, 3, 2], [1, 2, 3, 0])), ([0, 2, 1, 3], ([0, 1, 3, 2], [1, 0, 2, 3])), ([0, 2, 3, 1], ([0, 1, 3, 2], [1, 2, 0, 3])),
  ([0, 2, 1, 3], ([0, 1, 3, 2], [1, 0, 3, 2])), ([0, 2, 1, 3], ([0, 1, 3, 2], [1, 2, 3, 0])), ([0, 2, 3, 1], ([0, 1, 3, 2], [2, 3, 1, 0])), ([2, 0, 3, 1], ([0, 1, 3, 2], [0, 2, 3, 1])), ([2, 0, 3, 1], ([0, 1, 3, 2], [1, 2, 0, 3])), ([2, 0, 3, 1], ([0, 1, 3, 2], [0, 2, 1, 3])), ([2, 0, 3, 1], ([0, 1, 3, 2], [1, 2, 3, 0])), ([0, 2, 3, 1], ([0, 1, 3, 2], [2, 3, 0, 1])),
  ([2, 3, 0, 1], ([0, 1, 3, 2], [0, 1, 2, 3])), ([2, 3, 0, 1], ([0, 1, 3, 2], [1, 0, 2, 3])), ([3, 2, 1, 0], ([0, 1, 3, 2], [0, 2, 1, 3])), ([2, 3, 1, 0], ([0, 1, 3, 2], [1, 2, 0, 3])), ([3, 2, 1, 0], ([0, 1, 3, 2], [1, 2, 0, 3])), ([2, 3, 1, 0], ([0, 1, 3, 2], [0, 2, 1, 3])), ([2, 3, 0, 1], ([0, 1, 3, 2], [0, 1, 3, 2])), ([2, 3, 0, 1], ([0, 1, 3, 2], [1, 0, 3, 2])),
  ([3, 2, 0, 1], ([0, 1, 3, 2], [0, 2, 3, 1])), ([2, 3, 0, 1], ([0, 1, 3, 2], [1, 2, 3, 0])), ([3, 2, 0, 1], ([0, 1, 3, 2], [1, 2, 3, 0])), ([2, 3, 0, 1], ([0, 1, 3, 2], [0, 2, 3, 1])), ([3, 2, 1, 0], ([0, 1, 3, 2], [0, 2, 3, 1])), ([2, 3, 1, 0], ([0, 1, 3, 2], [1, 2, 3, 0])), ([3, 2, 0, 1], ([0, 1, 3, 2], [0, 2, 1, 3])), ([2, 3, 0, 1], ([0, 1, 3, 2], [1, 2, 0, 3])),
  ([2, 3, 0, 1], ([0, 1, 3, 2], [2, 3, 0, 1])), ([2, 3, 1, 0], ([0, 1, 3, 2], [2, 3, 1, 0])), ([3, 2, 1, 0], ([0, 1, 3, 2], [1, 2, 3, 0])), ([2, 3, 1, 0], ([0, 1, 3, 2], [0, 2, 3, 1])), ([3, 2, 0, 1], ([0, 1, 3, 2], [1, 2, 0, 3])), ([2, 3, 0, 1], ([0, 1, 3, 2], [0, 2, 1, 3])), ([2, 3, 0, 1], ([0, 1, 3, 2], [2, 3, 1, 0])), ([2, 3, 1, 0], ([0, 1, 3, 2], [2, 3, 0, 1])),
  ([0, 1, 2, 3], ([1, 0, 3, 2], [0, 1, 2, 3])), ([0, 1, 2, 3], ([1, 0, 3, 2], [0, 1, 3, 2])), ([0, 1, 2, 3], ([1, 0, 3, 2], [0, 2, 1, 3])), ([0, 1, 2, 3], ([1, 0, 3, 2], [0, 2, 3, 1])), ([0, 1, 3, 2], ([1, 0, 3, 2], [0, 2, 3, 1])), ([0, 1, 3, 2], ([1, 0, 3, 2], [0, 2, 1, 3])), ([2, 3, 0, 1], ([1, 0, 3, 2], [0, 1, 3, 2])), ([0, 1, 2, 3], ([1, 0, 3, 2], [1, 0, 3, 2])),
  ([3, 2, 0, 1], ([1, 0, 3, 2], [0, 2, 3, 1])), ([0, 1, 2, 3], ([1, 0, 3, 2], [1, 2, 3, 0])), ([0, 1, 3, 2], ([1, 0, 3, 2], [1, 2, 3, 0])), ([2, 3, 0, 1], ([1, 0, 3, 2], [0, 2, 3, 1])), ([3, 2, 1, 0], ([1, 0, 3, 2], [0, 2, 3, 1])), ([1, 0, 2, 3], ([1, 0, 3, 2], [1, 2, 3, 0])), ([1, 0, 2, 3], ([1, 0, 3, 2], [0, 2, 1, 3])), ([1, 0, 2, 3], ([1, 0, 3, 2], [0, 2, 3, 1])),
  ([0, 1, 2, 3], ([1, 0, 3, 2], [2, 3, 0, 1])), ([0, 1, 2, 3], ([1, 0, 3, 2], [2, 3, 1, 0])), ([1, 0, 3, 2], ([1, 0, 3, 2], [1, 2, 3, 0])), ([2, 3, 1, 0], ([1, 0, 3, 2], [0, 2, 3, 1])), ([1, 0, 3, 2], ([1, 0, 3, 2], [0, 2, 3, 1])), ([1, 0, 3, 2], ([1, 0, 3, 2], [0, 2, 1, 3])), ([0, 1, 3, 2], ([1, 0, 3, 2], [2, 3, 1, 0])), ([0, 1, 3, 2], ([1, 0, 3, 2], [2, 3, 0, 1])),
  ([3, 0, 1, 2], ([0, 2, 3, 1], [0, 1, 2, 3])), ([3, 2, 0, 1], ([0, 2, 3, 1], [1, 0, 2, 3])), ([3, 0, 1, 2], ([0, 2, 3, 1], [0, 1, 3, 2])), ([3, 1, 2, 0], ([0, 2, 3, 1], [1, 2, 0, 3])), ([3, 2, 0, 1], ([0, 2, 3, 1], [1, 3, 2, 0])), ([3, 1, 2, 0], ([0, 2, 3, 1], [1, 0, 2, 3])), ([3, 2, 0, 1], ([0, 2, 3, 1], [0, 1, 3, 2])), ([3, 2, 0, 1], ([0, 2, 3, 1], [1, 0, 3, 2])),
  ([3, 0, 1, 2], ([0, 2, 3, 1], [0, 2, 3, 1])), ([3, 0, 1, 2], ([0, 2, 3, 1], [1, 2, 3, 0])), ([3, 2, 0, 1], ([0, 2, 3, 1], [1, 2, 3, 0])), ([3, 0, 1, 2], ([0, 2, 3, 1], [1, 2, 0, 3])), ([3, 0, 1, 2], ([0, 2, 3, 1], [0, 3, 1, 2])), ([3, 1, 2, 0], ([0, 2, 3, 1], [1, 3, 0, 2])), ([3, 1, 2, 0], ([0, 2, 3, 1], [0, 1, 3, 2])), ([3, 0, 1, 2], ([0, 2, 3, 1], [1, 3, 2, 0])),
  ([3, 1, 2, 0], ([0, 2, 3, 1], [1, 0, 3, 2])), ([3, 0, 1, 2], ([0, 2, 3, 1], [1, 3, 0, 2])), ([3, 2, 0, 1], ([0, 2, 3, 1], [1, 3, 0, 2])), ([3, 1, 2, 0], ([0, 2, 3, 1], [1, 3, 2, 0])), ([3, 2, 0, 1], ([0, 2, 3, 1], [1, 2, 0, 3])), ([3, 0, 1, 2], ([0, 2, 3, 1], [1, 0, 2, 3])), ([3, 1, 2, 0], ([0, 2, 3, 1], [1, 2, 3, 0])), ([3, 0, 1, 2], ([0, 2, 3, 1], [1, 0, 3, 2])),
  ([0, 1, 2, 3], ([1, 2, 3, 0], [0, 1, 2, 3])), ([0, 1, 2, 3], ([1, 2, 3, 0], [0, 1, 3, 2])), ([3, 0, 1, 2], ([1, 2, 3, 0], [0, 1, 3, 2])), ([0, 1, 2, 3], ([1, 2, 3, 0], [0, 2, 3, 1])), ([0, 1, 2, 3], ([1, 2, 3, 0], [0, 3, 1, 2])), ([0, 1, 2, 3], ([1, 2, 3, 0], [0, 3, 2, 1])), ([2, 3, 0, 1], ([1, 2, 3, 0], [0, 1, 3, 2])), ([0, 1, 2, 3], ([1, 2, 3, 0], [1, 0, 3, 2])),
  ([3, 0, 1, 2], ([1, 2, 3, 0], [0, 2, 3, 1])), ([0, 1, 2, 3], ([1, 2, 3, 0], [1, 2, 3, 0])), ([0, 1, 2, 3], ([1, 2, 3, 0], [1, 3, 0, 2])), ([2, 3, 0, 1], ([1, 2, 3, 0], [0, 2, 3, 1])), ([3, 0, 1, 2], ([1, 2, 3, 0], [0, 3, 1, 2])), ([2, 3, 0, 1], ([1, 2, 3, 0], [1, 3, 0, 2])), ([1, 2, 3, 0], ([1, 2, 3, 0], [0, 3, 2, 1])), ([1, 2, 3, 0], ([1, 2, 3, 0], [0, 2, 3, 1])),
  ([0, 1, 2, 3], ([1, 2, 3, 0], [2, 3, 0, 1])), ([3, 0, 1, 2], ([1, 2, 3, 0], [1, 3, 0, 2])), ([0, 1, 2, 3], ([1, 2, 3, 0], [3, 0, 1, 2])), ([2, 3, 0, 1], ([1, 2, 3, 0], [0, 3, 1, 2])), ([1, 2, 3, 0], ([1, 2, 3, 0], [0, 3, 1, 2])), ([1, 2, 3, 0], ([1, 2, 3, 0], [0, 1, 3, 2])), ([1, 2, 3, 0], ([1, 2, 3, 0], [1, 3, 0, 2])), ([1, 2, 3, 0], ([1, 2, 3, 0], [1, 0, 3, 2])),
  ([0, 1, 3, 2], ([1, 2, 3, 0], [0, 1, 2, 3])), ([0, 1, 3, 2], ([1, 2, 3, 0], [0, 1, 3, 2])), ([0, 1, 3, 2], ([1, 2, 3, 0], [0, 3, 2, 1])), ([0, 1, 3, 2], ([1, 2, 3, 0], [0, 3, 1, 2])), ([0, 1, 3, 2], ([1, 2, 3, 0], [0, 2, 3, 1])), ([2, 0, 1, 3], ([1, 2, 3, 0], [0, 1, 3, 2])), ([3, 2, 0, 1], ([1, 2, 3, 0], [0, 1, 3, 2])), ([0, 1, 3, 2], ([1, 2, 3, 0], [1, 0, 3, 2])),
  ([3, 2, 0, 1], ([1, 2, 3, 0], [0, 2, 3, 1])), ([0, 1, 3, 2], ([1, 2, 3, 0], [1, 3, 0, 2])), ([0, 1, 3, 2], ([1, 2, 3, 0], [1, 2, 3, 0])), ([2, 0, 1, 3], ([1, 2, 3, 0], [0, 2, 3, 1])), ([3, 2, 0, 1], ([1, 2, 3, 0], [0, 3, 1, 2])), ([0, 1, 3, 2], ([1, 2, 3, 0], [3, 0, 1, 2])), ([1, 3, 2, 0], ([1, 2, 3, 0], [0, 1, 3, 2])), ([1, 3, 2, 0], ([1, 2, 3, 0], [0, 3, 1, 2])),
  ([1, 3, 2, 0], ([1, 2, 3, 0], [1, 0, 3, 2])), ([1, 3, 2, 0], ([1, 2, 3, 0], [1, 3, 0, 2])), ([3, 2, 0, 1], ([1, 2, 3, 0], [1, 3, 0, 2])), ([2, 0, 1, 3], ([1, 2, 3, 0], [0, 3, 1, 2])), ([1, 3, 2, 0], ([1, 2, 3, 0], [0, 2, 3, 1])), ([1, 3, 2, 0], ([1, 2, 3, 0], [0, 3, 2, 1])), ([2, 0, 1, 3], ([1, 2, 3, 0], [1, 3, 0, 2])), ([0, 1, 3, 2], ([1, 2, 3, 0], [2, 3, 0, 1])),
  ([2, 0, 1, 3], ([0, 2, 3, 1], [0, 1, 2, 3])), ([2, 3, 0, 1], ([0, 2, 3, 1], [1, 0, 2, 3])), ([2, 1, 3, 0], ([0, 2, 3, 1], [1, 0, 2, 3])), ([2, 3, 0, 1], ([0, 2, 3, 1], [1, 3, 2, 0])), ([2, 1, 3, 0], ([0, 2, 3, 1], [1, 2, 0, 3])), ([2, 0, 1, 3], ([0, 2, 3, 1], [0, 1, 3, 2])), ([2, 3, 0, 1], ([0, 2, 3, 1], [0, 1, 3, 2])), ([2, 3, 0, 1], ([0, 2, 3, 1], [1, 0, 3, 2])),
  ([2, 0, 1, 3], ([0, 2, 3, 1], [1, 2, 0, 3])), ([2, 3, 0, 1], ([0, 2, 3, 1], [1, 2, 3, 0])), ([2, 0, 1, 3], ([0, 2, 3, 1], [1, 2, 3, 0])), ([2, 0, 1, 3], ([0, 2, 3, 1], [0, 2, 3, 1])), ([2, 1, 3, 0], ([0, 2, 3, 1], [1, 3, 2, 0])), ([2, 3, 0, 1], ([0, 2, 3, 1], [1, 3, 0, 2])), ([2, 0, 1, 3], ([0, 2, 3, 1], [1, 0, 2, 3])), ([2, 3, 0, 1], ([0, 2, 3, 1], [1, 2, 0, 3])),
  ([2, 0, 1, 3], ([0, 2, 3, 1], [1, 0, 3, 2])), ([2, 1, 3, 0], ([0, 2, 3, 1], [1, 2, 3, 0])), ([2, 1, 3, 0], ([0, 2, 3, 1], [1, 3, 0, 2])), ([2, 0, 1, 3], ([0, 2, 3, 1], [0, 3, 1, 2])), ([2, 0, 1, 3], ([0, 2, 3, 1], [1, 3, 2, 0])), ([2, 1, 3, 0], ([0, 2, 3, 1], [0, 1, 3, 2])), ([2, 0, 1, 3], ([0, 2, 3, 1], [1, 3, 0, 2])), ([2, 1, 3, 0], ([0, 2, 3, 1], [1, 0, 3, 2])),
  ([3, 0, 2, 1], ([0, 2, 3, 1], [0, 1, 2, 3])), ([3, 2, 1, 0], ([0, 2, 3, 1], [1, 0, 2, 3])), ([3, 0, 2, 1], ([0, 2, 3, 1], [0, 1, 3, 2])), ([3, 1, 0, 2], ([0, 2, 3, 1], [1, 3, 2, 0])), ([3, 2, 1, 0], ([0, 2, 3, 1], [1, 2, 0, 3])), ([3, 1, 0, 2], ([0, 2, 3, 1], [1, 0, 2, 3])), ([3, 2, 1, 0], ([0, 2, 3, 1], [0, 1, 3, 2])), ([3, 2, 1, 0], ([0, 2, 3, 1], [1, 0, 3, 2])),
  ([3, 0, 2, 1], ([0, 2, 3, 1], [0, 3, 1, 2])), ([3, 0, 2, 1], ([0, 2, 3, 1], [1, 3, 0, 2])), ([3, 2, 1, 0], ([0, 2, 3, 1], [1, 3, 0, 2])), ([3, 0, 2, 1], ([0, 2, 3, 1], [1, 3, 2, 0])), ([3, 0, 2, 1], ([0, 2, 3, 1], [0, 2, 3, 1])), ([3, 1, 0, 2], ([0, 2, 3, 1], [1, 2, 3, 0])), ([3, 1, 0, 2], ([0, 2, 3, 1], [0, 1, 3, 2])), ([3, 0, 2, 1], ([0, 2, 3, 1], [1, 2, 0, 3])),
  ([3, 1, 0, 2], ([0, 2, 3, 1], [1, 0, 3, 2])), ([3, 0, 2, 1], ([0, 2, 3, 1], [1, 2, 3, 0])), ([3, 2, 1, 0], ([0, 2, 3, 1], [1, 2, 3, 0])), ([3, 1, 0, 2], ([0, 2, 3, 1], [1, 2, 0, 3])), ([3, 2, 1, 0], ([0, 2, 3, 1], [1, 3, 2, 0])), ([3, 0, 2, 1], ([0, 2, 3, 1], [1, 0, 2, 3])), ([3, 1, 0, 2], ([0, 2, 3, 1], [1, 3, 0, 2])), ([3, 0, 2, 1], ([0, 2, 3, 1], [1, 0, 3, 2])),
  ([0, 2, 3, 1], ([1, 2, 3, 0], [0, 1, 2, 3])), ([1, 0, 2, 3], ([1, 2, 3, 0], [0, 1, 3, 2])), ([0, 2, 3, 1], ([1, 2, 3, 0], [0, 3, 2, 1])), ([0, 2, 3, 1], ([1, 2, 3, 0], [0, 2, 3, 1])), ([0, 2, 3, 1], ([1, 2, 3, 0], [0, 3, 1, 2])), ([0, 2, 3, 1], ([1, 2, 3, 0], [0, 1, 3, 2])), ([2, 3, 1, 0], ([1, 2, 3, 0], [0, 1, 3, 2])), ([1, 0, 2, 3], ([1, 2, 3, 0], [1, 0, 3, 2])),
  ([3, 1, 0, 2], ([1, 2, 3, 0], [0, 3, 1, 2])), ([2, 3, 1, 0], ([1, 2, 3, 0], [1, 3, 0, 2])), ([0, 2, 3, 1], ([1, 2, 3, 0], [3, 0, 1, 2])), ([2, 3, 1, 0], ([1, 2, 3, 0], [0, 3, 1, 2])), ([3, 1, 0, 2], ([1, 2, 3, 0], [0, 2, 3, 1])), ([0, 2, 3, 1], ([1, 2, 3, 0], [1, 2, 3, 0])), ([3, 1, 0, 2], ([1, 2, 3, 0], [0, 1, 3, 2])), ([1, 0, 2, 3], ([1, 2, 3, 0], [0, 2, 3, 1])),
  ([0, 2, 3, 1], ([1, 2, 3, 0], [1, 0, 3, 2])), ([0, 2, 3, 1], ([1, 2, 3, 0], [1, 3, 0, 2])), ([1, 0, 2, 3], ([1, 2, 3, 0], [1, 3, 0, 2])), ([2, 3, 1, 0], ([1, 2, 3, 0], [0, 2, 3, 1])), ([1, 0, 2, 3], ([1, 2, 3, 0], [0, 3, 1, 2])), ([1, 0, 2, 3], ([1, 2, 3, 0], [0, 3, 2, 1])), ([3, 1, 0, 2], ([1, 2, 3, 0], [1, 3, 0, 2])), ([0, 2, 3, 1], ([1, 2, 3, 0], [2, 3, 0, 1])),
  ([1, 3, 0, 2], ([0, 1, 3, 2], [0, 1, 2, 3])), ([1, 3, 2, 0], ([0, 1, 3, 2], [0, 2, 1, 3])), ([3, 1, 2, 0], ([0, 1, 3, 2], [0, 2, 1, 3])), ([3, 1, 2, 0], ([0, 1, 3, 2], [1, 2, 0, 3])), ([1, 3, 2, 0], ([0, 1, 3, 2], [1, 2, 0, 3])), ([1, 3, 0, 2], ([0, 1, 3, 2], [1, 0, 2, 3])), ([3, 1, 0, 2], ([0, 1, 3, 2], [0, 2, 1, 3])), ([1, 3, 0, 2], ([0, 1, 3, 2], [2, 3, 0, 1])),
  ([3, 1, 2, 0], ([0, 1, 3, 2], [0, 2, 3, 1])), ([1, 3, 2, 0], ([0, 1, 3, 2], [2, 3, 1, 0])), ([1, 3, 2, 0], ([0, 1, 3, 2], [1, 2, 3, 0])), ([1, 3, 0, 2], ([0, 1, 3, 2], [1, 2, 0, 3])), ([3, 1, 0, 2], ([0, 1, 3, 2], [0, 2, 3, 1])), ([3, 1, 0, 2], ([0, 1, 3, 2], [1, 2, 3, 0])), ([1, 3, 0, 2], ([0, 1, 3, 2], [0, 1, 3, 2])), ([1, 3, 0, 2], ([0, 1, 3, 2], [0, 2, 3, 1])),
  ([1, 3, 0, 2], ([0, 1, 3, 2], [1, 0, 3, 2])), ([1, 3, 0, 2], ([0, 1, 3, 2], [1, 2, 3, 0])), ([1, 3, 0, 2], ([0, 1, 3, 2], [2, 3, 1, 0])), ([3, 1, 0, 2], ([0, 1, 3, 2], [1, 2, 0, 3])), ([1, 3, 2, 0], ([0, 1, 3, 2], [0, 2, 3, 1])), ([1, 3, 0, 2], ([0, 1, 3, 2], [0, 2, 1, 3])), ([3, 1, 2, 0], ([0, 1, 3, 2], [1, 2, 3, 0])), ([1, 3, 2, 0], ([0, 1, 3, 2], [2, 3, 0, 1])),
  ([1, 0, 2, 3], ([0, 2, 3, 1], [0, 1, 2, 3])), ([1, 0, 2, 3], ([0, 2, 3, 1], [0, 1, 3, 2])), ([1, 2, 3, 0], ([0, 2, 3, 1], [1, 0, 2, 3])), ([1, 2, 3, 0], ([0, 2, 3, 1], [1, 2, 0, 3])), ([1, 3, 0, 2], ([0, 2, 3, 1], [1, 3, 2, 0])), ([1, 3, 0, 2], ([0, 2, 3, 1], [1, 0, 2, 3])), ([1, 0, 2, 3], ([0, 2, 3, 1], [1, 0, 2, 3])), ([1, 0, 2, 3], ([0, 2, 3, 1], [1, 0, 3, 2])),
  ([1, 2, 3, 0], ([0, 2, 3, 1], [1, 3, 2, 0])), ([1, 2, 3, 0], ([0, 2, 3, 1], [1, 2, 3, 0])), ([1, 3, 0, 2], ([0, 2, 3, 1], [1, 3, 0, 2])), ([1, 3, 0, 2], ([0, 2, 3, 1], [1, 2, 0, 3])), ([1, 0, 2, 3], ([0, 2, 3, 1], [1, 2, 0, 3])), ([1, 0, 2, 3], ([0, 2, 3, 1], [1, 2, 3, 0])), ([1, 3, 0, 2], ([0, 2, 3, 1], [0, 1, 3, 2])), ([1, 0, 2, 3], ([0, 2, 3, 1], [0, 2, 3, 1])),
  ([1, 3, 0, 2], ([0, 2, 3, 1], [1, 0, 3, 2])), ([1, 3, 0, 2], ([0, 2, 3, 1], [1, 2, 3, 0])), ([1, 0, 2, 3], ([0, 2, 3, 1], [1, 3, 0, 2])), ([1, 0, 2, 3], ([0, 2, 3, 1], [1, 3, 2, 0])), ([1, 0, 2, 3], ([0, 2, 3, 1], [0, 3, 1, 2])), ([1, 2, 3, 0], ([0, 2, 3, 1], [0, 1, 3, 2])), ([1, 2, 3, 0], ([0, 2, 3, 1], [1, 3, 0, 2])), ([1, 2, 3, 0], ([0, 2, 3, 1], [1, 0, 3, 2])),
  ([0, 2, 1, 3], ([1, 0, 3, 2], [0, 1, 2, 3])), ([0, 2, 3, 1], ([1, 0, 3, 2], [0, 2, 1, 3])), ([0, 2, 1, 3], ([1, 0, 3, 2], [0, 2, 1, 3])), ([0, 2, 3, 1], ([1, 0, 3, 2], [0, 2, 3, 1])), ([0, 2, 1, 3], ([1, 0, 3, 2], [0, 2, 3, 1])), ([0, 2, 1, 3], ([1, 0, 3, 2], [0, 1, 3, 2])), ([2, 0, 1, 3], ([1, 0, 3, 2], [0, 2, 1, 3])), ([0, 2, 1, 3], ([1, 0, 3, 2], [2, 3, 0, 1])),
  ([3, 1, 2, 0], ([1, 0, 3, 2], [0, 2, 3, 1])), ([0, 2, 1, 3], ([1, 0, 3, 2], [2, 3, 1, 0])), ([1, 3, 2, 0], ([1, 0, 3, 2], [1, 2, 3, 0])), ([2, 0, 1, 3], ([1, 0, 3, 2], [0, 2, 3, 1])), ([3, 1, 0, 2], ([1, 0, 3, 2], [0, 2, 3, 1])), ([0, 2, 3, 1], ([1, 0, 3, 2], [1, 2, 3, 0])), ([1, 3, 0, 2], ([1, 0, 3, 2], [0, 1, 3, 2])), ([1, 3, 0, 2], ([1, 0, 3, 2], [0, 2, 3, 1])),
  ([0, 2, 1, 3], ([1, 0, 3, 2], [1, 0, 3, 2])), ([0, 2, 1, 3], ([1, 0, 3, 2], [1, 2, 3, 0])), ([0, 2, 3, 1], ([1, 0, 3, 2], [2, 3, 1, 0])), ([2, 0, 3, 1], ([1, 0, 3, 2], [0, 2, 3, 1])), ([1, 3, 2, 0], ([1, 0, 3, 2], [0, 2, 3, 1])), ([1, 3, 0, 2], ([1, 0, 3, 2], [0, 2, 1, 3])), ([2, 0, 3, 1], ([1, 0, 3, 2], [1, 2, 3, 0])), ([0, 2, 3, 1], ([1, 0, 3, 2], [2, 3, 0, 1])),
  ([0, 2, 1, 3], ([1, 2, 3, 0], [0, 1, 2, 3])), ([0, 2, 1, 3], ([1, 2, 3, 0], [0, 3, 2, 1])), ([3, 0, 2, 1], ([1, 2, 3, 0], [0, 1, 3, 2])), ([0, 2, 1, 3], ([1, 2, 3, 0], [0, 3, 1, 2])), ([0, 2, 1, 3], ([1, 2, 3, 0], [0, 2, 3, 1])), ([0, 2, 1, 3], ([1, 2, 3, 0], [0, 1, 3, 2])), ([2, 1, 3, 0], ([1, 2, 3, 0], [0, 3, 2, 1])), ([0, 2, 1, 3], ([1, 2, 3, 0], [2, 3, 0, 1])),
  ([3, 0, 2, 1], ([1, 2, 3, 0], [0, 3, 1, 2])), ([3, 0, 2, 1], ([1, 2, 3, 0], [1, 3, 0, 2])), ([1, 3, 0, 2], ([1, 2, 3, 0], [1, 3, 0, 2])), ([2, 1, 3, 0], ([1, 2, 3, 0], [0, 2, 3, 1])), ([3, 0, 2, 1], ([1, 2, 3, 0], [0, 2, 3, 1])), ([0, 2, 1, 3], ([1, 2, 3, 0], [1, 3, 0, 2])), ([1, 3, 0, 2], ([1, 2, 3, 0], [0, 1, 3, 2])), ([1, 3, 0, 2], ([1, 2, 3, 0], [0, 2, 3, 1])),
  ([0, 2, 1, 3], ([1, 2, 3, 0], [1, 0, 3, 2])), ([0, 2, 1, 3], ([1, 2, 3, 0], [1, 2, 3, 0])), ([2, 1, 3, 0], ([1, 2, 3, 0], [1, 3, 0, 2])), ([2, 1, 3, 0], ([1, 2, 3, 0], [0, 3, 1, 2])), ([1, 3, 0, 2], ([1, 2, 3, 0], [0, 3, 1, 2])), ([2, 1, 3, 0], ([1, 2, 3, 0], [0, 1, 3, 2])), ([0, 2, 1, 3], ([1, 2, 3, 0], [3, 0, 1, 2])), ([2, 1, 3, 0], ([1, 2, 3, 0], [1, 0, 3, 2])),
  ([0, 3, 2, 1], ([1, 2, 3, 0], [0, 1, 2, 3])), ([1, 0, 3, 2], ([1, 2, 3, 0], [0, 1, 3, 2])), ([0, 3, 2, 1], ([1, 2, 3, 0], [0, 1, 3, 2])), ([0, 3, 2, 1], ([1, 2, 3, 0], [0, 3, 1, 2])), ([0, 3, 2, 1], ([1, 2, 3, 0], [0, 2, 3, 1])), ([0, 3, 2, 1], ([1, 2, 3, 0], [0, 3, 2, 1])), ([3, 2, 1, 0], ([1, 2, 3, 0], [0, 1, 3, 2])), ([1, 0, 3, 2], ([1, 2, 3, 0], [1, 0, 3, 2])),
  ([3, 2, 1, 0], ([1, 2, 3, 0], [0, 3, 1, 2])), ([0, 3, 2, 1], ([1, 2, 3, 0], [3, 0, 1, 2])), ([3, 2, 1, 0], ([1, 2, 3, 0], [1, 3, 0, 2])), ([2, 1, 0, 3], ([1, 2, 3, 0], [0, 3, 1, 2])), ([3, 2, 1, 0], ([1, 2, 3, 0], [0, 2, 3, 1])), ([1, 0, 3, 2], ([1, 2, 3, 0], [1, 3, 0, 2])), ([1, 0, 3, 2], ([1, 2, 3, 0], [0, 3, 2, 1])), ([1, 0, 3, 2], ([1, 2, 3, 0], [0, 3, 1, 2])),
  ([0, 3, 2, 1], ([1, 2, 3, 0], [2, 3, 0, 1])), ([2, 1, 0, 3], ([1, 2, 3, 0], [1, 3, 0, 2])), ([0, 3, 2, 1], ([1, 2, 3, 0], [1, 2, 3, 0])), ([2, 1, 0, 3], ([1, 2, 3, 0], [0, 2, 3, 1])), ([1, 0, 3, 2], ([1, 2, 3, 0], [0, 2, 3, 1])), ([2, 1, 0, 3], ([1, 2, 3, 0], [0, 1, 3, 2])), ([0, 3, 2, 1], ([1, 2, 3, 0], [1, 3, 0, 2])), ([0, 3, 2, 1], ([1, 2, 3, 0], [1, 0, 3, 2])),
  ([2, 0, 3, 1], ([0, 2, 3, 1], [0, 1, 2, 3])), ([2, 3, 1, 0], ([0, 2, 3, 1], [1, 0, 2, 3])), ([2, 1, 0, 3], ([0, 2, 3, 1], [1, 0, 2, 3])), ([2, 3, 1, 0], ([0, 2, 3, 1], [1, 2, 0, 3])), ([2, 1, 0, 3], ([0, 2, 3, 1], [1, 3, 2, 0])), ([2, 0, 3, 1], ([0, 2, 3, 1], [0, 1, 3, 2])), ([2, 3, 1, 0], ([0, 2, 3, 1], [0, 1, 3, 2])), ([2, 3, 1, 0], ([0, 2, 3, 1], [1, 0, 3, 2])),
  ([2, 0, 3, 1], ([0, 2, 3, 1], [1, 3, 2, 0])), ([2, 3, 1, 0], ([0, 2, 3, 1], [1, 3, 0, 2])), ([2, 0, 3, 1], ([0, 2, 3, 1], [1, 3, 0, 2])), ([2, 0, 3, 1], ([0, 2, 3, 1], [0, 3, 1, 2])), ([2, 1, 0, 3], ([0, 2, 3, 1], [1, 2, 0, 3])), ([2, 3, 1, 0], ([0, 2, 3, 1], [1, 2, 3, 0])), ([2, 0, 3, 1], ([0, 2, 3, 1], [1, 0, 2, 3])), ([2, 3, 1, 0], ([0, 2, 3, 1], [1, 3, 2, 0])),
  ([2, 0, 3, 1], ([0, 2, 3, 1], [1, 0, 3, 2])), ([2, 1, 0, 3], ([0, 2, 3, 1], [1, 3, 0, 2])), ([2, 1, 0, 3], ([0, 2, 3, 1], [1, 2, 3, 0])), ([2, 0, 3, 1], ([0, 2, 3, 1], [0, 2, 3, 1])), ([2, 0, 3, 1], ([0, 2, 3, 1], [1, 2, 0, 3])), ([2, 1, 0, 3], ([0, 2, 3, 1], [0, 1, 3, 2])), ([2, 0, 3, 1], ([0, 2, 3, 1], [1, 2, 3, 0])), ([2, 1, 0, 3], ([0, 2, 3, 1], [1, 0, 3, 2])),
  ([1, 0, 3, 2], ([0, 2, 3, 1], [0, 1, 2, 3])), ([1, 0, 3, 2], ([0, 2, 3, 1], [0, 1, 3, 2])), ([1, 2, 0, 3], ([0, 2, 3, 1], [1, 0, 2, 3])), ([1, 2, 0, 3], ([0, 2, 3, 1], [1, 3, 2, 0])), ([1, 3, 2, 0], ([0, 2, 3, 1], [1, 2, 0, 3])), ([1, 3, 2, 0], ([0, 2, 3, 1], [1, 0, 2, 3])), ([1, 0, 3, 2], ([0, 2, 3, 1], [1, 0, 2, 3])), ([1, 0, 3, 2], ([0, 2, 3, 1], [1, 0, 3, 2])),
  ([1, 2, 0, 3], ([0, 2, 3, 1], [1, 2, 0, 3])), ([1, 2, 0, 3], ([0, 2, 3, 1], [1, 3, 0, 2])), ([1, 3, 2, 0], ([0, 2, 3, 1], [1, 2, 3, 0])), ([1, 3, 2, 0], ([0, 2, 3, 1], [1, 3, 2, 0])), ([1, 0, 3, 2], ([0, 2, 3, 1], [1, 3, 2, 0])), ([1, 0, 3, 2], ([0, 2, 3, 1], [1, 3, 0, 2])), ([1, 3, 2, 0], ([0, 2, 3, 1], [0, 1, 3, 2])), ([1, 0, 3, 2], ([0, 2, 3, 1], [0, 3, 1, 2])),
  ([1, 3, 2, 0], ([0, 2, 3, 1], [1, 0, 3, 2])), ([1, 3, 2, 0], ([0, 2, 3, 1], [1, 3, 0, 2])), ([1, 0, 3, 2], ([0, 2, 3, 1], [1, 2, 3, 0])), ([1, 0, 3, 2], ([0, 2, 3, 1], [1, 2, 0, 3])), ([1, 0, 3, 2], ([0, 2, 3, 1], [0, 2, 3, 1])), ([1, 2, 0, 3], ([0, 2, 3, 1], [0, 1, 3, 2])), ([1, 2, 0, 3], ([0, 2, 3, 1], [1, 2, 3, 0])), ([1, 2, 0, 3], ([0, 2, 3, 1], [1, 0, 3, 2])),
  ([1, 2, 0, 3], ([0, 1, 3, 2], [0, 1, 2, 3])), ([1, 2, 3, 0], ([0, 1, 3, 2], [0, 2, 1, 3])), ([1, 2, 0, 3], ([0, 1, 3, 2], [1, 0, 2, 3])), ([1, 2, 3, 0], ([0, 1, 3, 2], [1, 2, 0, 3])), ([2, 1, 3, 0], ([0, 1, 3, 2], [1, 2, 0, 3])), ([2, 1, 3, 0], ([0, 1, 3, 2], [0, 2, 1, 3])), ([2, 1, 0, 3], ([0, 1, 3, 2], [0, 2, 1, 3])), ([1, 2, 0, 3], ([0, 1, 3, 2], [2, 3, 0, 1])),
  ([1, 2, 0, 3], ([0, 1, 3, 2], [1, 2, 0, 3])), ([1, 2, 3, 0], ([0, 1, 3, 2], [1, 2, 3, 0])), ([1, 2, 3, 0], ([0, 1, 3, 2], [2, 3, 1, 0])), ([2, 1, 3, 0], ([0, 1, 3, 2], [0, 2, 3, 1])), ([2, 1, 0, 3], ([0, 1, 3, 2], [1, 2, 0, 3])), ([1, 2, 0, 3], ([0, 1, 3, 2], [2, 3, 1, 0])), ([1, 2, 0, 3], ([0, 1, 3, 2], [0, 2, 1, 3])), ([1, 2, 3, 0], ([0, 1, 3, 2], [0, 2, 3, 1])),
  ([1, 2, 3, 0], ([0, 1, 3, 2], [2, 3, 0, 1])), ([2, 1, 3, 0], ([0, 1, 3, 2], [1, 2, 3, 0])), ([2, 1, 0, 3], ([0, 1, 3, 2], [1, 2, 3, 0])), ([2, 1, 0, 3], ([0, 1, 3, 2], [0, 2, 3, 1])), ([1, 2, 0, 3], ([0, 1, 3, 2], [0, 2, 3, 1])), ([1, 2, 0, 3], ([0, 1, 3, 2], [0, 1, 3, 2])), ([1, 2, 0, 3], ([0, 1, 3, 2], [1, 2, 3, 0])), ([1, 2, 0, 3], ([0, 1, 3, 2], [1, 0, 3, 2])),
  ([0, 3, 1, 2], ([1, 2, 3, 0], [0, 1, 2, 3])), ([0, 3, 1, 2], ([1, 2, 3, 0], [0, 3, 2, 1])), ([0, 3, 1, 2], ([1, 2, 3, 0], [0, 1, 3, 2])), ([0, 3, 1, 2], ([1, 2, 3, 0], [0, 2, 3, 1])), ([0, 3, 1, 2], ([1, 2, 3, 0], [0, 3, 1, 2])), ([2, 0, 3, 1], ([1, 2, 3, 0], [0, 1, 3, 2])), ([2, 0, 3, 1], ([1, 2, 3, 0], [0, 3, 2, 1])), ([0, 3, 1, 2], ([1, 2, 3, 0], [2, 3, 0, 1])),
  ([3, 1, 2, 0], ([1, 2, 3, 0], [0, 2, 3, 1])), ([1, 2, 0, 3], ([1, 2, 3, 0], [1, 3, 0, 2])), ([2, 0, 3, 1], ([1, 2, 3, 0], [1, 3, 0, 2])), ([2, 0, 3, 1], ([1, 2, 3, 0], [0, 3, 1, 2])), ([3, 1, 2, 0], ([1, 2, 3, 0], [0, 3, 1, 2])), ([3, 1, 2, 0], ([1, 2, 3, 0], [1, 3, 0, 2])), ([3, 1, 2, 0], ([1, 2, 3, 0], [0, 1, 3, 2])), ([1, 2, 0, 3], ([1, 2, 3, 0], [0, 3, 1, 2])),
  ([2, 0, 3, 1], ([1, 2, 3, 0], [1, 0, 3, 2])), ([0, 3, 1, 2], ([1, 2, 3, 0], [3, 0, 1, 2])), ([0, 3, 1, 2], ([1, 2, 3, 0], [1, 3, 0, 2])), ([2, 0, 3, 1], ([1, 2, 3, 0], [0, 2, 3, 1])), ([1, 2, 0, 3], ([1, 2, 3, 0], [0, 2, 3, 1])), ([1, 2, 0, 3], ([1, 2, 3, 0], [0, 1, 3, 2])), ([0, 3, 1, 2], ([1, 2, 3, 0], [1, 2, 3, 0])), ([0, 3, 1, 2], ([1, 2, 3, 0], [1, 0, 3, 2])),
  ([0, 3, 1, 2], ([1, 0, 3, 2], [0, 1, 2, 3])), ([0, 3, 2, 1], ([1, 0, 3, 2], [0, 2, 1, 3])), ([0, 3, 1, 2], ([1, 0, 3, 2], [0, 1, 3, 2])), ([0, 3, 1, 2], ([1, 0, 3, 2], [0, 2, 3, 1])), ([0, 3, 2, 1], ([1, 0, 3, 2], [0, 2, 3, 1])), ([0, 3, 1, 2], ([1, 0, 3, 2], [0, 2, 1, 3])), ([2, 1, 0, 3], ([1, 0, 3, 2], [0, 2, 1, 3])), ([0, 3, 1, 2], ([1, 0, 3, 2], [2, 3, 0, 1])),
  ([3, 0, 1, 2], ([1, 0, 3, 2], [0, 2, 3, 1])), ([1, 2, 3, 0], ([1, 0, 3, 2], [1, 2, 3, 0])), ([0, 3, 1, 2], ([1, 0, 3, 2], [2, 3, 1, 0])), ([2, 1, 3, 0], ([1, 0, 3, 2], [0, 2, 3, 1])), ([3, 0, 2, 1], ([1, 0, 3, 2], [0, 2, 3, 1])), ([0, 3, 2, 1], ([1, 0, 3, 2], [2, 3, 1, 0])), ([1, 2, 0, 3], ([1, 0, 3, 2], [0, 2, 1, 3])), ([1, 2, 3, 0], ([1, 0, 3, 2], [0, 2, 3, 1])),
  ([0, 3, 2, 1], ([1, 0, 3, 2], [2, 3, 0, 1])), ([2, 1, 3, 0], ([1, 0, 3, 2], [1, 2, 3, 0])), ([0, 3, 2, 1], ([1, 0, 3, 2], [1, 2, 3, 0])), ([2, 1, 0, 3], ([1, 0, 3, 2], [0, 2, 3, 1])), ([1, 2, 0, 3], ([1, 0, 3, 2], [0, 2, 3, 1])), ([1, 2, 0, 3], ([1, 0, 3, 2], [0, 1, 3, 2])), ([0, 3, 1, 2], ([1, 0, 3, 2], [1, 2, 3, 0])), ([0, 3, 1, 2], ([1, 0, 3, 2], [1, 0, 3, 2]))]
theorem c2 : ((perms 2).all fun a => chk 2 [a] && (perms 2).all fun b => chk 2 [a, b]) = true := by decide +kernel
theorem c3 : ((perms 3).all fun a => chk 3 [a] && (perms 3).all fun b => chk 3 [a, b]) = true := by decide +kernel
theorem c4 : ((perms 4).all fun a => chk 4 [a]) = true := by decide +kernel
theorem c4r : (reps.all fun r => chk 4 [r.1, r.2]) = true := by decide +kernel
theorem c4t : (repT.map fun x => [cnj x.1 x.2.1, cnj x.1 x.2.2]) = (perms 4).flatMap (fun a => (perms 4).map fun b => [a, b]) := by decide +kernel
theorem c4o : (repT.all fun x => isPB 4 x.1 && reps.contains x.2) = true := by decide +kernel
theorem good_chk {n : Nat} {lock : List Tn} (hn : n ≤ 16) (h : chk n lock = true) : Good n lock (spn n lock) := by
  unfold chk at h
  rw [Bool.and_eq_true] at h
  exact good_of hn rfl h.1 h.2
theorem p2 : ((List.range 2).all fun x => (List.range 2).all fun y => !(decide [x, y].Nodup) || (perms 2).contains [x, y]) = true := by decide +kernel
theorem p3 : ((List.range 3).all fun x => (List.range 3).all fun y => (List.range 3).all fun z => !(decide [x, y, z].Nodup) || (perms 3).contains [x, y, z]) = true := by decide +kernel
theorem p4 : ((List.range 4).all fun x => (List.range 4).all fun y => (List.range 4).all fun z => (List.range 4).all fun u => !(decide [x, y, z, u].Nodup) || (perms 4).contains [x, y, z, u]) = true := by decide +kernel
theorem rg {n x : Nat} (h : x < n) : x ∈ List.range n := List.mem_range.mpr h
theorem orC {l : Tn} {P : List Tn} (h : (!(decide l.Nodup) || P.contains l) = true) (hd : l.Nodup) : l ∈ P := by
  rw [decide_eq_true hd] at h
  exact List.contains_iff_mem.mp (by simpa using h)
theorem mem_perms {n : Nat} (h2 : 2 ≤ n) (h4 : n ≤ 4) {t : Tn} (h : IsP n t) : t ∈ perms n := by
  obtain ⟨hl, hlt, hd⟩ := h
  have hn : n = 2 ∨ n = 3 ∨ n = 4 := by omega
  rcases hn with rfl | rfl | rfl
  · match t, hl with
    | [x, y], _ => exact orC (List.all_eq_true.mp (List.all_eq_true.mp p2 x (rg (hlt x (by simp)))) y (rg (hlt y (by simp)))) hd
  · match t, hl with
    | [x, y, z], _ => exact orC (List.all_eq_true.mp (List.all_eq_true.mp (List.all_eq_true.mp p3 x (rg (hlt x (by simp)))) y (rg (hlt y (by simp)))) z (rg (hlt z (by simp)))) hd
  · match t, hl with
    | [x, y, z, u], _ => exact orC (List.all_eq_true.mp (List.all_eq_true.mp (List.all_eq_true.mp (List.all_eq_true.mp p4 x (rg (hlt x (by simp)))) y (rg (hlt y (by simp)))) z (rg (hlt z (by simp)))) u (rg (hlt u (by simp)))) hd
theorem good_one {n : Nat} (h2 : 2 ≤ n) (h4 : n ≤ 4) {a : Tn} (ha : IsP n a) : ∃ W, Good n [a] W := by
  have hm := mem_perms h2 h4 ha
  have hn : n = 2 ∨ n = 3 ∨ n = 4 := by omega
  rcases hn with rfl | rfl | rfl
  · exact ⟨_, good_chk (by decide) ((Bool.and_eq_true _ _).mp (List.all_eq_true.mp c2 a hm)).1⟩
  · exact ⟨_, good_chk (by decide) ((Bool.and_eq_true _ _).mp (List.all_eq_true.mp c3 a hm)).1⟩
  · exact ⟨_, good_chk (by decide) (List.all_eq_true.mp c4 a hm)⟩
theorem good_two {n : Nat} (h2 : 2 ≤ n) (h4 : n ≤ 4) {a b : Tn} (ha : IsP n a) (hb : IsP n b) : ∃ W, Good n [a, b] W := by
  have hm := mem_perms h2 h4 ha
  have hm' := mem_perms h2 h4 hb
  have hn : n = 2 ∨ n = 3 ∨ n = 4 := by omega
  rcases hn with rfl | rfl | rfl
  · exact ⟨_, good_chk (by decide) (List.all_eq_true.mp ((Bool.and_eq_true _ _).mp (List.all_eq_true.mp c2 a hm)).2 b hm')⟩
  · exact ⟨_, good_chk (by decide) (List.all_eq_true.mp ((Bool.and_eq_true _ _).mp (List.all_eq_true.mp c3 a hm)).2 b hm')⟩
  · have h : [a, b] ∈ (perms 4).flatMap (fun a => (perms 4).map fun b => [a, b]) := List.mem_flatMap.mpr ⟨a, hm, List.mem_map.mpr ⟨b, hm', rfl⟩⟩
    rw [← c4t] at h
    obtain ⟨⟨o, r⟩, hx, e⟩ := List.mem_map.mp h
    have ho := (Bool.and_eq_true _ _).mp (List.all_eq_true.mp c4o _ hx)
    have hr := List.contains_iff_mem.mp ho.2
    have g := good_chk (by decide) (List.all_eq_true.mp c4r r hr)
    rw [← e]
    exact ⟨_, g.cnj (by decide) (isPB_ok ho.1)⟩
end Lk
set_option Elab.async false
set_option linter.all false
set_option maxRecDepth 100000
namespace Lk
open PySem PySem.Spec PyProof.Rows L2
/-! enumerate over a tuple -/
set_option maxHeartbeats 1000000 in
theorem enum_new_any {v : Value} {ob : Obj} {Hp0 : Heap → Prop} (B : Begins v ob Hp0) :
    Meets (Builtin.«enumerate.__new__» ⟨[.type "enumerate", v], []⟩) (fun _ R s => Hp0 s.heap ∧
      R (.ok (.ret (.ref (s.heap.push ob).objs.size))) { s with heap := (s.heap.push ob).push { cls := .type "enumerate", data := .fields #[.none, .bool false, .ref s.heap.objs.size, rawInt 0, .none, .none] } }) :=
  .of_wp fun prog w A R s hh => by
    obtain ⟨hp, g, d, tk, os⟩ := s
    obtain ⟨h1, hr⟩ := hh
    have isSub := sub_enumerate
    have starts : ∀ {A' : Around} {E : Value → Shared → Prop} {Q : Value → Shared → Prop}, Q (.ref hp.objs.size) ⟨hp.push ob, g, d, tk, os⟩ → wpAny (model prog w) A' (pyIter v) Q E ⟨hp, g, d, tk, os⟩ :=
      fun q => B.iter prog w _ _ ⟨hp, g, d, tk, os⟩ _ h1 q
    wp_walk using starts
    refine wpAny_stack_any fun st => wpAny_pure ?_
    split
    · rename_i c _ _ _ _ _
      cases (c == Value.type "enumerate") <;> (wp_walk using starts; exact ⟨_, rfl, hr⟩)
    · wp_walk using starts
      exact ⟨_, rfl, hr⟩
theorem call_enum_any {prog : Program} {w : World} {A : Around} {E : Value → Shared → Prop} {s : Shared} {v : Value} {ob : Obj} {Hp0 : Heap → Prop} {Q : Value → Shared → Prop} (B : Begins v ob Hp0) (h1 : Hp0 s.heap)
    (h : ∀ h', IsEnum h' (s.heap.objs.size + 1) s.heap.objs.size 0 .none → h'.get? s.heap.objs.size = some ob → (∀ b o, s.heap.get? b = some o → h'.get? b = some o) → Q (.ref (s.heap.objs.size + 1)) { s with heap := h' }) :
    wpAny (model prog w) A (call (.type "enumerate") [v]) Q E s := by
  refine callType_new F.called_enumerate (by decide) (F.typeCall_enumerate_1 _) (F.newCall_enumerate_1 _) (fun obj => F.args_object_init_2 obj _) F.entry_enumerate_new (enum_new_any B) ⟨h1, ?_⟩
  have size1 : (s.heap.push ob).objs.size = s.heap.objs.size + 1 := Heap.size_push ..
  show _ ∧ _
  rw [size1]
  have isE : IsEnum ((s.heap.push ob).push { cls := .type "enumerate", data := .fields #[.none, .bool false, .ref s.heap.objs.size, rawInt 0, .none, .none] }) (s.heap.objs.size + 1) s.heap.objs.size 0 .none := by
    have q := Heap.get?_push_size (s.heap.push ob) (o := { cls := .type "enumerate", data := .fields #[.none, .bool false, .ref s.heap.objs.size, rawInt 0, .none, .none] }) rfl
    rw [size1] at q
    exact q
  exact ⟨⟨_, isE, rfl⟩, h _ isE (Heap.get?_push_of_some _ (Heap.get?_push_size _ B.free)) fun b o x => Heap.get?_push_of_some _ (Heap.get?_push_of_some _ x)⟩
/-- the tuple at a, each item in a new pair with its place -/
def Iet (K : PySem.W.Frag) (a : Addr) : It :=
  ⟨fun i H => ∃ (xs : List V) (x : V), SqT K H a xs ∧ xs[i]? = some x, fun i H v H' => ∃ T x, v = .ref T ∧ H T = none ∧ H' = upd H T (.tup [.int (i : Nat), x]) ∧ ∀ xs, SqT K H a xs → xs[i]? = some x, fun i H => ∃ xs : List V, SqT K H a xs ∧ xs.length = i⟩
theorem isTup_ne {h : Heap} {a b : Addr} {items : Array Value} {T : String} {o : Obj} (p : IsTup h a items) (hb : h.get? b = some o) (hc : o.cls = .type T) (hT : T ≠ "tuple") : a ≠ b := fun e => by
  obtain ⟨o1, h1, c1, _⟩ := p
  rw [e, hb] at h1
  cases h1
  rw [hc] at c1
  injection c1 with c1
  exact hT c1
theorem turn_enumT {P : Program} {w : World} {K : PySem.W.Frag} {elts : List Expr} {kk : Nat} {tpos : Pos} (a e it : Addr) :
    Turn P w K (.Tuple elts kk tpos) (Iet K a) [e, it] e (fun i h => (∃ old, IsEnum h e it ((i : Nat) : Int) old) ∧ h.IsTupleIter it a i ∧ e ≠ it) where
  mem := by simp
  obj := fun i h st b hb => by
    obtain ⟨⟨old, he⟩, ⟨o, ho, hc, hd⟩, _⟩ := st
    rcases List.mem_cons.mp hb with z | z
    · rw [z]; exact ⟨_, he, fun v q => nomatch q⟩
    · rw [List.mem_singleton.mp z]; exact ⟨o, ho, fun v q => by rw [hd] at q; cases q⟩
  keep := fun i h h' st k => let ⟨⟨old, he⟩, hi, hne⟩ := st; ⟨⟨old, k e (by simp) _ he⟩, hi.at fun o q => k it (by simp) o q, hne⟩
  item := by
    intro X hP hw hK hc i pins s σ H E I hf st hg
    subst hP hw hK
    obtain ⟨⟨old, he⟩, hit, hne⟩ := st
    obtain ⟨xs, x, hq, hx⟩ := hg
    obtain ⟨its, rv, p, hz⟩ := I.tuple hq
    obtain ⟨u, hu, ru⟩ := rv.get hx
    have hel : e < s.heap.objs.size := Heap.lt_size he
    have hil : it < s.heap.objs.size := by obtain ⟨_, q, _⟩ := hit; exact Heap.lt_size q
    have ae : a ≠ e := isTup_ne p he rfl (by decide)
    have ai : a ≠ it := by obtain ⟨o, ho, hcl, _⟩ := hit; exact isTup_ne p ho hcl (by decide)
    have hlt : i < its.toArray.size := by rw [List.size_toArray, ← rv.length]; exact (List.getElem?_eq_some_iff.mp hx).1
    refine wpAny_pyNext_enum_itemD (Draws.tuple (prog := X.prog) (w := X.w) (A := X.A.in1) (show X.A.in1.handled = none from I.ok.hd hc) it a ai its.toArray) he ⟨hit, p⟩ hlt hne (by simp only [List.mem_cons, List.not_mem_nil, or_false, not_or]; exact ⟨hne, ae.symm⟩) fun y h' tk hy ho hst hT hsz hk => ?_
    have eu : y = u := by
      have h1 : its.toArray[i]? = some y := hy
      have h2 : its.toArray[i]? = some u := by simpa using hu
      exact Option.some.inj (h1.symm.trans h2)
    subst eu
    refine ⟨_, rfl, wpAny_letOwnedTupleGo_enum (s := { s with heap := h', toks := tk + 1 }) ho fun h'' he' sb => ?_⟩
    have hT2 : h''.get? s.heap.objs.size = some { cls := .type "tuple", data := .seq #[.int i tk, y] } := (sb.2 _ (Nat.ne_of_gt hel)).trans hT
    have new : ObjOk X.prog X.w (upd H s.heap.objs.size (.tup [.int (i : Nat), x])) h'' s.heap.objs.size (.tup [.int (i : Nat), x]) :=
      ⟨by show 2 ≤ sizeLine; decide, [.int i tk, y], .cons ⟨_, rfl⟩ (.cons ru .nil), ⟨_, hT2, rfl, _, rfl⟩⟩
    have I1 : Inv X pins σ (upd H s.heap.objs.size (.tup [.int (i : Nat), x])) { s with heap := h'', toks := tk + 1 } :=
      I.turnedNew (ch := [e, it]) (fun b ob hb q => (sb.2 b (fun z => hb (by simp [z]))).trans (hk b ob (fun z => hb (by simp [z])) (fun z => hb (by simp [z])) q)) hf (Nat.le_refl _) new
    refine ⟨.ref s.heap.objs.size, _, I1, rfl, ⟨_, x, rfl, I.hok.fresh (Nat.le_refl _), rfl, fun ys hy => by rw [I.tuple_inj hy hq]; exact hx⟩, ⟨⟨y, ?_⟩, hst.1.at fun o q => (sb.2 it (Ne.symm hne)).trans q, hne⟩, fun b hb => ?_⟩
    · have e1 : ((i + 1 : Nat) : Int) = (i : Int) + 1 := by omega
      rw [e1]; exact he'
    · have hb' : b < s.heap.objs.size := by
        rcases List.mem_cons.mp hb with z | z
        · rw [z]; exact hel
        · rw [List.mem_singleton.mp z]; exact hil
      rw [upd_ne (Nat.ne_of_lt hb')]
      exact (hf b hb).1
  done := by
    intro X hP hw hK hc i pins s σ H E I hf st hg
    subst hP hw hK
    obtain ⟨⟨old, he⟩, hit, hne⟩ := st
    obtain ⟨xs, hq, hx⟩ := hg
    obtain ⟨its, rv, p, hz⟩ := I.tuple hq
    obtain ⟨f0, f1, f2, f3, f4, f5⟩ := hf it (by simp)
    have hl := rv.length
    have ai : a ≠ it := by obtain ⟨o, ho, hcl, _⟩ := hit; exact isTup_ne p ho hcl (by decide)
    have es : its.toArray.size = i := by rw [List.size_toArray, ← hl, hx]
    have D := Draws.tuple (prog := X.prog) (w := X.w) (A := X.A.in1) (show X.A.in1.handled = none from I.ok.hd hc) it a ai its.toArray
    rw [es] at D
    exact wpAny_pyNext_enum_endD D he ⟨hit, p⟩ fun h' eb => ⟨rfl, I.turned (t' := s.toks) (fun b o hb q => eb b o hb q) f0 f1 f3 f4 f5⟩
  self := fun A i s Q E st h => let ⟨⟨_, he⟩, _⟩ := st; wpAny_pyIter_enum he h
def iEnumT (K : PySem.W.Frag) (ta : TA) : TI := fun σ H R => ta σ H fun vs H1 => ∃ a xs, vs = [.ref a] ∧ SqT K H1 a xs ∧ R (Iet K a) H1
theorem pi_enumT {X : Cx} {e : Expr} {ta : TA} {p pos tpos : Pos} {elts : List Expr} {kk : Nat} (hg : Gl X "enumerate") (hm : X.mg "enumerate" = none) (ha : PA X [e] ta) (hs : starEach [e] X.env = [(false, eval e X.env)] := by rfl) :
    PI X (.Tuple elts kk tpos) (.Call (.Name "enumerate" p) [e] [] pos) (iEnumT X.K ta) := by
  refine ⟨fun pins s σ H R I h => ?_⟩
  refine Call_ (ld_blt I hg hm boot_enumerate (PyProof.Rows.callWith_type1 (thn (ha.run pos pins s σ H _ I h) fun us s1 ⟨vs, H1, I1, r1, q1⟩ => ?_) hs rfl))
  obtain ⟨a, xs, rfl, hq, q⟩ := q1
  rw [Vals.ref1 r1]
  obtain ⟨its, rv, p', hz⟩ := I1.tuple hq
  refine call_enum_any (begins_tuple a its.toArray) p' fun h' he hit hk => wpAny_pyIter_enum he ?_
  refine ⟨s1.heap.objs.size + 1, [s1.heap.objs.size + 1, s1.heap.objs.size], _, _, H1, rfl, I1.kept (t' := s1.toks) hk, turn_enumT a (s1.heap.objs.size + 1) s1.heap.objs.size, ⟨⟨.none, he⟩, ⟨_, hit, rfl, rfl⟩, Nat.succ_ne_self _⟩, fun b hb => ?_, q⟩
  have hle : s1.heap.objs.size ≤ b := by
    rcases List.mem_cons.mp hb with z | z
    · rw [z]; exact Nat.le_add_right _ _
    · rw [List.mem_singleton.mp z]; exact Nat.le_refl _
  exact I1.fpOk hle (I1.hok.fresh hle)
end Lk
set_option Elab.async false
set_option linter.all false
set_option maxRecDepth 100000
namespace Lk
open PySem PySem.Spec PyProof.Rows L2
theorem ip_mulW {X : Cx} : OpR X (inplaceOp .Mult) (rI CMulW fun i j => .int (i * j)) := opI fun i j _ _ _ _ _ hc q => imul_int q hc.ok
/-- for i, x in enumerate(a tuple) -/
theorem for_enumT {K : PySem.W.Frag} {a : Addr} {xs : List V} {g : TG} {tb : TS} {D : Ends} {σ : L2.St} {H : Hp} (Pv : Nat → L2.St → Hp → Prop) (h0 : Pv 0 σ H) (hl : ∀ i σ H, i ≤ xs.length → Pv i σ H → SqT K H a xs)
    (hs : ∀ i x σ H T, xs[i]? = some x → Pv i σ H → H T = none → g (.ref T) σ (upd H T (.tup [.int (i : Nat), x])) fun σ2 H2 => tb { D with nx := Pv (i + 1), ct := Pv (i + 1), bk := D.nx } σ2 H2) (hd : ∀ σ H, Pv xs.length σ H → D.nx σ H) :
    ∃ W : Nat → Nat → L2.St → Hp → Prop, (∃ m, W 0 m σ H) ∧ ∀ i m σ H, W i m σ H →
      ((Iet K a).stop i H ∧ D.nx σ H) ∨ ((Iet K a).go i H ∧ ∃ N : L2.St → Hp → Prop, (∀ σ' H', N σ' H' → ∃ m', m' < m ∧ W (i + 1) m' σ' H') ∧ ∀ x H', (Iet K a).yld i H x H' → g x σ H' fun σ2 H2 => tb { D with nx := N, ct := N, bk := D.nx } σ2 H2) := by
  refine ⟨fun i m σ H => m = xs.length - i ∧ i ≤ xs.length ∧ Pv i σ H, ⟨xs.length, by omega, Nat.zero_le _, h0⟩, ?_⟩
  rintro i m σ H ⟨rfl, hle, p⟩
  have q := hl i σ H hle p
  rcases Nat.lt_or_eq_of_le hle with hlt | rfl
  · refine .inr ⟨⟨xs, xs[i], q, List.getElem?_eq_getElem hlt⟩, Pv (i + 1), fun σ' H' p' => ⟨xs.length - (i + 1), by omega, rfl, hlt, p'⟩, fun v H' y => ?_⟩
    obtain ⟨T, x, rfl, nT, rfl, hx⟩ := y
    exact hs i x σ H T (hx xs q) p nT
  · exact .inl ⟨⟨xs, q, rfl⟩, hd σ H p⟩
end Lk
set_option Elab.async false
set_option linter.all false
set_option maxRecDepth 100000
namespace Lk
open PySem PySem.Spec PyProof.Rows L2
/-! {key: value}, the key a tuple -/
def tDisp1T (tk tv : TE) : TE := fun σ H Q => ∀ p, H p = none → tk σ (upd H p (.dT [])) fun x H1 => tv σ H1 fun y H2 =>
  ∃ b k, x = .ref b ∧ H2 b = some (.tup (k.map kV)) ∧ H2 p = some (.dT []) ∧ Q (.ref p) (upd H2 p (.dT [(k, y)]))
theorem pe_disp1T {X : Cx} {ke ve : Expr} {tk tv : TE} {pos : Pos} (hu : X.A.units + 1 < cLine) (hk : PE X ke tk) (hv : PE X ve tv) : PE X (.Dict [some ke] [ve] pos) (tDisp1T tk tv) := by
  refine ⟨fun pins s σ H Q I q => ?_⟩
  have hn := I.hok.fresh (Nat.le_refl s.heap.objs.size)
  have I1 := I.laid (a := s.heap.objs.size) (o := .dT []) (h' := s.heap.push { cls := .type "dict", data := .dict #[] }) (t' := s.toks) (fun _ _ q => Heap.get?_push_of_some _ q) (Nat.le_refl _) (dt_empty s.heap I.big)
  have hpl : (pairTrees [some ke] [ve] X.env pos).length = 1 := pairTrees_length [some ke] [ve] X.env pos rfl rfl
  rw [arm_eval_Dict, zip_pairTrees [some ke] [ve] X.env pos rfl rfl, dictDisplay_pairs _ (fun e => by rw [e] at hpl; cases hpl) (by rw [hpl]; decide)]
  refine wpAny_bind (wpAny_standAt (wpAny_bind ?_))
  unfold subDict
  refine wpAny_bind (wpAny_alloc ?_)
  refine wpAny_bind (wpAny_holding ?_)
  rw [if_pos (by rw [hpl]; decide)]
  refine wpAny_bind (thn ((pps_cons hk hv pps_nil).run pins _ σ _ (fun ps H2 => match ps with
    | [(x, y)] => ∃ b k, x = .ref b ∧ H2 b = some (.tup (k.map kV)) ∧ H2 s.heap.objs.size = some (.dT []) ∧ Q (.ref s.heap.objs.size) (upd H2 s.heap.objs.size (.dT [(k, y)]))
    | _ => False) I1 (q _ hn)) fun ws s2 ⟨ps, H2, I2, rel, q2⟩ => ?_)
  match ps, rel, q2 with
  | [(x, y)], .cons (b := (u, v)) ⟨r1, r2⟩ .nil, q2 =>
    obtain ⟨b, k, rfl, hb, hp, q3⟩ := q2
    cases (show u = Value.ref b from r1)
    obtain ⟨z, hd, xs, rel, dd⟩ := dt_of I2.hok hp
    cases rel
    refine wpAny_holding ?_
    rw [List.forIn_cons]
    have hroom : (tupleKind (mixKind X.prog X.w)).room X.A := show X.A.units < cLine from Nat.lt_of_succ_lt hu
    refine wpAny_bind (wpAny_bind (wpAny_bind (wpAny_dictSet_heap (hsz := Nat.zero_le _) hroom (key_of I2.hok hb) dd fun h' dd' hs => wpAny_pure ?_)))
    show wpAny _ _ (forIn [] _ _) _ _ _
    rw [List.forIn_nil]
    refine wpAny_pure (wpAny_pure (wpAny_pure (wpAny_pure ⟨.ref s.heap.objs.size, _, ?_, rfl, q3⟩)))
    obtain ⟨o, es, epo, ho, h2, h3, h4, _, h5⟩ := dd'
    have rel2 := KT.put (H := H2) (kvs := []) (xs := []) .nil k hb r2
    refine d_write I2 (by rw [hp]; exact True.intro) hs ⟨o, ho⟩ ⟨by rw [sizeLine_eq]; show 1 ≤ 16777216; decide, hd, _, rel2.keeps fun c ys ec => ?_, o, es, epo, ho, h2, h3, h4, h5⟩
    rw [upd_ne (ne_of ec hp (fun z => nomatch z))]
    exact ec
end Lk
set_option Elab.async false
set_option linter.all false
set_option maxRecDepth 100000
namespace Lk
open PySem PySem.Spec PyProof.Rows L2
/-! sorted(d), the keys of d tuples of ints -/
def rSortDT : List V → Hp → VK → Prop := fun xs H Q => ∃ (a : Addr) (kvs : List (List Key × V)) (ts : List (List Int)) (d : Nat) (B : Int), xs = [.ref a] ∧ Rd H a (.dT kvs) ∧ kvs.map (·.1) = ts.map (fun t => t.map Sum.inl) ∧ ts.length < 64 ∧ 1 ≤ d ∧
  (∀ t ∈ ts, t.length = d ∧ TS.Bd B t) ∧
  ∀ (L : List (Addr × List Int)) (p : Addr), (L.map (·.2)).Perm ts → L.Pairwise (fun q r => TS.code B q.2 ≤ TS.code B r.2) → (∀ q ∈ L, H q.1 = some (.tup (q.2.map V.int))) → H p = none → Q (.ref p) (upd H p (.lst (L.map fun q => V.ref q.1)))
theorem keyInts : ∀ {ks : List Key} {t : List Int}, ks = t.map Sum.inl → ks.map kV = t.map V.int
  | _, [], rfl => rfl
  | _, i :: t, rfl => by rw [List.map_cons, List.map_cons, List.map_cons, keyInts (t := t) rfl]; rfl
theorem cr_sortedDT {X : Cx} (hcalm : X.calm = true) : CallR X (.builtin "sorted") rSortDT := by
  intro pins s σ H xs us Q I r q
  obtain ⟨a, kvs, ts, d, B, rfl, hd, hks, h64, hd1, hB, q⟩ := q
  rw [Vals.ref1 r]
  obtain ⟨z, hs, ks, pr, o, es, ep, ho, hx, hdt, he, hn⟩ := (show ObjOk X.prog X.w H s.heap a (.dT kvs) from hd.ok I.hok)
  have l1 : es.size = ks.length := size_of_entries he
  have l2 : kvs.length = ks.length := Paired.length pr
  have l3 : kvs.length = ts.length := by
    have e := congrArg List.length hks
    rw [List.length_map, List.length_map] at e
    exact e
  have isk := isKeys_of pr
  -- the pairs (address, ints), in the dict's order
  have full : ∀ (kvs : List (List Key × V)) (bs : List Addr) (ts : List (List Int)), IsKeys H kvs bs → kvs.map (·.1) = ts.map (fun t => t.map Sum.inl) →
      ∃ L0 : List (Addr × List Int), L0.map (·.2) = ts ∧ L0.map (·.1) = bs ∧ ∀ q ∈ L0, H q.1 = some (.tup (q.2.map V.int)) := by
    intro kvs bs ts hk
    induction hk generalizing ts with
    | nil =>
      intro e
      cases ts with
      | nil => exact ⟨[], rfl, rfl, fun q hq => absurd hq List.not_mem_nil⟩
      | cons t ts => cases e
    | @cons kv b kvs bs h _ ih =>
      intro e
      cases ts with
      | nil => cases e
      | cons t ts =>
        rw [List.map_cons, List.map_cons] at e
        obtain ⟨e1, e2⟩ := List.cons.inj e
        obtain ⟨L0, a1, a2, a3⟩ := ih ts e2
        refine ⟨(b, t) :: L0, by rw [List.map_cons, a1], by rw [List.map_cons, a2], fun q hq => ?_⟩
        rcases List.mem_cons.mp hq with z | z
        · rw [z, ← keyInts e1]; exact h
        · exact a3 q z
  obtain ⟨L0, a1, a2, a3⟩ := full kvs _ ts isk hks
  have l4 : L0.length = ks.length := by
    have e := congrArg List.length a1
    rw [List.length_map] at e
    omega
  refine Calls.call_function_entry PyProof.Rows.kind_sorted PyProof.Rows.plain_sorted PyProof.Rows.entry_sorted (PyProof.Rows.args_sorted1 _) ?_
  unfold Builtin.«sorted»
  refine wpAny_bind (m := checkCount "sorted" 1 1 _) (wpAny_pure ?_)
  refine wpAny_bind (PySem.W.kdu_collect (A := X.A.in1) (kdl_raw hs hx hdt) (I.ok.hd hcalm) ho (by rw [sizeLine_eq]; omega) fun h' tk acc hk hacc => ?_)
  have ea : acc.toList = L0.map fun q => Value.ref q.1 := by
    have e9 : (L0.map fun q => Value.ref q.1) = ks.map fun x => Value.ref x.2.1 := by
      have : (L0.map (·.1)).map Value.ref = (ks.map fun x => x.2.1).map Value.ref := by rw [a2]
      rw [List.map_map, List.map_map] at this
      exact this
    rw [e9]
    have hl : acc.toList.length = ks.length := by rw [Array.length_toList, hacc.1]; exact l1
    apply List.ext_getElem?
    intro j
    rw [List.getElem?_map]
    cases hj : acc.toList[j]? with
    | none =>
      rw [List.getElem?_eq_none (by have := List.getElem?_eq_none_iff.mp hj; omega)]
      rfl
    | some v =>
      obtain ⟨en, hen, hv⟩ := hacc.2 j v (by rw [← Array.getElem?_toList]; exact hj)
      have qe := entry_at he j
      rw [hen] at qe
      cases hb : ks[j]? with
      | none => rw [hb] at qe; cases qe
      | some x =>
        rw [hb] at qe
        have e2 := Option.some.inj qe
        rw [hv, e2]
        rfl
  have hal : acc.toList.length = ts.length := by rw [ea, List.length_map]; omega
  have I1 : L2.Inv X pins σ H { s with heap := h', toks := tk } := I.kept hk
  refine wpAny_bind (wpAny_newList ?_ (by rw [hal, sizeLine_eq]; omega))
  have hoL : (h'.push (seqObj "list" acc.toList.toArray 0)).get? h'.objs.size = some (seqObj "list" acc.toList.toArray 0) := Heap.get?_push_size _ rfl
  show wpAny _ _ _ _ _ { s with heap := h'.push (seqObj "list" acc.toList.toArray 0), toks := tk }
  have tin : ∀ q ∈ L0, TS.TupInts h' (.ref q.1) q.2 := fun q hq => tupI_raw I1 (SqT.of (a3 q hq))
  have tin2 : ∀ q ∈ L0, TS.TupInts (h'.push (seqObj "list" acc.toList.toArray 0)) (.ref q.1) q.2 := fun q hq => (tin q hq).keeps fun b o e _ => Heap.get?_push_of_some _ e
  have mem0 : ∀ v ∈ acc.toList, ∃ q ∈ L0, v = .ref q.1 := fun v hv => by
    rw [ea] at hv
    obtain ⟨q, hq, e⟩ := List.mem_map.mp hv
    exact ⟨q, hq, e.symm⟩
  refine wpAny_bind (wpAny_holding (wpAny_call_entry slot_list_sort ⟨_, hoL, rfl⟩ entry_list_sort
    (TS.sort_tups (s := { s with heap := h'.push (seqObj "list" acc.toList.toArray 0), toks := tk }) (d := d) (B := B) hoL (by rw [hal]; exact h64) hd1 (fun v hv => ?_) (fun v => TS.code B (TS.intsOf h' v)) (fun v hv ns t => ?_) fun out b1 b2 => ⟨_, rfl, ?_⟩) (args_list_sort _)))
  · obtain ⟨q, hq, rfl⟩ := mem0 v hv
    obtain ⟨c1, c2⟩ := hB q.2 (by rw [← a1]; exact List.mem_map.mpr ⟨q, hq, rfl⟩)
    exact ⟨q.2, tin2 q hq, c1, c2⟩
  · obtain ⟨q, hq, rfl⟩ := mem0 v hv
    rw [(tin q hq).ints, ← (tin2 q hq).ints]
    exact congrArg (TS.code B) t.ints
  · obtain ⟨e', he'⟩ := PyProof.Rows.sortedHeap_at (vs := acc.toList) (out := out) hoL
    obtain ⟨L, m1, m2⟩ : ∃ L : List (Addr × List Int), L.Perm L0 ∧ out.toList = L.map fun q => Value.ref q.1 := by
      rw [ea] at b1
      have key : ∀ (us : List Value) (L0 : List (Addr × List Int)), us.Perm (L0.map fun q => Value.ref q.1) → ∃ L : List (Addr × List Int), L.Perm L0 ∧ us = L.map fun q => Value.ref q.1 := by
        intro us
        induction us with
        | nil =>
          intro L0 hp
          have := hp.length_eq
          rw [List.length_map] at this
          exact ⟨[], by rw [List.length_eq_zero_iff.mp this.symm], rfl⟩
        | cons u us ih =>
          intro L0 hp
          obtain ⟨q, hq, e⟩ := List.mem_map.mp (hp.mem_iff.mp List.mem_cons_self)
          obtain ⟨l1, l2, rfl⟩ := List.append_of_mem hq
          have p2 : us.Perm ((l1 ++ l2).map fun q => Value.ref q.1) := by
            have h9 : (u :: us).Perm (u :: (l1 ++ l2).map fun q => Value.ref q.1) := by
              refine hp.trans ?_
              rw [List.map_append, List.map_cons, ← e, List.map_append]
              exact List.perm_middle
            exact h9.cons_inv
          obtain ⟨L, c1, c2⟩ := ih _ p2
          exact ⟨q :: L, (c1.cons q).trans List.perm_middle.symm, by rw [List.map_cons, e, c2]⟩
      exact key _ _ b1
    have hlen : (L.map fun q => V.ref q.1).length ≤ sizeLine := by
      rw [List.length_map, m1.length_eq, sizeLine_eq]
      omega
    refine wpAny_pure ⟨_, rfl, .ref h'.objs.size, upd H h'.objs.size (.lst (L.map fun q => V.ref q.1)), I1.laid (t' := tk) (fun b u e => ?_) (Nat.le_refl _)
      (show ObjOk X.prog X.w _ _ _ (.lst (L.map fun q => V.ref q.1)) from ⟨hlen, out.toList, e', by rw [m2]; exact vals_of_refs L, by rw [Array.toArray_toList]; exact he'⟩), rfl, q L _ ?_ ?_ (fun q hq => a3 q (m1.mem_iff.mp hq)) (I1.hok.fresh (Nat.le_refl _))⟩
    · have hb : b < h'.objs.size := Heap.lt_size e
      rw [PyProof.Rows.sortedHeap_old (Nat.ne_of_lt hb) (by rw [size_push']; exact Nat.lt_succ_of_lt hb)]
      exact Heap.get?_push_of_some _ e
    · rw [← a1]; exact m1.map _
    · rw [m2, List.pairwise_map] at b2
      refine List.Pairwise.imp_of_mem (fun {q r} hq hr h => ?_) b2
      rw [← (tin q (m1.mem_iff.mp hq)).ints, ← (tin r (m1.mem_iff.mp hr)).ints]
      exact h
end Lk
set_option Elab.async false
set_option linter.all false
set_option maxRecDepth 100000
namespace Lk
open PySem PySem.Spec PyProof.Rows L2
/-! set(xs), xs any number of tuples of ints, few of them unlike -/
def FewKeys (ks : List (Addr × List Int)) : Prop := ∀ L : List (Addr × List Int), (L.map (·.2)).Nodup → (∀ p ∈ L, p ∈ ks) → L.length + 1 < 64
section
variable {P : Program} {w : World} {A : Around} {E : Value → Shared → Prop} {s : Shared}
/-- the loop of set.update over ks, from the i-th item on -/
theorem upd_few {I S : Addr} {fp wr : List Addr} {G : Array GenState → Array GenState → Prop} {n : Nat} {Pv : Nat → Value → Prop} {Stt : Nat → Shared → Prop} {R : Result → Shared → Prop} {h0 : Heap} {ks : List (Addr × List Int)}
    (W : WalksS P w A.in1 I fp wr G n Pv Stt) (nf : S ∉ fp) (en : n = ks.length) (few : FewKeys ks) (vals : ∀ i v, Pv i v → ∃ p, ks[i]? = some p ∧ v = .ref p.1)
    (tups : ∀ p ∈ ks, IsT P w h0 p.2 p.1) (newS : h0.get? S = none) (newW : ∀ b ∈ wr, h0.get? b = none) (room : A.in1.units < cLine) :
    ∀ (m i : Nat) (s : Shared) (L : List (Addr × List Int)) (es : Array (Int × Value)) (ep : Nat) (t : SetTable), i + m = n → Stt i s → (∀ b o, h0.get? b = some o → s.heap.get? b = some o) → SetTR P w s.heap S L es ep t → Got ks i L →
      (∀ s' L es ep t, Moved (S :: wr) G s s' → SetTR P w s'.heap S L es ep t → Got ks n L → (∀ b o, h0.get? b = some o → s'.heap.get? b = some o) → R (.ok (.ret .none)) s') →
      codeAny (model P w) A (.builtin "set.update.loop" ⟨[.ref S, .ref I], []⟩) R s := by
  have nw : S ∉ wr := fun h => nf (W.sub _ h)
  have inc : ∀ b ∈ wr, b ∈ S :: wr := fun b hb => List.mem_cons_of_mem _ hb
  have still : ∀ {s s' : Shared}, Moved wr G s s' → (∀ b o, h0.get? b = some o → s.heap.get? b = some o) → ∀ b o, h0.get? b = some o → s'.heap.get? b = some o := by
    intro s s' hm hk b o e
    exact hm.heap b o (fun hb => by rw [newW b hb] at e; cases e) (hk b o e)
  intro m
  induction m with
  | zero =>
    intro i s L es ep t hi hst hk hS g hR
    obtain rfl : i = n := hi
    refine codeAny_builtin F.entry_set_update_loop ?_
    rw [Around.under_plainId F.plain_set_update_loop _]
    show wpAny _ A.in1 (pyNext (.ref I) >>= _) _ _ s
    refine wpAny_bind (W.done s _ _ hst fun s' hm => ?_)
    have hk' := still hm hk
    refine wpAny_pure (hR s' L es ep t (hm.mono inc) (hS.keep (fun o e => hm.heap S o nw e) fun p hp => ?_) g hk')
    exact isT_keep (tups p (List.mem_of_mem_take (g.sub p hp))) hk'
  | succ m ih =>
    intro i s L es ep t hi hst hk hS g hR
    refine codeAny_builtin F.entry_set_update_loop ?_
    rw [Around.under_plainId F.plain_set_update_loop _]
    show wpAny _ A.in1 (pyNext (.ref I) >>= _) _ _ s
    refine wpAny_bind (W.item i s _ _ (by omega) hst fun v s' hP hst' hm => ?_)
    obtain ⟨p, hp, rfl⟩ := vals i v hP
    have hk' := still hm hk
    have inks : ∀ q ∈ L, q ∈ ks := fun q hq => List.mem_of_mem_take (g.sub q hq)
    have hS' : SetTR P w s'.heap S L es ep t := hS.keep (fun o e => hm.heap S o nw e) fun q hq => isT_keep (tups q (inks q hq)) hk'
    have isP : IsT P w s'.heap p.2 p.1 := isT_keep (tups p (List.mem_of_getElem? hp)) hk'
    show wpAny _ A.in1 (holding [Value.ref p.1] (setAdd S (.ref p.1)) >>= _) _ _ s'
    refine wpAny_bind (wpAny_holding ?_)
    unfold setAdd
    refine wpAny_holding (wpAny_bind (wpAny_pyHash_tuple room isP ?_))
    refine add_at (s := { s' with toks := s'.toks + (p.2.length + 1) }) hS' isP room (few L hS.nd inks) fun b h' L' es' ep' t' hsb hS2 c1 c2 => ?_
    have g' : Got ks (i + 1) L' := by
      by_cases c : p.2 ∈ L.map (·.2)
      · rw [c1 c]; exact g.same hp c
      · exact g.more hp (c2 c)
    have hk2 : ∀ b o, h0.get? b = some o → h'.get? b = some o := by
      intro b o e
      refine (hsb.2 b fun z => ?_).trans (hk' b o e)
      rw [z, newS] at e
      cases e
    refine wpAny_pure ⟨plainId_quiet F.plain_set_update_loop _, ih (i + 1) _ L' es' ep' t' (by omega) (W.frame _ s' _ _ hst' (Nat.le_add_right _ _) fun b hb o e => ?_) hk2 hS2 g' fun s2 L2 es2 ep2 t2 hm2 hS3 g2 hk3 => ?_⟩
    · rw [hsb.2 b fun z : b = S => nf (z ▸ hb)]
      exact e
    · refine hR s2 L2 es2 ep2 t2 (Moved.trans W.gtrans ((hm.mono inc).then_heap (Nat.le_add_right _ _) fun b o hb e => ?_) hm2) hS3 g2 hk3
      rw [hsb.2 b fun z : b = S => hb (z ▸ List.mem_cons_self)]
      exact e
/-- the empty set object -/
def setO (w : World) : Obj := { cls := .type "set", dict := none, data := .set #[] 0 (.fresh 0 0 (!w.params.followText "set-order")) }
set_option maxHeartbeats 3200000 in
theorem set_few {l : Addr} {items : Array Value} (ks : List (Addr × List Int)) {Q : Value → Shared → Prop} (hh : A.handled = none) (hl : s.heap.IsList l items) (hit : items.toList = ks.map fun p => Value.ref p.1)
    (tups : ∀ p ∈ ks, IsT P w s.heap p.2 p.1) (few : FewKeys ks) (hu : A.units + 3 < cLine)
    (h : ∀ (h' : Heap) (tk : Nat) L es ep t, SetTR P w h' s.heap.objs.size L es ep t → Got ks ks.length L → (∀ b o, s.heap.get? b = some o → h'.get? b = some o) → Q (.ref s.heap.objs.size) { s with heap := h', toks := tk }) :
    wpAny (model P w) A (call (.type "set") [.ref l]) Q E s := by
  have size0 : items.size = ks.length := by rw [← Array.length_toList, hit, List.length_map]
  obtain ⟨c, tl, hmro⟩ := F.called_set.mro
  have hmade := F.called_set.made
  have hsub := F.called_set.sub
  refine wpAny_call (codeAny_of_tree ?_)
  show wpAny _ _ (callAny (.type "set") _) _ _ _
  refine wpAny_pure ⟨Code.quiet_builtin _ (by decide +kernel), codeAny_builtin F.entry_type_call ?_⟩
  rw [Around.under_plain (weight_type_call_type "set" [.ref l] []) rfl]
  have h1 := F.called_set.notType
  have h2 := F.called_set.canCreate
  have hct := F.typeCall_set_1 (.ref l)
  repeat (any_goals (first | assumption | wp_step))
  refine codeAny_mono (code_set_led1 (.ref l) (E := E) (Q₁ := fun obj s₁ => obj = .ref s.heap.objs.size ∧ s₁ = { s with heap := s.heap.push (setO w) }) ⟨rfl, rfl⟩) fun r s₁ hr => ?_
  rcases r with e | (_ | _ | _ | obj)
  · exact hr
  · exact hr.elim
  · exact hr.elim
  · exact hr.elim
  · obtain ⟨rfl, rfl⟩ := hr
    have hS : (s.heap.push (setO w)).get? s.heap.objs.size = some (setO w) := Heap.get?_push_size _ rfl
    have hT : Shared.TypeIs { s with heap := s.heap.push (setO w) } (.ref s.heap.objs.size) "set" := ⟨_, hS, rfl⟩
    have hli := F.called_set.init.lookup
    have hbi := F.called_set.init.bind (.ref s.heap.objs.size)
    repeat (any_goals (first | assumption | wp_step))
    refine codeAny_mono (codeAny_call_builtin (R := wants (fun r s₂ => r = .none ∧ ∃ h' tk L es ep t, s₂ = { s with heap := h', toks := tk } ∧ SetTR P w h' s.heap.objs.size L es ep t ∧ Got ks ks.length L ∧
        (∀ b o, s.heap.get? b = some o → h'.get? b = some o)) E) F.called_set.init.plain F.entry_set_init (check_set_init_1 hT ?_)) fun r₂ s₂ hr₂ => ?_
    · obtain ⟨⟨ocls, odict, odata, oslots⟩, hol, hcl, nl, hdl⟩ := hl
      simp only at hcl hdl
      subst hcl hdl
      have hol' : (s.heap.push (setO w)).get? l = some { cls := .type "list", dict := odict, data := .seq items nl, slots := oslots } := Heap.get?_push_of_some _ hol
      have hsls := F.sub_list_set
      have hslf := F.sub_list_frozenset
      have hne : (Value.type "list" == Value.type "dict") = false := by decide
      have hl1 : (s.heap.push (setO w)).IsList l items := ⟨_, hol', rfl, nl, rfl⟩
      unfold Builtin.«set.__init__» noKeywords Builtin.Frozenset.updateFrom
      generalize hPI : pyIter = PI
      wp_walk
      subst hPI
      refine wpAny_pyIter_list hl1 (wpAny_bind (wpAny_runValue ?_))
      have hlS : l < s.heap.objs.size := Heap.lt_size hol
      have sz : (s.heap.push (setO w)).objs.size = s.heap.objs.size + 1 := Heap.size_push ..
      have lI : l ≠ (s.heap.push (setO w)).objs.size := by rw [sz]; exact Nat.ne_of_lt (Nat.lt_succ_of_lt hlS)
      have sf : s.heap.objs.size ∉ [(s.heap.push (setO w)).objs.size, l] := by
        rw [sz]
        simp only [List.mem_cons, List.not_mem_nil, or_false, not_or]
        exact ⟨Nat.ne_of_lt (Nat.lt_succ_self _), Nat.ne_of_gt hlS⟩
      have above : ∀ b, s.heap.objs.size ≤ b → s.heap.get? b = none := by
        intro b hb
        cases q : s.heap.get? b with
        | none => rfl
        | some o => exact absurd (Nat.lt_of_lt_of_le (Heap.lt_size q) hb) (Nat.lt_irrefl _)
      refine upd_few (S := s.heap.objs.size) (ks := ks) (h0 := s.heap) ((Walks.list (show A.in1.in1.in1.handled = none by simp [hh]) _ l lI items).toS) sf size0 few (fun i v hv => ?_) tups (above _ (Nat.le_refl _)) (fun b hb => above b ?_) hu items.size 0 _ [] #[] 0 _
        (by omega) ⟨⟨_, Heap.get?_push_size _ rfl, rfl, rfl⟩, hl1.push _⟩ (fun b o e => Heap.get?_push_of_some _ (Heap.get?_push_of_some _ e)) (setTR_fresh (Heap.get?_push_of_some _ hS)) (Got.zero ks) fun s' L es ep t hm hS' g' hk => ?_
      · have q : items.toList[i]? = some v := by rw [Array.getElem?_toList]; exact hv
        rw [hit, List.getElem?_map] at q
        obtain ⟨p, hp, e⟩ := Option.map_eq_some_iff.mp q
        exact ⟨p, hp, e.symm⟩
      · rw [List.mem_singleton.mp hb, sz]
        exact Nat.le_succ _
      · obtain ⟨h', g2, d', tk', os'⟩ := s'
        obtain rfl : g2 = s.gens := hm.gens
        obtain rfl : d' = s.drawn := hm.drawn
        obtain rfl : os' = s.os := hm.os
        show wpAny _ _ _ _ _ _
        refine wpAny_pure ?_
        show wpAny _ _ (ret Value.none) _ _ _
        rw [size0] at g'
        exact wpAny_pure ⟨rfl, h', tk', L, es, ep, t, rfl, hS', g', hk⟩
    · rcases r₂ with e | (_ | _ | _ | r)
      · exact hr₂
      · exact hr₂.elim
      · exact hr₂.elim
      · exact hr₂.elim
      · obtain ⟨rfl, h', tk, L, es, ep, t, rfl, hS', g', hk'⟩ := hr₂
        repeat (any_goals (first | assumption | wp_step))
        exact h _ _ _ _ _ _ hS' g' hk'
end
def rSetF (K : PySem.W.Frag) (P : Program) (w : World) : List V → Hp → VK → Prop := fun xs H Q => ∃ (l : Addr) (ks : List (Addr × List Int)), xs = [V.ref l] ∧ SqL K H l (ks.map fun p => V.ref p.1) ∧ (∀ p ∈ ks, SqT K H p.1 (p.2.map V.int)) ∧ FewKeys ks ∧
  ∀ a L, H a = none → (∀ p ∈ L, p ∈ ks) → (∀ p ∈ ks, p.2 ∈ L.map (·.2)) → Q (.ref a) (upd H a (SetTO P w a L))
theorem cr_setF {X : Cx} (hc : X.calm = true) (hu : X.A.units + 64 < cLine) : CallR X (.type "set") (rSetF X.K X.prog X.w) := by
  intro pins s σ H xs us Q I r h
  obtain ⟨l, ks, rfl, hl, hk, hf, q⟩ := h
  rw [Vals.ref1 r]
  obtain ⟨its, rv, pl, hz⟩ := I.list hl
  have fresh : H s.heap.objs.size = none := I.hok.fresh (Nat.le_refl _)
  refine set_few (P := X.prog) (w := X.w) ks (I.ok.hd hc) pl.isList (by simpa using refs_of_vals rv) (fun p hp => I.isT (hk p hp)) hf (by omega) fun h' tk L es ep t R g k => ?_
  exact ⟨.ref s.heap.objs.size, upd H s.heap.objs.size (SetTO X.prog X.w s.heap.objs.size L), I.laid (t' := tk) k (Nat.le_refl _) (setTO_new R.t0), rfl,
    q _ L fresh (fun p hp => List.mem_of_mem_take (g.sub p hp)) fun p hp => g.all p (by rw [List.take_length]; exact hp)⟩
end Lk
set_option Elab.async false
set_option linter.all false
set_option maxRecDepth 100000
namespace Lk
open PySem PySem.Spec PyProof.Rows L2
/-! the text's statements; heaps that hold turns -/
def topS (i : Nat) : Stmt := PySem.Challenge.pw_lockturns_k07_whole_weights.main.body.getD i (.Pass ⟨0, 0, 0, 0⟩)
def nv (x : Nat) : V := .int (x : Int)
def tv (t : Tn) : List V := t.map nv
/-- the turn t is the tuple at a: just that; held fast, without a dict of its own; one of the two -/
def TX (H : Hp) (a : Addr) (t : Tn) : Prop := H a = some (.tup (tv t))
def TZ (H : Hp) (a : Addr) (t : Tn) : Prop := ∃ o : Obj, o.dict = none ∧ H a = some (.frz o (.tup (tv t)))
def TA (H : Hp) (a : Addr) (t : Tn) : Prop := TX H a t ∨ TZ H a t
theorem TX.ta {H : Hp} {a : Addr} {t : Tn} (h : TX H a t) : TA H a t := .inl h
theorem TZ.ta {H : Hp} {a : Addr} {t : Tn} (h : TZ H a t) : TA H a t := .inr h
instance {H : Hp} {a : Addr} {t : Tn} : Coe (TX H a t) (TA H a t) := ⟨TX.ta⟩
/-- tuples, as they stand in a heap -/
def IsTp : HO → Prop
  | .tup _ => True
  | .frz _ (.tup _) => True
  | _ => False
theorem TA.is {H : Hp} {a : Addr} {t : Tn} (h : TA H a t) : ∃ u, H a = some u ∧ IsTp u := by
  rcases h with h | ⟨o, _, h⟩
  · exact ⟨_, h, trivial⟩
  · exact ⟨_, h, trivial⟩
theorem TA.sq {K : PySem.W.Frag} {H : Hp} {a : Addr} {t : Tn} (h : TA H a t) : SqT K H a (tv t) := by
  rcases h with h | ⟨o, _, h⟩
  · exact .inl (.inl h)
  · exact .inl (.inr ⟨o, h⟩)
theorem sqA {K : PySem.W.Frag} {H : Hp} {a : Addr} {t : Tn} (h : TA H a t) : SqT K H a (tv t) := h.sq
inductive TAs (H : Hp) : List Addr → List Tn → Prop
  | nil : TAs H [] []
  | cons {a : Addr} {t : Tn} {as : List Addr} {ts : List Tn} : TA H a t → TAs H as ts → TAs H (a :: as) (t :: ts)
def rs (as : List Addr) : List V := as.map V.ref
/-- a list, a tuple of turns -/
def LA (H : Hp) (a : Addr) (ts : List Tn) : Prop := ∃ as, H a = some (.lst (rs as)) ∧ TAs H as ts
def UA (H : Hp) (a : Addr) (ts : List Tn) : Prop := ∃ as, H a = some (.tup (rs as)) ∧ TAs H as ts
section
variable {H H' H1 : Hp} {a b p : Addr} {o : HO} {t u : Tn} {as bs : List Addr} {ts us : List Tn}
theorem same_upd (h : H p = none) : Same H (upd H p o) := fun b x e => by
  rw [upd_ne (ne_of_none e h)]
  exact e
theorem same_put (s : Same H H') (h : H p = none) : Same H (upd H' p o) := fun b x e => by
  rw [upd_ne (ne_of_none e h)]
  exact s b x e
theorem TX.same (s : Same H H') (h : TX H a t) : TX H' a t := s _ _ h
theorem TZ.same (s : Same H H') (h : TZ H a t) : TZ H' a t := let ⟨o, h1, h2⟩ := h; ⟨o, h1, s _ _ h2⟩
theorem TA.same (s : Same H H') (h : TA H a t) : TA H' a t := h.elim (fun h => .inl (h.same s)) fun h => .inr (h.same s)
theorem TAs.same (s : Same H H') (h : TAs H as ts) : TAs H' as ts := by
  induction h with
  | nil => exact .nil
  | cons h _ ih => exact .cons (h.same s) ih
theorem LA.same (s : Same H H') (h : LA H a ts) : LA H' a ts := let ⟨as, h1, h2⟩ := h; ⟨as, s _ _ h1, h2.same s⟩
theorem UA.same (s : Same H H') (h : UA H a ts) : UA H' a ts := let ⟨as, h1, h2⟩ := h; ⟨as, s _ _ h1, h2.same s⟩
theorem TAs.len (h : TAs H as ts) : as.length = ts.length := by
  induction h with
  | nil => rfl
  | cons _ _ ih => rw [List.length_cons, List.length_cons, ih]
theorem TAs.get (h : TAs H as ts) {i : Nat} (ha : as[i]? = some a) : ∃ t, ts[i]? = some t ∧ TA H a t := by
  induction h generalizing i with
  | nil => simp at ha
  | cons h _ ih =>
    cases i with
    | zero => simp at ha; subst ha; exact ⟨_, rfl, h⟩
    | succ i => exact ih (by simpa using ha)
theorem TAs.at (h : TAs H as ts) {i : Nat} (ht : ts[i]? = some t) : ∃ a, as[i]? = some a ∧ TA H a t := by
  induction h generalizing i with
  | nil => simp at ht
  | cons h _ ih =>
    cases i with
    | zero => simp at ht; subst ht; exact ⟨_, rfl, h⟩
    | succ i => exact ih (by simpa using ht)
theorem TAs.append (h : TAs H as ts) (h' : TAs H bs us) : TAs H (as ++ bs) (ts ++ us) := by
  induction h with
  | nil => exact h'
  | cons h _ ih => exact .cons h ih
theorem TAs.snoc (h : TAs H as ts) (h' : TA H a t) : TAs H (as ++ [a]) (ts ++ [t]) := h.append (.cons h' .nil)
theorem rs_len (as : List Addr) : (rs as).length = as.length := List.length_map _
theorem rs_get {i : Nat} {x : V} (h : (rs as)[i]? = some x) : ∃ a, as[i]? = some a ∧ x = .ref a := by
  unfold rs at h
  rw [List.getElem?_map] at h
  cases e : as[i]? with
  | none => rw [e] at h; cases h
  | some a => rw [e] at h; exact ⟨a, rfl, (Option.some.inj h).symm⟩
theorem rs_snoc (as : List Addr) (a : Addr) : rs as ++ [V.ref a] = rs (as ++ [a]) := by unfold rs; rw [List.map_append]; rfl
theorem tv_len (t : Tn) : (tv t).length = t.length := List.length_map _
theorem tv_get {i : Nat} {x : V} (h : (tv t)[i]? = some x) : ∃ n, t[i]? = some n ∧ x = nv n := by
  unfold tv at h
  rw [List.getElem?_map] at h
  cases e : t[i]? with
  | none => rw [e] at h; cases h
  | some a => rw [e] at h; exact ⟨a, rfl, (Option.some.inj h).symm⟩
theorem tv_of {i n : Nat} (h : t[i]? = some n) : (tv t)[i]? = some (nv n) := by unfold tv; rw [List.getElem?_map, h]; rfl
theorem tv_snoc (t : Tn) (n : Nat) : tv t ++ [nv n] = tv (t ++ [n]) := by unfold tv; rw [List.map_append]; rfl
theorem tv_inj : ∀ {t u : Tn}, tv t = tv u → t = u
  | [], [], _ => rfl
  | [], _ :: _, h => by cases h
  | _ :: _, [], h => by cases h
  | x :: t, y :: u, h => by
    have h1 := List.cons.inj h
    have h2 : (x : Int) = y := V.int.inj h1.1
    rw [tv_inj h1.2, Int.ofNat.inj h2]
theorem TA.inj (h : TA H a t) (h' : TA H a u) : t = u := by
  rcases h with h | ⟨o, _, h⟩ <;> rcases h' with h' | ⟨o', _, h'⟩
  · have : some (HO.tup (tv t)) = some (HO.tup (tv u)) := h.symm.trans h'
    injection this with this
    injection this with this
    exact tv_inj this
  · have : some (HO.tup (tv t)) = some (HO.frz o' (.tup (tv u))) := h.symm.trans h'
    cases this
  · have : some (HO.frz o (.tup (tv t))) = some (HO.tup (tv u)) := h.symm.trans h'
    cases this
  · have : some (HO.frz o (.tup (tv t))) = some (HO.frz o' (.tup (tv u))) := h.symm.trans h'
    injection this with this
    injection this with _ this
    injection this with this
    exact tv_inj this
theorem few {n : Nat} (h : n ≤ 1000) : n < sizeLine := small1000 h
theorem fewe {n : Nat} (h : n ≤ 1000) : n ≤ sizeLine := Nat.le_of_lt (small1000 h)
theorem take_succ {α : Type} {l : List α} {i : Nat} {x : α} (h : l[i]? = some x) : l.take (i + 1) = l.take i ++ [x] := by
  rw [List.take_add_one, h]; rfl
theorem fold_take {α β : Type} {f : β → α → β} {b : β} {l : List α} {i : Nat} {x : α} (h : l[i]? = some x) : (l.take (i + 1)).foldl f b = f ((l.take i).foldl f b) x := by
  rw [take_succ h, List.foldl_append]; rfl
theorem get_lt {α : Type} {l : List α} {i : Nat} {x : α} (h : l[i]? = some x) : i < l.length := (List.getElem?_eq_some_iff.mp h).1
theorem sm {n : Nat} (h : n ≤ 1000) : -(2 ^ 62) ≤ (n : Int) ∧ (n : Int) < 2 ^ 62 := by omega
end
/-- frozen turns; a tuple of such -/
inductive TZs (H : Hp) : List Addr → List Tn → Prop
  | nil : TZs H [] []
  | cons {a : Addr} {t : Tn} {as : List Addr} {ts : List Tn} : TZ H a t → TZs H as ts → TZs H (a :: as) (t :: ts)
def UZ (H : Hp) (a : Addr) (ts : List Tn) : Prop := ∃ as, H a = some (.tup (rs as)) ∧ TZs H as ts
section
variable {H H' : Hp} {a : Addr} {t : Tn} {as bs : List Addr} {ts us : List Tn}
theorem TZs.tas (h : TZs H as ts) : TAs H as ts := by
  induction h with
  | nil => exact .nil
  | cons h _ ih => exact .cons h.ta ih
theorem UZ.ua (h : UZ H a ts) : UA H a ts := let ⟨as, h1, h2⟩ := h; ⟨as, h1, h2.tas⟩
theorem TZs.same (s : Same H H') (h : TZs H as ts) : TZs H' as ts := by
  induction h with
  | nil => exact .nil
  | cons h _ ih => exact .cons (h.same s) ih
theorem UZ.same (s : Same H H') (h : UZ H a ts) : UZ H' a ts := let ⟨as, h1, h2⟩ := h; ⟨as, s _ _ h1, h2.same s⟩
theorem TZs.len (h : TZs H as ts) : as.length = ts.length := h.tas.len
theorem TZs.append (h : TZs H as ts) (h' : TZs H bs us) : TZs H (as ++ bs) (ts ++ us) := by
  induction h with
  | nil => exact h'
  | cons h _ ih => exact .cons h ih
theorem TZs.snoc (h : TZs H as ts) (h' : TZ H a t) : TZs H (as ++ [a]) (ts ++ [t]) := h.append (.cons h' .nil)
theorem TZs.get (h : TZs H as ts) {i : Nat} (ha : as[i]? = some a) : ∃ t, ts[i]? = some t ∧ TZ H a t := by
  induction h generalizing i with
  | nil => simp at ha
  | cons h _ ih =>
    cases i with
    | zero => simp at ha; subst ha; exact ⟨_, rfl, h⟩
    | succ i => exact ih (by simpa using ha)
end
/-- what hands back a new object -/
def Ret (H : Hp) (Q : VK) (φ : Hp → Addr → Prop) : Prop := ∀ H' p, Same H H' → H p = none → φ H' p → Q (.ref p) H'
end Lk
set_option Elab.async false
set_option linter.all false
set_option maxRecDepth 100000
namespace Lk
open PySem PySem.Spec PyProof.Rows L2
abbrev sNum : Stmt := topS 6
section
variable {prog : Program} {w : World} {K : PySem.W.Frag} {mg : Str → Option Value} {base : Heap} {A : Around} {E : Value → Shared → Prop} {s : Shared} {env : Env} {m : Str → Option Value}
/-- a frame of a def, over the base -/
structure Frm (K : PySem.W.Frag) (mg : Str → Option Value) (base : Heap) (env : Env) (m : Str → Option Value) (s : Shared) : Prop where
  kind : env.scope.kind = .function
  glob : env.globals = mainGlobals
  blt : env.builtins = builtinsNs
  mod : L2.Mod K mg base
  keep : ∀ b o, base.get? b = some o → s.heap.get? b = some o
  ns : s.heap.Ns env.locals m
theorem Frm.tok (F : Frm K mg base env m s) (t : Nat) : Frm K mg base env m { s with toks := t } := ⟨F.kind, F.glob, F.blt, F.mod, F.keep, F.ns⟩
theorem Frm.loc (F : Frm K mg base env m s) {x : Str} {pos : Pos} {u : Value} {Q : Value → Shared → Prop} (hk : env.kindOf x = some .local) (hm : m x = some u) (h : Q u s) (hd : (x == ("__debug__" : Str)) = false := by decide) :
    wpAny (model prog w) A (eval (.Name x pos) env) Q E s := wpAny_Name (wpAny_loadName_local F.kind hk F.ns hm h) hd
theorem Frm.bltn (F : Frm K mg base env m s) {x : Str} {pos : Pos} {u : Value} {Q : Value → Shared → Prop} (hk : env.kindOf x = some .globalImplicit) (hm : mg x = none) (hv : bootBuiltins x = some u) (h : Q u s) (hn : x ≠ "__name__" := by decide) (hd : (x == ("__debug__" : Str)) = false := by decide) :
    wpAny (model prog w) A (eval (.Name x pos) env) Q E s := by
  obtain ⟨mb, h1, h2⟩ := F.mod.blt
  exact Calls.Name_function_global F.kind hk (Calls.loadGlobal_builtin (by rw [F.glob]; exact F.mod.glob.keeps F.keep) hm (by rw [F.blt]; exact h1.keeps F.keep) ((h2 x hn).trans hv) h) hd
theorem Frm.glb (F : Frm K mg base env m s) {x : Str} {pos : Pos} {u : Value} {Q : Value → Shared → Prop} (hk : env.kindOf x = some .globalImplicit) (hm : mg x = some u) (h : Q u s) (hd : (x == ("__debug__" : Str)) = false := by decide) :
    wpAny (model prog w) A (eval (.Name x pos) env) Q E s :=
  Calls.Name_function_global F.kind hk (Calls.loadGlobal_global (by rw [F.glob]; exact F.mod.glob.keeps F.keep) hm h) hd
theorem Frm.kin (F : Frm K mg base env m s) : K.In s.heap := F.mod.kin.keeps F.keep
/-- isinstance(x, T), x an int, T a built-in type -/
theorem Frm.isi (F : Frm K mg base env m s) {i : Int} {ti : Tok} {T : String} {b : Bool} {x y : Str} {p1 p2 p3 p4 : Pos} {Q : Value → Shared → Prop} (kf : env.kindOf "isinstance" = some .globalImplicit) (mf : mg "isinstance" = none)
    (kx : env.kindOf x = some .local) (mx : m x = some (.int i ti)) (ky : env.kindOf y = some .globalImplicit) (my : mg y = none) (hy : bootBuiltins y = some (.type T)) (e : PySem.W.kitOne K (.type "int") (.type T) = some b) (h : ∀ tk, Q (.bool b) { s with toks := tk })
    (hn : y ≠ "__name__" := by decide) (hd : (x == ("__debug__" : Str)) = false := by decide) (hd' : (y == ("__debug__" : Str)) = false := by decide)
    (he : starEach [.Name x p1, .Name y p2] env = (false, eval (.Name x p1) env) :: starEach [.Name y p2] env := by rfl) (he2 : starEach [.Name y p2] env = (false, eval (.Name y p2) env) :: starEach [] env := by rfl) (hpl : (backTo p4 (starEach [.Name y p2] env)).any (·.1) = false := by rfl) :
    wpAny (model prog w) A (eval (.Call (.Name "isinstance" p3) [.Name x p1, .Name y p2] [] p4) env) Q E s := by
  refine wpAny_Call_Name_kw (F.bltn kf mf (u := .builtin "isinstance") (by decide +kernel) ?_)
  refine PyProof.Rows.callWith_builtin1 ?_ he hpl
  rw [he]
  show wpAny _ _ (spliced ((false, eval (.Name x p1) env) :: backTo p4 (starEach [.Name y p2] env))) _ _ s
  refine Calls.spliced_cons (F.loc kx mx ?_ hd)
  rw [he2]
  show wpAny _ _ (spliced ((false, eval (.Name y p2) env) :: backTo p4 (starEach [] env))) _ _ s
  refine Calls.spliced_cons (F.bltn ky my hy ?_ hn hd')
  refine Calls.spliced_nil ?_
  exact PySem.W.kia_one PySem.W.kitx_int F.kin trivial e (fun z => nomatch z) h
end
end Lk
namespace Lk
open PySem PySem.Spec PyProof.Rows L2
section
variable {prog : Program} {w : World} {K : PySem.W.Frag} {mg : Str → Option Value} {base : Heap} {A : Around} {E : Value → Shared → Prop} {s : Shared}
theorem num_body {L f : Addr} {cdv : Value} {m : Str → Option Value} {x n : Int} {tx t0 tn : Tok} (F : Frm K mg base (envOfC "is_number" (defScope sNum) L f cdv) m s) (mv : m "value" = some (.int x tx)) (ml : m "low" = some (.int 0 t0)) (mh : m "high" = some (.int n tn))
    (mi : mg "isinstance" = none) (mt : mg "int" = none) (mb : mg "bool" = none) (h0 : 0 ≤ x) (h1 : x ≤ n) {Q : Flow → Shared → Prop} (h : ∀ tk, Q (.ret (.bool true)) { s with toks := tk }) :
    wpAny (model prog w) A (execs (defBody sNum) (envOfC "is_number" (defScope sNum) L f cdv)) Q E s := by
  refine wpAny_execs_cons (wpAny_Return_some ?_)
  refine BoolOp_and (F.isi (T := "int") (b := true) (by rfl) mi (by rfl) mv (by rfl) mt (by decide +kernel) (kit_ty (by decide +kernel)) fun t1 => ?_)
  refine wpAny_truthy_bool ?_
  refine BoolOp_and (UnaryOp_ ((F.tok t1).isi (T := "bool") (b := false) (by rfl) mi (by rfl) mv (by rfl) mb (by decide +kernel) (kit_ty (by decide +kernel)) fun t2 => ?_))
  refine not_of (wpAny_truthy_bool ?_)
  refine wpAny_truthy_bool ?_
  refine BoolOp_one ?_
  refine Compare_chain ((F.tok t2).loc (by rfl) ml (chain_link ((F.tok t2).loc (by rfl) mv ?_))) (by with_unfolding_all rfl)
  refine le_int ?_
  rw [decide_eq_true h0]
  refine wpAny_truthy_bool (ite_tt (chain_last ((F.tok t2).loc (by rfl) mh ?_)))
  refine le_int ?_
  rw [decide_eq_true h1]
  exact h t2
end
end Lk
namespace Lk
open PySem PySem.Spec PyProof.Rows L2
section
variable {prog : Program} {w : World} {K : PySem.W.Frag} {mg : Str → Option Value} {base : Heap} {A : Around} {E : Value → Shared → Prop} {s : Shared}
theorem num_call {f : Addr} {fd : FuncData} (Fn : Fun K "is_number" "is_number" sNum f fd) (M : L2.Mod K mg base) (keep : ∀ b o, base.get? b = some o → s.heap.get? b = some o)
    (mi : mg "isinstance" = none) (mt : mg "int" = none) (mb : mg "bool" = none) (hroom : A.depth < recursionLimit) {x n : Int} {tx t0 tn : Tok} (h0 : 0 ≤ x) (h1 : x ≤ n) :
    wpAny (model prog w) A (call (.ref f) [.int x tx, .int 0 t0, .int n tn]) (fun y s' => y = .bool true ∧ Keeps s s') E s := by
  have b := Fn.binds (ps := ["value", "low", "high"]) fun _ _ _ _ _ _ us hl => match us, hl with | [_, _, _], _ => rfl
  obtain ⟨oc, od, kV, doc, pm, an, cdv, ct, osl, rfl, lk, hcd⟩ := Fn.ex
  have hk : K.In s.heap := M.kin.keeps keep
  refine wpAny_call ?_
  refine Att.call_fn hk (M.nolimit.keeps keep) lk hcd hroom (b s [.int x tx, .int 0 t0, .int n tn] hk rfl) (by rfl) (fun s₁ hc => ?_) rfl rfl rfl
  obtain ⟨h', tk, rfl, hkp⟩ := hc.done
  refine num_body (n := n) (x := x) ⟨rfl, rfl, rfl, M, fun b o e => hkp b o (keep b o e), hc.toInCall.ns⟩ (by rfl) (by rfl) (by rfl) mi mt mb h0 h1 fun t => ?_
  exact ⟨rfl, _, _, rfl, hkp⟩
end
end Lk
set_option Elab.async false
set_option linter.all false
set_option maxRecDepth 100000
namespace Lk
open PySem PySem.Spec PyProof.Rows L2 GxR
section
variable {prog : Program} {w : World} {K : PySem.W.Frag} {mg : Str → Option Value} {base : Heap} {A : Around} {E : Value → Shared → Prop} {s : Shared} {env : Env} {m : Str → Option Value}
theorem keeps_of {s s1 s2 : Shared} {t : Nat} (e : s1 = { s with toks := t }) (h : Keeps s1 s2) : Keeps s s2 := by
  subst e
  obtain ⟨h', tk, rfl, k⟩ := h
  exact ⟨h', tk, rfl, k⟩
/-- the element: is_number(place, 0, places - 1) -/
theorem elt_num {f c : Addr} {fd : FuncData} (Fn : Fun K "is_number" "is_number" sNum f fd) (gf : mg "is_number" = some (.ref f)) (F : Frm K mg base env m s) (mi : mg "isinstance" = none) (mt : mg "int" = none) (mb : mg "bool" = none)
    (hroom : A.depth < recursionLimit) {x n : Int} {tx tn : Tok} (h0 : 0 ≤ x) (h1 : x ≤ n - 1) (k1 : env.kindOf "is_number" = some .globalImplicit) (k2 : env.kindOf "place" = some .local) (k3 : env.kindOf "places" = some .free)
    (mp : m "place" = some (.int x tx)) (hc : env.cells.lookup ("places" : Str) = some c) (hcell : s.heap.IsCell c (some (.int n tn))) {q0 q1 q2 q3 q4 q5 q6 : Pos} {j j2 : Nat} :
    wpAny (model prog w) A (eval (.Call (.Name "is_number" q0) [.Name "place" q1, .Constant (.int 0) j q2, .BinOp (.Name "places" q3) .Sub (.Constant (.int 1) j2 q4) q5] [] q6) env) (fun y s' => y = .bool true ∧ Keeps s s') E s := by
  refine wpAny_Call_Name_kw (F.glb k1 gf ?_)
  refine PySem.W.callWith_K (h₀ := base) F.mod.kin Fn.kp ?_
  show wpAny _ _ (spliced ((false, eval (.Name "place" q1) env) :: (false, eval (.Constant (.int 0) j q2) env) :: backTo q6 [(false, eval (.BinOp (.Name "places" q3) .Sub (.Constant (.int 1) j2 q4) q5) env)])) _ _ s
  refine Calls.spliced_cons (F.loc k2 mp ?_)
  refine Calls.spliced_cons (wpAny_Constant_int ?_)
  show wpAny _ _ (spliced ((false, eval (.BinOp (.Name "places" q3) .Sub (.Constant (.int 1) j2 q4) q5) env) :: backTo q6 [])) _ _ _
  refine Calls.spliced_cons (wpAny_BinOp (wpAny_Name (wpAny_loadName_free F.kind k3 hc hcell ?_ (by decide)) (by decide)))
  refine wpAny_Constant_int (sub_int (Calls.spliced_nil ⟨F.kin, ?_⟩))
  refine thn (num_call (s := { s with toks := s.toks + 1 + 1 + 1 }) Fn F.mod F.keep mi mt mb hroom h0 h1) fun y s' hy => ⟨hy.1, keeps_of rfl hy.2⟩
end
/-- all(is_number(place, 0, places - 1) for place in e) -/
def tAllN (K : PySem.W.Frag) (Pt : Addr) (i : Nat) (te : TE) : TE := fun σ H Q => te σ H fun v H1 => ∃ a t n, v = .ref a ∧ SqT K H1 a (tv t) ∧ (∀ x ∈ t, x < n) ∧ σ[i]? = some (some (nv n)) ∧ TabG H1 Pt ∧ ∀ H2, Tabbed Pt H1 H2 → Q (.bl true) H2
theorem tv_ints : ∀ {t : Tn} {us : List Value}, Vals (tv t) us → ∀ {i : Nat} {u : Value}, us[i]? = some u → ∃ x tk, t[i]? = some x ∧ u = .int (x : Int) tk
  | x :: t, _, .cons r _, 0, u, h => by
    obtain ⟨tk, e⟩ := r
    simp at h
    exact ⟨x, tk, rfl, by rw [← h, e]⟩
  | x :: t, _, .cons _ rr, i + 1, u, h => tv_ints (t := t) rr (i := i) (by simpa using h)
  | [], _, .nil, i, u, h => by simp at h
theorem isTup_neP {h : Heap} {a b : Addr} {items : Array Value} {o : Obj} (p : IsTup h a items) (hb : h.get? b = some o) (hc : o.cls = .none := by rfl) : a ≠ b := fun e => by
  obtain ⟨o1, h1, c1, _⟩ := p
  rw [e, hb] at h1
  cases h1
  rw [hc] at c1
  cases c1
theorem pe_allN {X : Cx} {c Pt f : Addr} {fd : FuncData} {iter : Expr} {px p pos gpos q0 q1 q2 q3 q4 q5 q6 : Pos} {j j2 i k : Nat} {scope : Scope} {te : TE} (hr : Room k X.A) (hg : Gl X "all") (hm : X.mg "all" = none) (TB : TabB X.base X.mg c Pt) (hcode : X.env.code = .ref c)
    (S : GenS X.env scope "place") (eclo : cloFrom X.env.cells scope.names [] = [(("places" : Str), (X.env.cells.lookup ("places" : Str)).getD 0)]) (k1 : scope.names.lookup ("is_number" : Str) = some NameKind.globalImplicit) (k3 : scope.names.lookup ("places" : Str) = some NameKind.free)
    (hN : X.N[i]? = some ("places" : Str)) (hvis : X.env.scope.names.lookup ("places" : Str) = some NameKind.cell)
    (Fn : Fun X.K "is_number" "is_number" sNum f fd) (gf : X.mg "is_number" = some (.ref f)) (mi : X.mg "isinstance" = none) (mt : X.mg "int" = none) (mb : X.mg "bool" = none) (hi : PE X iter te) (hs : ∀ v, genFold iter X.env v = pure v)
    {elt : Expr} (eelt : elt = .Call (.Name "is_number" q0) [.Name "place" q1, .Constant (.int 0) j q2, .BinOp (.Name "places" q3) .Sub (.Constant (.int 1) j2 q4) q5] [] q6)
    (he : starEach [.GeneratorExp elt [⟨.Name "place" px, iter, [], 0⟩] scope gpos] X.env = (false, eval (.GeneratorExp elt [⟨.Name "place" px, iter, [], 0⟩] scope gpos) X.env) :: starEach [] X.env := by rfl) :
    PE X (.Call (.Name "all" p) [.GeneratorExp elt [⟨.Name "place" px, iter, [], 0⟩] scope gpos] [] pos) (tAllN X.K Pt i te) := by
  refine ⟨fun pins s σ H Q I h => ?_⟩
  refine wpAny_Call_Name_kw (ld_blt I hg hm (by decide +kernel : bootBuiltins "all" = some (.builtin "all")) ?_)
  refine PyProof.Rows.callWith_builtin1 ?_ he (by rfl)
  rw [he]
  show wpAny _ _ (spliced ((false, eval (.GeneratorExp elt [⟨.Name "place" px, iter, [], 0⟩] scope gpos) X.env) :: backTo pos (starEach [] X.env))) _ _ s
  refine Calls.spliced_cons ?_
  have hd := hr.hd
  have hdp := hr.dp
  refine wpAny_GeneratorExp_walksQD hd S.co (closure_ok S.free) S.cell S.dot S.loc S.kind (by omega) ?_ hs
  refine thn (hi.run pins s σ H _ I h) fun xv s1 ⟨v, H1, I1, r1, q1⟩ => ?_
  obtain ⟨a, t, n, rfl, hT, hlt, hσ, ⟨ps, hP, htr⟩, q1⟩ := q1
  cases r1
  obtain ⟨its, rv, tp, hz⟩ := I1.tuple hT
  -- places' cell
  obtain ⟨mloc, hnl, hl⟩ := I1.loc
  obtain ⟨un, run, look⟩ := hl i _ _ hN hσ (.inr (.inl hvis))
  obtain ⟨tn, rfl⟩ := run
  have hcell : ∃ cp, X.env.cells.lookup ("places" : Str) = some cp ∧ s1.heap.IsCell cp (some (.int (n : Int) tn)) := by
    rcases look with ⟨hk, _⟩ | ⟨_, cp, hcp, hcc⟩
    · have : some NameKind.cell = some NameKind.local := hvis.symm.trans hk
      cases this
    · exact ⟨cp, hcp, hcc⟩
  obtain ⟨cp, hcp, hcc⟩ := hcell
  refine wpAny_pyIter_tuple tp ?_
  have hPs : s1.heap.get? Pt = some { cls := .none, data := .fields ps } := I1.hok Pt _ hP
  have hPlt : Pt < s1.heap.objs.size := Heap.lt_size hPs
  generalize hob : ({ cls := .type "tuple_iterator", data := .fields #[.ref a, .int 0 0] } : Obj) = ob
  have obF : ob.isFreed = false := by rw [← hob]; rfl
  have hP2 : (s1.heap.push ob).get? Pt = some { cls := .none, data := .fields ps } := Heap.get?_push_of_some _ hPs
  have cd : PySem.W.CodeHd (s1.heap.push ob) c Pt := TB.code.keeps fun b u e => Heap.get?_push_of_some _ (I1.bk b u e)
  have lim2 : (s1.heap.push ob).NoLimit := I1.nolimit.push ob
  have hlt1 : a < s1.heap.objs.size := by obtain ⟨_, e, _⟩ := tp; exact Heap.lt_size e
  have haP : a ≠ Pt := isTup_neP tp hPs
  have cont : ∀ (code : Value) (h3 : Heap) (tk : Nat) (ps' : Array Value), Heap.ExtBut Pt (s1.heap.push ob) h3 → (s1.heap.push ob).objs.size ≤ h3.objs.size → h3.get? Pt = some { cls := .none, data := .fields ps' } → (∃ more, ps' = ps ++ more) → TriplesOk ps'.toList →
      wpAny (model X.prog X.w) X.A (builtinsFor X.env.globals X.env.builtins) (fun bi s₄ =>
        ∃ Ia fp wr n₀ Pf St₀ pz Fz, Value.ref s1.heap.objs.size = .ref Ia ∧ (∀ A' : Around, A'.handled = none → Walks X.prog X.w A' Ia fp wr n₀ Pf St₀) ∧ St₀ 0 s₄.heap ∧ (∀ b ∈ fp, b < s₄.heap.objs.size) ∧ s₄.heap.NoLimit ∧ cStatics ∉ wr ∧
          (∀ href : Heap, (∀ b o, s₄.heap.get? b = some o → href.get? b = some o) →
            QuietGenD X.prog X.w (genEnv scope (cloFrom X.env.cells scope.names []) s₄.heap.objs.size code bi X.env) "place" [] elt (List.range s₄.heap.objs.size) wr Pf pz Fz href (X.A.depth + 1) (X.A.units + 8)) ∧
          (∀ g h₅ tk gs, gs.bare = true → s₄.heap.objs.size < g → h₅.objs.size = g + 1 → (∀ b o, s₄.heap.get? b = some o → h₅.get? b = some o) →
            WalksS X.prog X.w X.A.in4 g (g :: s₄.heap.objs.size :: List.range s₄.heap.objs.size) (s₄.heap.objs.size :: wr) (GenOnlyQ s₄.gens.size) (passing pz n₀ 0).length
              (fun j y => ∃ i, (passing pz n₀ 0)[j]? = some i ∧ Fz i y) (GenAt X.prog X.w X.A.in4 g s₄.gens.size s₄.heap.objs.size (List.range s₄.heap.objs.size) wr pz n₀ Fz) →
            GenAt X.prog X.w X.A.in4 g s₄.gens.size s₄.heap.objs.size (List.range s₄.heap.objs.size) wr pz n₀ Fz 0 { s₄ with gens := s₄.gens.push gs, toks := tk, heap := h₅ } →
            wpAny (model X.prog X.w) X.A (spliced (backTo pos (starEach [] X.env))) (fun vs s2 => wpAny (model X.prog X.w) X.A (call (.builtin "all") (.ref g :: vs)) (EP X pins σ Q) X.xe s2) X.xe { s₄ with gens := s₄.gens.push gs, toks := tk, heap := h₅ })) X.xe { s1 with heap := h3, toks := tk } := by
    intro code h3 tk ps' hx hsz hP3 hmore ht3
    obtain ⟨bm, ob2, e1, e2, e3, e4, e5, e6, e7, e8⟩ := TB.bm
    have hcP : cStatics ≠ Pt := fun e => by
      obtain ⟨_, hns, _⟩ := I1.nolimit
      obtain ⟨o', es, ep, ho, hd, _⟩ := hns
      rw [e, hPs] at ho
      cases ho
      cases hd
    have hcl : cStatics < s1.heap.objs.size := let ⟨_, hns, _⟩ := I1.nolimit; hns.lt
    have sz2 : (s1.heap.push ob).objs.size = s1.heap.objs.size + 1 := Heap.size_push ..
    have keep3 : ∀ b u, b ≠ Pt → s1.heap.get? b = some u → h3.get? b = some u := fun b u hb e => hx b u hb (Heap.get?_push_of_some _ e)
    have baseNe : ∀ b o, X.base.get? b = some o → b ≠ Pt := fun b o e z => by
      obtain ⟨_, n1⟩ := I1.bs b o e
      rw [z, hP] at n1
      cases n1
    refine wpAny_builtinsFor (m := X.mg) (by rw [I1.ok.glob]; exact ((I1.mod.glob.keeps I1.bk).push ob).extBut hx TB.gP) e1 e2 (keep3 _ _ e4 (I1.bk _ _ e5)) e6 e7 e8 ?_
    have nPt : s1.heap.objs.size ≠ Pt := Nat.ne_of_gt hPlt
    have its0 : h3.IsTupleIter s1.heap.objs.size a 0 := by
      refine ⟨ob, hx _ _ nPt (Heap.get?_push_size _ obF), ?_, ?_⟩
      · rw [← hob]
      · rw [← hob]; rfl
    have tup3 : h3.IsTuple a its.toArray := by
      obtain ⟨o, ho, r⟩ := tp
      exact ⟨o, keep3 _ _ haP ho, r⟩
    refine ⟨s1.heap.objs.size, [s1.heap.objs.size, a], [s1.heap.objs.size], its.toArray.size, (fun i v => its.toArray[i]? = some v), _, (fun _ => true), (fun i y => y = .bool true), rfl, fun A' hA => Walks.tuple hA _ a (Nat.ne_of_lt hlt1) its.toArray, ⟨its0, tup3⟩, ?_, lim2.extBut hx hcP, ?_, ?_, ?_⟩
    · intro b hb
      show b < h3.objs.size
      rcases List.mem_cons.mp hb with z | z
      · rw [z]; exact Nat.lt_of_lt_of_le (by rw [sz2]; exact Nat.lt_succ_self _) hsz
      · rw [List.mem_singleton.mp z]; exact Nat.lt_of_lt_of_le (Nat.lt_of_lt_of_le hlt1 (by rw [sz2]; exact Nat.le_succ _)) hsz
    · intro z
      exact Nat.ne_of_lt hcl (List.mem_singleton.mp z)
    · intro href hhref
      refine ⟨fun A' E' i v s₂ m₂ hA hD hU hPv hn hm hk => ?_, fun A' E' i v s₂ m₂ hA hD hU hPv hp hn hm hk => ?_⟩
      · simp only [List.forIn_nil]
        exact wpAny_pure ⟨rfl, keeps_refl _⟩
      · have old2 : ∀ b o, b ≠ Pt → s1.heap.get? b = some o → s₂.heap.get? b = some o := fun b o hb e => by
          have h3o := keep3 b o hb e
          exact hk b (List.mem_range.mpr (Heap.lt_size h3o)) (fun z => Nat.ne_of_lt (Heap.lt_size e) (List.mem_singleton.mp z)) o (hhref b o h3o)
        obtain ⟨xv, txv, hxt, rfl⟩ := tv_ints rv (i := i) (by rw [← List.getElem?_toArray]; exact hPv)
        have hcpP : cp ≠ Pt := fun z => by
          obtain ⟨oc, hoc, hdc⟩ := hcc
          rw [z, hPs] at hoc
          cases hoc
          cases hdc
        have hcc2 : s₂.heap.IsCell cp (some (.int (n : Int) tn)) := by
          obtain ⟨oc, hoc, hdc⟩ := hcc
          exact ⟨oc, old2 _ _ hcpP hoc, hdc⟩
        have hxn := hlt xv (List.mem_of_getElem? hxt)
        subst eelt
        refine elt_num (env := genEnv scope (cloFrom X.env.cells scope.names []) h3.objs.size code builtinsNs X.env) (x := (xv : Int)) (n := (n : Int)) (m := m₂) Fn gf ⟨S.kind, I1.ok.glob, rfl, I1.mod, fun b o e => old2 b o (baseNe b o e) (I1.bk b o e), hn⟩ mi mt mb (by omega) (by omega) (by omega) k1 S.loc k3 hm ?_ hcc2
        show List.lookup _ (cloFrom X.env.cells scope.names []) = _
        rw [eclo, hcp]
        rfl
    · intro g h5 tk5 gs hgb hag hsz5 hk5 W5 hat
      simp only [GxR.passing_true, List.length_range] at W5
      refine Calls.spliced_nil ?_
      refine call_all_walkS (W5.in4_1.self 0 _ _ _ hat ⟨g, _, _, _, _, _, _, (fun _ => true), rfl, W5.in4_1, hat, ?_, fun s' hmv => ?_⟩)
      · intro jj y sj Qj Ej hy hQj
        obtain ⟨i, hij, rfl⟩ := hy
        exact wpAny_truthy_bool hQj
      · obtain ⟨more, em⟩ := hmore
        have nwr : ∀ b u, s1.heap.get? b = some u → b ∉ h3.objs.size :: [s1.heap.objs.size] := fun b u e hb => by
          have hl := Heap.lt_size e
          rcases List.mem_cons.mp hb with z | z
          · rw [z] at hl
            exact absurd (Nat.lt_of_lt_of_le (Nat.lt_trans hl (by rw [sz2]; exact Nat.lt_succ_self _)) hsz) (Nat.lt_irrefl _)
          · exact Nat.ne_of_lt hl (List.mem_singleton.mp z)
        have J := inv_tab (more := more) (h' := s'.heap) (g' := s'.gens) (d' := s'.drawn) (t' := s'.toks) I1 hP (fun b u hb e => hmv.heap b u (nwr b u e) (hk5 b u (keep3 b u hb e)))
          (by rw [← em]; exact hmv.heap Pt _ (nwr Pt _ hPs) (hk5 Pt _ hP3)) (AllBare.movedS (I1.bare.push hgb) hmv)
        rw [sh_eta s1 s' hmv.os] at J
        refine ⟨.bl true, _, J, ?_, q1 _ ⟨⟨ps ++ more, upd_same, by rw [← em]; exact ht3⟩, fun b hb => upd_ne hb⟩⟩
        show Value.bool _ = Value.bool true
        congr 1
        exact List.all_eq_true.mpr fun _ _ => rfl
  refine ⟨lim2, ?_⟩
  cases hf : codeAmong gpos ps.toList with
  | none =>
    refine wpAny_genexprCodeX hcode (cd.code hP2 htr) (cd.tab hP2) hf fun c' h' tk hx hge hlt hco' _ htab' _ => ?_
    obtain ⟨o1, vs, f1, tf, fl, tg, inF, tx, tt, op, _, _, _, _, _, _, _, _, _, htr2, _⟩ := hco'
    exact cont _ h' tk _ hx (Nat.le_trans hge (Nat.le_of_lt hlt)) htab'.2 ⟨_, rfl⟩ htr2
  | some cv =>
    refine wpAny_genexprCode_hit hcode (cd.code hP2 htr) hf ?_
    exact cont cv (s1.heap.push ob) s1.toks ps (Heap.ExtBut.refl _ _) (Nat.le_refl _) hP2 ⟨#[], by simp⟩ htr
end Lk
set_option Elab.async false
set_option linter.all false
set_option maxRecDepth 100000
namespace Lk
open PySem PySem.Spec PyProof.Rows L2
section
variable {X : Cx} {pins : List (Addr × Obj)} {σ : L2.St} {H : Hp} {s : Shared} {a b : Addr} {r : Value} {d : V} {k : List L2.Key} {A : Around} {E : Value → Shared → Prop}
/-- setdefault of a dict whose keys are tuples -/
theorem d_setdT {kvs : List (List L2.Key × V)} {Q : Value → Shared → Prop} (hu : A.units + 1 < cLine) (I : Inv X pins σ H s) (e : H a = some (.dT kvs)) (eb : H b = some (.tup (k.map kV))) (rd : RelV d r) (hl : kvs.length < sizeLine)
    (h1 : ∀ v, valV kvs k = some v → ∀ (w' : Value) (s' : Shared), Inv X pins σ H s' → RelV v w' → Q w' s') (h2 : valV kvs k = none → ∀ (w' : Value) (s' : Shared), Inv X pins σ (upd H a (.dT (putK kvs k d))) s' → RelV d w' → Q w' s') :
    wpAny (model X.prog X.w) A (call (.builtin "dict.setdefault") [.ref a, .ref b, r]) Q E s := by
  obtain ⟨z, hd, xs, rel, dd⟩ := dt_of I.hok e
  have hz : xs.length ≤ sizeLine := by rw [← Paired.length rel]; exact z
  have hl2 : (putK kvs k d).length ≤ sizeLine := by have := length_putK kvs k d; omega
  refine call_setdefault_heap (knd := tupleKind (mixKind X.prog X.w)) (k := k) (hsz := hz) (tupleKind_room_in1 hu) (key_of I.hok eb) hd dd (fun p hp => ?_) fun hn h' dd' hs => ?_
  · have q := rel.val k
    rw [hp] at q
    cases q0 : valV kvs k with
    | none => rw [q0] at q; exact (show False from q).elim
    | some v0 => rw [q0] at q; exact h1 v0 q0 _ _ (I.tok _) q
  · have q := rel.val k
    rw [hn] at q
    cases q0 : valV kvs k with
    | some v0 => rw [q0] at q; exact (show False from q).elim
    | none =>
      obtain ⟨q, es, ep, hq, g2, g3, g4, _, g5⟩ := dd'
      refine h2 q0 _ _ (d_write I (by rw [e]; exact True.intro) hs ⟨q, hq⟩ ⟨hl2, hd, _, (rel.put k eb rd).keeps fun c ys ec => ?_, q, es, ep, hq, g2, g3, g4, g5⟩) rd
      rw [upd_ne (ne_of ec e (fun z => nomatch z))]
      exact ec
end
/-- d.setdefault(y, z), the keys tuples -/
def tDSetdT (td ty tx : TE) : TE := fun σ H Q => td σ H fun x H1 => ∃ a, x = .ref a ∧ IsD H1 a ∧ ty σ H1 fun y H2 => tx σ H2 fun z H3 => ∃ (kvs : List (List L2.Key × V)) (k : List L2.Key) (b : Addr), H3 a = some (.dT kvs) ∧ y = .ref b ∧ H3 b = some (.tup (k.map kV)) ∧ kvs.length < sizeLine ∧
  (∀ v, valV kvs k = some v → Q v H3) ∧ (valV kvs k = none → Q z (upd H3 a (.dT (putK kvs k z))))
section
variable {X : Cx} {o e f : Expr} {td ty tx : TE} {apos cpos : Pos}
theorem pe_dsetdT (hu : X.A.units + 1 < cLine) (ho : PE X o td) (he : PE X e ty) (hf : PE X f tx) (m : M2 X o "setdefault" apos e f cpos) : PE X (.Call (.Attribute o "setdefault" apos) [e, f] [] cpos) (tDSetdT td ty tx) := by
  refine ⟨fun pins s σ H Q I h => ?_⟩
  refine wpAny_Call_method m.base m.few m.line PySem.F.plainAttrs_dict PySem.F.slot_dict_setdefault PySem.F.type_dict_setdefault (thn (ho.run pins s σ H _ I h) fun u s1 ⟨x, H1, I1, rx, a, ex, d, q1⟩ => ?_)
  subst ex
  obtain rfl : u = Value.ref a := rx
  obtain ⟨t1, t2, _⟩ := isD_at I1 d
  refine ⟨t1, t2, ?_⟩
  rw [m.trees]
  refine Calls.callWith_builtin rfl (Calls.evalArgs_plain (Calls.spliced_cons (thn (he.run pins s1 σ H1 _ I1 q1) fun iv s2 ⟨y, H2, I2, ry, q2⟩ =>
    Calls.spliced_cons (thn (hf.run pins s2 σ H2 _ I2 q2) fun fv s3 ⟨z, H3, I3, rz, kvs, k, b, ea, ey, eb, hl, q3, q4⟩ => Calls.spliced_nil ?_))))
  subst ey
  cases (show iv = Value.ref b from ry)
  exact d_setdT hu I3 ea eb rz hl (fun v hv w' s4 I4 rw' => ⟨v, _, I4, rw', q3 v hv⟩) fun hn w' s4 I4 rw' => ⟨z, _, I4, rw', q4 hn⟩
end
/-! items of a dict whose keys are tuples -/
/-- the pairs, each a new tuple -/
def Itit (d : Addr) (o : Obj) (kvs : List (List L2.Key × V)) : It :=
  ⟨fun i H => H d = some (.frz o (.dT kvs)) ∧ i < kvs.length, fun i H x H' => ∃ T k v q, kvs[i]? = some (k, v) ∧ x = .ref T ∧ H T = none ∧ H q = some (.tup (k.map kV)) ∧ H' = upd H T (.tup [.ref q, v]), fun i H => H d = some (.frz o (.dT kvs)) ∧ kvs.length ≤ i⟩
theorem frzTV {X : Cx} {pins : List (Addr × Obj)} {σ : L2.St} {H : Hp} {s : Shared} {d : Addr} {o : Obj} {kvs : List (List L2.Key × V)} (I : Inv X pins σ H s) (h : H d = some (.frz o (.dT kvs))) :
    (d == sysModules) = false ∧ ∃ (es : Array DictEntry) (ep : Nat), o.data = .dict es ep ∧ DT.Raw s.heap d es ep ∧ es.size = kvs.length ∧
      ∀ (i : Nat) (k : List L2.Key) (v : V), kvs[i]? = some (k, v) → ∃ (en : DictEntry) (q : Addr) (u : Value), es[i]? = some en ∧ en.key = .ref q ∧ en.val = u ∧ RelV v u ∧ H q = some (.tup (k.map kV)) := by
  obtain ⟨hd, z, hs, xs, pr, o', es, ep, ho, hx, hdt, he, _⟩ := I.hok d _ h
  rw [hd] at ho
  cases ho
  refine ⟨hs, es, ep, hdt, ⟨o, hd, hx, hdt⟩, ?_, fun i k v e => ?_⟩
  · have l1 : es.size = xs.length := size_of_entries he
    have l2 : kvs.length = xs.length := Paired.length pr
    omega
  · obtain ⟨b, hb, e1, e2, e3⟩ := paired_get pr e
    have q := entry_at he i
    rw [hb] at q
    exact ⟨_, b.2.1, b.2.2, q, rfl, rfl, e3, e2⟩
section
variable {P : Program} {w : World} {K : PySem.W.Frag} {d : Addr} {o : Obj} {es : Array DictEntry} {ep : Nat}
theorem turn_itemsT {kvs : List (List L2.Key × V)} {elts : List Expr} {kk : Nat} {tpos : Pos} (it : Addr) (hod : o.data = .dict es ep) :
    Turn P w K (.Tuple elts kk tpos) (Itit d o kvs) [it] it (fun i h => ∃ ok ov, IsItemIter h it d i kvs.length ep ok ov) where
  mem := by simp
  obj := fun i h st b hb => by
    have e : b = it := by simpa using hb
    subst e
    obtain ⟨ok, ov, e⟩ := st
    exact ⟨_, e, fun v z => nomatch z⟩
  keep := fun i h h' st k => let ⟨ok, ov, e⟩ := st; ⟨ok, ov, k it (by simp) _ e⟩
  item := by
    intro X hP hw hK hc i pins s σ H E I hf st hg
    subst hP hw hK
    obtain ⟨hd, hi⟩ := hg
    obtain ⟨hs, es', ep', hdt, hraw, hsz, ent⟩ := frzTV I hd
    obtain ⟨rfl, rfl⟩ := dict_ep hod hdt
    obtain ⟨⟨k, v⟩, hkv⟩ : ∃ p, kvs[i]? = some p := ⟨kvs[i], List.getElem?_eq_getElem hi⟩
    obtain ⟨en, q, u, hen, hkey, hval, ru, hq⟩ := ent i k v hkv
    obtain ⟨ok, ov, he⟩ := st
    rw [← hsz] at he
    have hi2 : i < es'.size := by rw [hsz]; exact hi
    have hei : es'[i] = en := by
      have := Array.getElem?_eq_getElem hi2
      rw [this] at hen
      exact Option.some.inj hen
    have hlt : it < s.heap.objs.size := Heap.lt_size he
    refine DT.nextI he hraw hi2 fun h' ho hT hz hk => ?_
    rw [hei, hkey, hval] at ho hT
    refine ⟨_, rfl, wpAny_letOwnedTupleGo_items (s := { s with heap := h' }) ho fun h'' he' sb => ?_⟩
    have hT2 : h''.get? s.heap.objs.size = some { cls := .type "tuple", data := .seq #[.ref q, u] } := (sb.2 _ (Nat.ne_of_gt hlt)).trans hT
    have new : ObjOk X.prog X.w (upd H s.heap.objs.size (.tup [.ref q, v])) h'' s.heap.objs.size (.tup [.ref q, v]) :=
      ⟨by show 2 ≤ sizeLine; decide, [.ref q, u], .cons rfl (.cons ru .nil), ⟨_, hT2, rfl, _, rfl⟩⟩
    have I1 : Inv X pins σ (upd H s.heap.objs.size (.tup [.ref q, v])) { s with heap := h'' } :=
      I.turnedNew (t' := s.toks) (ch := [it]) (fun b ob hb e => (sb.2 b (by simpa using hb)).trans (hk b ob (by simpa using hb) e)) hf (Nat.le_refl _) new
    refine ⟨.ref s.heap.objs.size, _, I1, rfl, ⟨_, k, v, q, hkv, rfl, I.hok.fresh (Nat.le_refl _), hq, rfl⟩, ⟨.ref q, u, ?_⟩, fun b hb => ?_⟩
    · rw [← hsz]; exact he'
    · have e : b = it := by simpa using hb
      rw [e, upd_ne (Nat.ne_of_lt hlt)]
      exact (hf it (by simp)).1
  done := by
    intro X hP hw hK hc i pins s σ H E I hf st hg
    subst hP hw hK
    obtain ⟨hd, hi⟩ := hg
    obtain ⟨f0, f1, f2, f3, f4, f5⟩ := hf it (by simp)
    obtain ⟨hs, es', ep', hdt, hraw, hsz, ent⟩ := frzTV I hd
    obtain ⟨rfl, rfl⟩ := dict_ep hod hdt
    obtain ⟨ok, ov, he⟩ := st
    rw [← hsz] at he
    exact DT.endI (I.ok.hd hc) he hraw (by omega) fun h' eb => ⟨rfl, I.turned (t' := s.toks) (fun b ob hb e => eb b ob hb e) f0 f1 f3 f4 f5⟩
  self := fun A i s Q E st h => let ⟨_, _, e⟩ := st; PySem.W.kcp_self e h
def iItemsT (td : TE) : TI := fun σ H R => td σ H fun x H1 => ∃ d o kvs, x = .ref d ∧ H1 d = some (.frz o (.dT kvs)) ∧ R (Itit d o kvs) H1
theorem pi_itemsT {X : Cx} {e : Expr} {td : TE} {apos cpos : Pos} {elts : List Expr} {kk : Nat} {tpos : Pos} (he : PE X e td) (hbase : attributeBase e "items" X.env (eval e X.env) = eval e X.env := by rfl) (hline : (apos.endLine == cpos.line) = true := by rfl) :
    PI X (.Tuple elts kk tpos) (.Call (.Attribute e "items" apos) [] [] cpos) (iItemsT td) := by
  refine ⟨fun pins s σ H R I h => ?_⟩
  refine wpAny_Call_method (T := "dict") (id := "dict.items") hbase rfl hline F.plainAttrs_dict F.slot_dict_items F.type_dict_items (thn (he.run pins s σ H _ I h) fun u s1 ⟨x, H1, I1, rx, d, o, kvs, ex, hd, q⟩ => ?_)
  subst ex
  obtain rfl : u = Value.ref d := rx
  obtain ⟨hs, es, ep, hdt, hraw, hsz, ent⟩ := frzTV I1 hd
  have hisd : IsD H1 d := .inr ⟨kvs, .inr ⟨_, hd⟩⟩
  obtain ⟨t1, t2, _⟩ := isD_at I1 hisd
  refine ⟨t1, t2, ?_⟩
  have I2 : Inv X pins σ H1 { s1 with heap := s1.heap.push { cls := .type "dict_items", data := .fields #[.ref d] } } := I1.kept (t' := s1.toks) fun b ob q => Heap.get?_push_of_some _ q
  show wpAny _ _ (callWith cpos (.builtin "dict.items") [.ref d] [] []) _ X.xe s1
  refine method_meetsIn F.slot_dict_items F.entry_dict_items rfl (PySem.evalArgs_none ⟨rfl, t1, F.args_dict_items_1 _, _, DT.meetsItems (es := es) (ep := ep) hs, hraw, ?_⟩)
  refine DT.iterI (d := d) ⟨_, Heap.get?_push_size _ rfl, rfl, rfl⟩ (hraw.push _) (pi_one (tk := s1.toks) I2 _ (turn_itemsT _ hdt) ⟨.none, .none, ?_⟩ q)
  rw [← hsz]
  exact Heap.get?_push_size _ rfl
theorem walk_itemsT {kvs : List (List L2.Key × V)} : Walk (Itit d o kvs) kvs.length (fun H => H d = some (.frz o (.dT kvs)))
    (fun i H x H' => ∃ T k v q, kvs[i]? = some (k, v) ∧ x = .ref T ∧ H T = none ∧ H q = some (.tup (k.map kV)) ∧ H' = upd H T (.tup [.ref q, v])) :=
  ⟨fun _ _ hi q => ⟨q, hi⟩, fun _ q => ⟨q, Nat.le_refl _⟩, fun _ _ _ _ _ _ y => y⟩
end
end Lk
set_option Elab.async false
set_option linter.all false
set_option maxRecDepth 100000
namespace Lk
open PySem PySem.Spec PyProof.Rows L2
section
variable {X : Cx}
theorem flat_tv (t : Tn) : (tv t).all flatV = true := by
  unfold tv
  rw [List.all_map]
  exact List.all_eq_true.mpr fun _ _ => rfl
/-- t.index(x), t a tuple of numbers: the first place -/
theorem mt_tupI : MtR X "tuple.index" (fun x xs H Q => ∃ p, ∃ t : Tn, ∃ z j, x = .ref p ∧ xs = [nv z] ∧ SqT X.K H p (tv t) ∧ t[j]? = some z ∧ (∀ m, m < j → t[m]? ≠ some z) ∧ Q (nv j) H) := by
  intro pins s σ H x xs v us Q I rx rs h
  obtain ⟨p, ys, z, j, rfl, rfl, hq, hy, hno, q⟩ := h
  cases rx
  obtain ⟨u, rfl, t, rfl⟩ := vals1 rs
  obtain ⟨its, r, pl, hz⟩ := I.tuple hq
  obtain ⟨⟨cls, dd, dt, sl⟩, ho, hc, n, hd⟩ := pl
  simp only at hc hd
  subst hc
  subst hd
  have hl : its.toArray.size = ys.length := by rw [List.size_toArray, ← r.length, tv_len]
  have hj : j < its.toArray.size := by rw [hl]; exact (List.getElem?_eq_some_iff.mp hy).1
  have at' : ∀ (m : Nat) (hm : m < its.toArray.size), ∃ y t', ys[m]? = some y ∧ its.toArray[m] = Value.int (y : Nat) t' := fun m hm => by
    have hm' : m < ys.length := by rw [← hl]; exact hm
    obtain ⟨w, hw, t', hw'⟩ := r.get (i := m) (x := nv ys[m]) (tv_of (List.getElem?_eq_getElem hm'))
    refine ⟨ys[m], t', List.getElem?_eq_getElem hm', ?_⟩
    have e := (List.getElem?_eq_some_iff.mp hw).2
    rw [← hw', ← e]
    simp
  refine call_meets PySem.F.slot_tuple_index ⟨_, ho, rfl⟩ PySem.F.entry_tuple_index (PySem.F.args_tuple_index_2 _ _) (TI.tuple_indexAt p its.toArray n dd sl (.int (z : Nat) t) (eqU (nv z)) j hj ?_ ?_)
    ⟨ho, fun w hw => mem_eqAt (x := nv z) ⟨t, rfl⟩ rfl r (flat_tv ys) w (by simpa using hw), ⟨nv j, H, I.tok _, ⟨_, rfl⟩, q⟩⟩
  · obtain ⟨y, t', h1, h2⟩ := at' j hj
    rw [hy] at h1
    cases h1
    rw [h2]
    show (((z : Nat) : Int) == ((z : Nat) : Int)) = true
    exact beq_self_eq_true _
  · intro m hm hmj
    obtain ⟨y, t', h1, h2⟩ := at' m hm
    rw [h2]
    show (((y : Nat) : Int) == ((z : Nat) : Int)) = false
    exact beq_eq_false_iff_ne.mpr fun e => hno m hmj (by rw [h1, Int.ofNat.inj e])
end
/-- t.m(e, ..), t a tuple of numbers that has no dict of its own -/
def tBMZ (r : V → List V → Hp → VK → Prop) (to : TE) (t : L2.TA) : TE := fun σ H Q => to σ H fun x H1 => (∃ a u, x = .ref a ∧ TZ H1 a u) ∧ t σ H1 fun xs H2 => r x xs H2 Q
theorem pe_bmZ {X : Cx} {o e : Expr} {es : List Expr} {to : TE} {t : L2.TA} {name : Str} {apos cpos : Pos} {id : String} {r : V → List V → Hp → VK → Prop} (slot : Slot "tuple" name id) (hty : typeOf (.builtin id) = pure (.type "method_descriptor")) (hm : MtR X id r) (ho : PE X o to) (ha : PA X (e :: es) t)
    (hbase : attributeBase o name X.env (eval o X.env) = eval o X.env := by rfl)
    (hfew : ((backTo cpos (starEach (e :: es) X.env)).all (fun x => !x.1) && (backToKw cpos (keywordEach [] X.env)).all (fun x => x.1.isSome)
      && decide ((e :: es).length + ([] : List Keyword).length + (if ([] : List Keyword).isEmpty then 0 else 1) < 30)) = true := by rfl)
    (hline : (apos.endLine == cpos.line) = true := by rfl) (hs : starEach (e :: es) X.env = (false, eval e X.env) :: starEach es X.env := by rfl) (hplain : (backTo cpos (starEach es X.env)).any (·.1) = false := by rfl) :
    PE X (.Call (.Attribute o name apos) (e :: es) [] cpos) (tBMZ r to t) := by
  refine ⟨fun pins s σ H Q I h => ?_⟩
  refine wpAny_Call_method_late hbase hfew hline rfl (thn (ho.run pins s σ H _ I h) fun v s1 ⟨x, H1, I1, r1, ⟨a, u, ex, ob, hd, hz⟩, q1⟩ => ?_)
  subst ex
  obtain rfl : v = Value.ref a := r1
  obtain ⟨g1, _, its, rv, o', g2, g3, g4⟩ := (show ObjOk X.prog X.w H1 s1.heap a (.frz ob (.tup (tv u))) from I1.hok a _ hz)
  refine ⟨"tuple", id, PySem.F.plainAttrs_tuple, slot, hty, ⟨o', g2, g3⟩, fun b e => ?_, ?_⟩
  · cases e
    exact ⟨ob, g1, hd⟩
  have hA := ha.run cpos pins s1 σ H1 _ I1 q1
  rw [hs] at hA ⊢
  refine Calls.callWith_builtin (by show (false || (backTo cpos (starEach es X.env)).any (·.1)) = false; rw [hplain] <;> rfl) (Calls.evalArgs_plain ?_)
  exact thn hA fun us s2 ⟨vs, H2, I2, r2, q2⟩ => hm pins s2 σ H2 (.ref a) vs (.ref a) us Q I2 rfl r2 q2
end Lk
set_option Elab.async false
set_option linter.all false
set_option maxRecDepth 100000
namespace Lk
open PySem PySem.Spec PyProof.Rows L2
/-! a dict whose keys are tuples, frozen or not; its values are objects -/
abbrev FE := List L2.Key × Addr × Addr
def dfE (xs : List FE) : List (List L2.Key × Addr × Value) := xs.map fun x => (x.1, x.2.1, .ref x.2.2)
def DFφ (P : Program) (w : World) (d : Addr) (xs : List FE) (h : Heap) : Prop := (d == sysModules) = false ∧ xs.length ≤ sizeLine ∧ (xs.map (·.1)).Nodup ∧
  ∃ o es ep, h.get? d = some o ∧ o.ExactDict ∧ o.data = .dict es ep ∧ es.toList = (dfE xs).map (entryOfKey (tupleKind (mixKind P w)))
def DFO (P : Program) (w : World) (d : Addr) (xs : List FE) : HO := .ext (DFφ P w d xs)
theorem DFφ.keep {P : Program} {w : World} {d : Addr} {xs : List FE} {h1 h2 : Heap} (f : DFφ P w d xs h1) (k : ∀ o, h1.get? d = some o → h2.get? d = some o) : DFφ P w d xs h2 :=
  let ⟨a, b, c, o, es, ep, e, r⟩ := f
  ⟨a, b, c, o, es, ep, k o e, r⟩
theorem dfo_ok {P : Program} {w : World} {H : Hp} {h : Heap} {d : Addr} {xs : List FE} (f : DFφ P w d xs h) : ObjOk P w H h d (DFO P w d xs) :=
  ⟨f, let ⟨_, _, _, o, _, _, e, _⟩ := f; ⟨o, e⟩, fun h1 h2 f k => f.keep k⟩
theorem df_map1 (xs : List FE) : (dfE xs).map (·.1) = xs.map (·.1) := by unfold dfE; rw [List.map_map]; rfl
/-- the keys can be read -/
def KeysF (K : PySem.W.Frag) (H : Hp) (xs : List FE) : Prop := ∀ x ∈ xs, SqT K H x.2.1 (x.1.map kV)
section
variable {X : Cx} {pins : List (Addr × Obj)} {σ : L2.St} {H : Hp} {s : Shared} {a b c : Addr} {k : List L2.Key} {A : Around} {E : Value → Shared → Prop}
theorem key_ofR {ks : List L2.Key} (I : Inv X pins σ H s) (e : SqT X.K H a (ks.map kV)) : (tupleKind (mixKind X.prog X.w)).is s.heap ks a := by
  obtain ⟨its, r, ⟨o, h1, h2, n, h3⟩, _⟩ := I.tuple e
  exact ⟨o, its.toArray, n, h1, h2, h3, by simpa using items_are r⟩
theorem df_at {xs : List FE} (I : Inv X pins σ H s) (e : Rd H a (DFO X.prog X.w a xs)) : DFφ X.prog X.w a xs s.heap := by
  rcases e with e | ⟨o, e⟩
  · exact (show ObjOk X.prog X.w H s.heap a (DFO X.prog X.w a xs) from I.hok a _ e).1
  · obtain ⟨_, r⟩ := I.hok a _ e
    exact (show ObjOk X.prog X.w H s.heap a (DFO X.prog X.w a xs) from r).1
theorem df_dict {xs : List FE} (I : Inv X pins σ H s) (e : Rd H a (DFO X.prog X.w a xs)) : s.TypeIs (.ref a) "dict" ∧ (∀ b, Value.ref a = .ref b → ∃ ob, s.heap.get? b = some ob ∧ ob.dict = none) := by
  obtain ⟨_, _, _, o, es, ep, h1, h2, _⟩ := df_at I e
  refine ⟨⟨o, h1, h2.1⟩, fun b q => ?_⟩
  cases q
  exact ⟨o, h1, h2.2.1⟩
theorem df_at_none {xs : List FE} (h : k ∉ xs.map (·.1)) : atKey (dfE xs) k = none := by
  refine atKey_none_of_get fun j p e => h ?_
  rw [← df_map1]
  exact List.mem_map.mpr ⟨(k, p), List.mem_of_getElem? e, rfl⟩
theorem df_at_some {xs : List FE} {p : Addr × Value} (h : atKey (dfE xs) k = some p) : k ∈ xs.map (·.1) ∧ ∃ c', p.2 = .ref c' := by
  unfold atKey at h
  obtain ⟨x, hx, e⟩ := Option.map_eq_some_iff.mp h
  have hm := List.mem_of_find?_eq_some hx
  have hk : x.1 = k := of_decide_eq_true (List.find?_some (p := fun x : List L2.Key × Addr × Value => decide (x.1 = k)) hx)
  obtain ⟨y, hy, ey⟩ := List.mem_map.mp hm
  subst ey
  exact ⟨List.mem_map.mpr ⟨y, hy, hk⟩, y.2.2, by rw [← e]⟩
theorem df_write {xs ys : List FE} {h' : Heap} {t' : Nat} (I : Inv X pins σ H s) (e : H a = some (DFO X.prog X.w a xs)) (hs : Heap.SameBut a s.heap h') (f : DFφ X.prog X.w a ys h') :
    Inv X pins σ (upd H a (DFO X.prog X.w a ys)) { s with heap := h', toks := t' } :=
  I.write (x := a) (e := a) (by rw [e]; exact True.intro) (.inl rfl) (fun b q hb z => (hs.2 b hb).trans z) (let ⟨_, _, _, o, _, _, e, _⟩ := f; ⟨o, e⟩) (dfo_ok f)
theorem d_setdF {xs : List FE} {Q : Value → Shared → Prop} (hu : A.units + 1 < cLine) (I : Inv X pins σ H s) (e : H a = some (DFO X.prog X.w a xs)) (hk : KeysF X.K H xs) (eb : SqT X.K H b (k.map kV)) (hl : xs.length < sizeLine)
    (h1 : k ∈ xs.map (·.1) → ∀ (c' : Addr) (s' : Shared), Inv X pins σ H s' → Q (.ref c') s') (h2 : k ∉ xs.map (·.1) → ∀ (s' : Shared), Inv X pins σ (upd H a (DFO X.prog X.w a (xs ++ [(k, b, c)]))) s' → Q (.ref c) s') :
    wpAny (model X.prog X.w) A (call (.builtin "dict.setdefault") [.ref a, .ref b, .ref c]) Q E s := by
  obtain ⟨hd, hz, nd, o, es, ep, g1, g2, g3, g4⟩ := df_at I (.inl e)
  have nd' : ((dfE xs).map (·.1)).Nodup := by rw [df_map1]; exact nd
  have his : ∀ x ∈ dfE xs, (tupleKind (mixKind X.prog X.w)).is s.heap x.1 x.2.1 := fun x hx => by
    obtain ⟨y, hy, ey⟩ := List.mem_map.mp hx
    subst ey
    exact key_ofR I (hk y hy)
  have dd : s.heap.DictOfH (tupleKind (mixKind X.prog X.w)) a (dfE xs) := ⟨o, es, ep, g1, g2, g3, g4, his, nd'⟩
  refine call_setdefault_heap (knd := tupleKind (mixKind X.prog X.w)) (k := k) (hsz := by unfold dfE; rw [List.length_map]; exact hz) (tupleKind_room_in1 hu) (key_ofR I eb) hd dd (fun p hp => ?_) fun hn h' dd' hs => ?_
  · obtain ⟨hm, c', ec⟩ := df_at_some hp
    rw [ec]
    exact h1 hm c' _ (I.tok _)
  · have hnot : k ∉ xs.map (·.1) := fun hm => by
      rw [← df_map1] at hm
      obtain ⟨x, hx, ex⟩ := List.mem_map.mp hm
      obtain ⟨j, hj⟩ := List.mem_iff_getElem?.mp hx
      have := atKey_of_get (xs := dfE xs) (k := k) (p := x.2) nd' (by rw [hj, ← ex])
      rw [hn] at this
      cases this
    rw [storedH_new hn] at dd'
    obtain ⟨o', es', ep', q1, q2, q3, q4, _, q5⟩ := dd'
    have eE : dfE xs ++ [(k, b, Value.ref c)] = dfE (xs ++ [(k, b, c)]) := by unfold dfE; rw [List.map_append]; rfl
    rw [eE] at q4 q5
    rw [df_map1] at q5
    exact h2 hnot _ (df_write I e hs ⟨hd, by rw [List.length_append, List.length_singleton]; omega, q5, o', es', ep', q1, q2, q3, q4⟩)
end
section
variable {X : Cx} {o e f : Expr} {td ty tx : TE} {apos cpos pos : Pos}
theorem pe_dnewF : PE X (.Dict [] [] pos) (fun _ H Q => ∀ p, H p = none → Q (.ref p) (upd H p (DFO X.prog X.w p []))) := ⟨fun pins s σ H Q I h => by
  have ob := dt_empty (P := X.prog) (w := X.w) (H := H) s.heap I.big
  refine wpAny_Dict_empty ⟨.ref s.heap.objs.size, _, I.laid (a := s.heap.objs.size) (o := DFO X.prog X.w s.heap.objs.size []) (t' := s.toks) (fun _ _ q => Heap.get?_push_of_some _ q) (Nat.le_refl _) (dfo_ok ?_), rfl, h _ (I.hok.fresh (Nat.le_refl _))⟩
  obtain ⟨_, hd, xs, r, o, es, ep, h1, h2, h3, h4, h5⟩ := ob
  cases r
  exact ⟨hd, Nat.zero_le _, List.nodup_nil, o, es, ep, h1, h2, h3, h4⟩⟩
/-- d.setdefault(y, z), the keys tuples -/
def tDSetdF (K : PySem.W.Frag) (P : Program) (w : World) (td ty tx : TE) : TE := fun σ H Q => td σ H fun x H1 => ∃ a, x = .ref a ∧ (∃ xs, H1 a = some (DFO P w a xs)) ∧ ty σ H1 fun y H2 => tx σ H2 fun z H3 => ∃ (xs : List FE) (k : List L2.Key) (b c : Addr), H3 a = some (DFO P w a xs) ∧ y = .ref b ∧ z = .ref c ∧ KeysF K H3 xs ∧ SqT K H3 b (k.map kV) ∧ xs.length < sizeLine ∧
  (k ∈ xs.map (·.1) → ∀ c', Q (.ref c') H3) ∧ (k ∉ xs.map (·.1) → Q z (upd H3 a (DFO P w a (xs ++ [(k, b, c)]))))
theorem pe_dsetdF (hu : X.A.units + 1 < cLine) (ho : PE X o td) (he : PE X e ty) (hf : PE X f tx) (m : M2 X o "setdefault" apos e f cpos) : PE X (.Call (.Attribute o "setdefault" apos) [e, f] [] cpos) (tDSetdF X.K X.prog X.w td ty tx) := by
  refine ⟨fun pins s σ H Q I h => ?_⟩
  refine wpAny_Call_method m.base m.few m.line PySem.F.plainAttrs_dict PySem.F.slot_dict_setdefault PySem.F.type_dict_setdefault (thn (ho.run pins s σ H _ I h) fun u s1 ⟨x, H1, I1, rx, a, ex, ⟨xs0, d⟩, q1⟩ => ?_)
  subst ex
  obtain rfl : u = Value.ref a := rx
  obtain ⟨t1, t2⟩ := df_dict I1 (.inl d)
  refine ⟨t1, t2, ?_⟩
  rw [m.trees]
  refine Calls.callWith_builtin rfl (Calls.evalArgs_plain (Calls.spliced_cons (thn (he.run pins s1 σ H1 _ I1 q1) fun iv s2 ⟨y, H2, I2, ry, q2⟩ =>
    Calls.spliced_cons (thn (hf.run pins s2 σ H2 _ I2 q2) fun fv s3 ⟨z, H3, I3, rz, xs, k, b, c, ea, ey, ez, hk, eb, hl, q3, q4⟩ => Calls.spliced_nil ?_))))
  subst ey
  subst ez
  cases (show iv = Value.ref b from ry)
  cases (show fv = Value.ref c from rz)
  exact d_setdF hu I3 ea hk eb hl (fun hm c' s4 I4 => ⟨.ref c', _, I4, rfl, q3 hm c'⟩) fun hn s4 I4 => ⟨.ref c, _, I4, rfl, q4 hn⟩
end
/-! items -/
/-- the pairs, each a new tuple -/
def Itif (P : Program) (w : World) (d : Addr) (o : Obj) (xs : List FE) : It :=
  ⟨fun i H => H d = some (.frz o (DFO P w d xs)) ∧ i < xs.length, fun i H x H' => ∃ T k q c, xs[i]? = some (k, q, c) ∧ x = .ref T ∧ H T = none ∧ H' = upd H T (.tup [.ref q, .ref c]), fun i H => H d = some (.frz o (DFO P w d xs)) ∧ xs.length ≤ i⟩
theorem frzF {X : Cx} {pins : List (Addr × Obj)} {σ : L2.St} {H : Hp} {s : Shared} {d : Addr} {o : Obj} {xs : List FE} (I : Inv X pins σ H s) (h : H d = some (.frz o (DFO X.prog X.w d xs))) :
    (d == sysModules) = false ∧ ∃ (es : Array DictEntry) (ep : Nat), o.data = .dict es ep ∧ DT.Raw s.heap d es ep ∧ es.size = xs.length ∧
      ∀ (i : Nat) (k : List L2.Key) (q c : Addr), xs[i]? = some (k, q, c) → ∃ (en : DictEntry), es[i]? = some en ∧ en.key = .ref q ∧ en.val = .ref c := by
  have f := df_at I (.inr ⟨o, h⟩)
  obtain ⟨hd, _⟩ := I.hok d _ h
  obtain ⟨hs, hz, nd, o', es, ep, ho, hx, hdt, he⟩ := f
  rw [hd] at ho
  cases ho
  refine ⟨hs, es, ep, hdt, ⟨o, hd, hx, hdt⟩, ?_, fun i k q c e => ?_⟩
  · have l1 : es.size = (dfE xs).length := size_of_entries he
    unfold dfE at l1
    rw [List.length_map] at l1
    exact l1
  · have q1 := entry_at he i
    have e2 : (dfE xs)[i]? = some (k, q, .ref c) := by unfold dfE; rw [List.getElem?_map, e]; rfl
    rw [e2] at q1
    exact ⟨_, q1, rfl, rfl⟩
section
variable {P : Program} {w : World} {K : PySem.W.Frag} {d : Addr} {o : Obj} {es : Array DictEntry} {ep : Nat}
theorem turn_itemsF {xs : List FE} {elts : List Expr} {kk : Nat} {tpos : Pos} (it : Addr) (hod : o.data = .dict es ep) :
    Turn P w K (.Tuple elts kk tpos) (Itif P w d o xs) [it] it (fun i h => ∃ ok ov, IsItemIter h it d i xs.length ep ok ov) where
  mem := by simp
  obj := fun i h st b hb => by
    have e : b = it := by simpa using hb
    subst e
    obtain ⟨ok, ov, e⟩ := st
    exact ⟨_, e, fun v z => nomatch z⟩
  keep := fun i h h' st k => let ⟨ok, ov, e⟩ := st; ⟨ok, ov, k it (by simp) _ e⟩
  item := by
    intro X hP hw hK hc i pins s σ H E I hf st hg
    subst hP hw hK
    obtain ⟨hd, hi⟩ := hg
    obtain ⟨hs, es', ep', hdt, hraw, hsz, ent⟩ := frzF I hd
    obtain ⟨rfl, rfl⟩ := dict_ep hod hdt
    obtain ⟨⟨k, q, c⟩, hkv⟩ : ∃ p, xs[i]? = some p := ⟨xs[i], List.getElem?_eq_getElem hi⟩
    obtain ⟨en, hen, hkey, hval⟩ := ent i k q c hkv
    obtain ⟨ok, ov, he⟩ := st
    rw [← hsz] at he
    have hi2 : i < es'.size := by rw [hsz]; exact hi
    have hei : es'[i] = en := by
      have := Array.getElem?_eq_getElem hi2
      rw [this] at hen
      exact Option.some.inj hen
    have hlt : it < s.heap.objs.size := Heap.lt_size he
    refine DT.nextI he hraw hi2 fun h' ho hT hz hk => ?_
    rw [hei, hkey, hval] at ho hT
    refine ⟨_, rfl, wpAny_letOwnedTupleGo_items (s := { s with heap := h' }) ho fun h'' he' sb => ?_⟩
    have hT2 : h''.get? s.heap.objs.size = some { cls := .type "tuple", data := .seq #[.ref q, .ref c] } := (sb.2 _ (Nat.ne_of_gt hlt)).trans hT
    have new : ObjOk X.prog X.w (upd H s.heap.objs.size (.tup [.ref q, .ref c])) h'' s.heap.objs.size (.tup [.ref q, .ref c]) :=
      ⟨by show 2 ≤ sizeLine; decide, [.ref q, .ref c], .cons rfl (.cons rfl .nil), ⟨_, hT2, rfl, _, rfl⟩⟩
    have I1 : Inv X pins σ (upd H s.heap.objs.size (.tup [.ref q, .ref c])) { s with heap := h'' } :=
      I.turnedNew (t' := s.toks) (ch := [it]) (fun b ob hb e => (sb.2 b (by simpa using hb)).trans (hk b ob (by simpa using hb) e)) hf (Nat.le_refl _) new
    refine ⟨.ref s.heap.objs.size, _, I1, rfl, ⟨_, k, q, c, hkv, rfl, I.hok.fresh (Nat.le_refl _), rfl⟩, ⟨.ref q, .ref c, ?_⟩, fun b hb => ?_⟩
    · rw [← hsz]; exact he'
    · have e : b = it := by simpa using hb
      rw [e, upd_ne (Nat.ne_of_lt hlt)]
      exact (hf it (by simp)).1
  done := by
    intro X hP hw hK hc i pins s σ H E I hf st hg
    subst hP hw hK
    obtain ⟨hd, hi⟩ := hg
    obtain ⟨f0, f1, f2, f3, f4, f5⟩ := hf it (by simp)
    obtain ⟨hs, es', ep', hdt, hraw, hsz, ent⟩ := frzF I hd
    obtain ⟨rfl, rfl⟩ := dict_ep hod hdt
    obtain ⟨ok, ov, he⟩ := st
    rw [← hsz] at he
    exact DT.endI (I.ok.hd hc) he hraw (by omega) fun h' eb => ⟨rfl, I.turned (t' := s.toks) (fun b ob hb e => eb b ob hb e) f0 f1 f3 f4 f5⟩
  self := fun A i s Q E st h => let ⟨_, _, e⟩ := st; PySem.W.kcp_self e h
def iItemsF (P : Program) (w : World) (td : TE) : TI := fun σ H R => td σ H fun x H1 => ∃ d o xs, x = .ref d ∧ H1 d = some (.frz o (DFO P w d xs)) ∧ R (Itif P w d o xs) H1
theorem pi_itemsF {X : Cx} {e : Expr} {td : TE} {apos cpos : Pos} {elts : List Expr} {kk : Nat} {tpos : Pos} (he : PE X e td) (hbase : attributeBase e "items" X.env (eval e X.env) = eval e X.env := by rfl) (hline : (apos.endLine == cpos.line) = true := by rfl) :
    PI X (.Tuple elts kk tpos) (.Call (.Attribute e "items" apos) [] [] cpos) (iItemsF X.prog X.w td) := by
  refine ⟨fun pins s σ H R I h => ?_⟩
  refine wpAny_Call_method (T := "dict") (id := "dict.items") hbase rfl hline F.plainAttrs_dict F.slot_dict_items F.type_dict_items (thn (he.run pins s σ H _ I h) fun u s1 ⟨x, H1, I1, rx, d, o, xs, ex, hd, q⟩ => ?_)
  subst ex
  obtain rfl : u = Value.ref d := rx
  obtain ⟨hs, es, ep, hdt, hraw, hsz, ent⟩ := frzF I1 hd
  obtain ⟨t1, t2⟩ := df_dict I1 (.inr ⟨_, hd⟩)
  refine ⟨t1, t2, ?_⟩
  have I2 : Inv X pins σ H1 { s1 with heap := s1.heap.push { cls := .type "dict_items", data := .fields #[.ref d] } } := I1.kept (t' := s1.toks) fun b ob q => Heap.get?_push_of_some _ q
  show wpAny _ _ (callWith cpos (.builtin "dict.items") [.ref d] [] []) _ X.xe s1
  refine method_meetsIn F.slot_dict_items F.entry_dict_items rfl (PySem.evalArgs_none ⟨rfl, t1, F.args_dict_items_1 _, _, DT.meetsItems (es := es) (ep := ep) hs, hraw, ?_⟩)
  refine DT.iterI (d := d) ⟨_, Heap.get?_push_size _ rfl, rfl, rfl⟩ (hraw.push _) (pi_one (tk := s1.toks) I2 _ (turn_itemsF _ hdt) ⟨.none, .none, ?_⟩ q)
  rw [← hsz]
  exact Heap.get?_push_size _ rfl
theorem walk_itemsF {xs : List FE} : Walk (Itif P w d o xs) xs.length (fun H => H d = some (.frz o (DFO P w d xs)))
    (fun i H x H' => ∃ T k q c, xs[i]? = some (k, q, c) ∧ x = .ref T ∧ H T = none ∧ H' = upd H T (.tup [.ref q, .ref c])) :=
  ⟨fun _ _ hi q => ⟨q, hi⟩, fun _ q => ⟨q, Nat.le_refl _⟩, fun _ _ _ _ _ _ y => y⟩
end
section
variable {X : Cx} {P : Program} {w : World} {K : PySem.W.Frag} {o e f : Expr} {td ty tx : TE} {apos cpos pos tpos : Pos} {elts : List Expr} {kk : Nat}
theorem pe_dnewP (P : Program) (w : World) (hP : X.prog = P) (hw : X.w = w) : PE X (.Dict [] [] pos) (fun _ H Q => ∀ p, H p = none → Q (.ref p) (upd H p (DFO P w p []))) := by
  subst hP hw
  exact pe_dnewF
theorem pe_dsetdP (K : PySem.W.Frag) (P : Program) (w : World) (hK : X.K = K) (hP : X.prog = P) (hw : X.w = w) (hu : X.A.units + 1 < cLine) (ho : PE X o td) (he : PE X e ty) (hf : PE X f tx) (m : M2 X o "setdefault" apos e f cpos) : PE X (.Call (.Attribute o "setdefault" apos) [e, f] [] cpos) (tDSetdF K P w td ty tx) := by
  subst hP hw hK
  exact pe_dsetdF hu ho he hf m
theorem pi_itemsP (P : Program) (w : World) (hP : X.prog = P) (hw : X.w = w) (he : PE X e td) (hbase : attributeBase e "items" X.env (eval e X.env) = eval e X.env := by rfl) (hline : (apos.endLine == cpos.line) = true := by rfl) :
    PI X (.Tuple elts kk tpos) (.Call (.Attribute e "items" apos) [] [] cpos) (iItemsF P w td) := by
  subst hP hw
  exact pi_itemsF he hbase hline
end
end Lk
set_option Elab.async false
set_option linter.all false
set_option maxRecDepth 100000
namespace Lk
open PySem PySem.Spec PyProof.Rows L2
/-! tuple(a list), tuple(range(..)): just a tuple, or one that is held fast and has no dict of its own; the reading chooses -/
def NewT (H : Hp) (Q : VK) (xs : List V) : Prop := (∀ q, H q = none → Q (.ref q) (upd H q (.tup xs))) ∨ ∀ q (o : Obj), o.dict = none → H q = none → Q (.ref q) (upd H q (.frz o (.tup xs)))
section
variable {X : Cx} {pins : List (Addr × Obj)} {σ : L2.St} {H : Hp} {s : Shared}
theorem newT_ok {Q : VK} {xs : List V} {h' : Heap} {its : Array Value} {tk : Nat} (I1 : Inv X pins σ H { s with heap := h', toks := tk }) (hz : xs.length ≤ sizeLine) (rv : Vals xs its.toList) (q : NewT H Q xs) :
    EP X pins σ Q (.ref h'.objs.size) { s with heap := h'.push { cls := .type "tuple", data := .seq its }, toks := tk } := by
  have nH := I1.hok.fresh (Nat.le_refl _)
  have ok : ∀ H2, ObjOk X.prog X.w H2 (h'.push { cls := .type "tuple", data := .seq its }) h'.objs.size (.tup xs) := fun H2 => ⟨hz, its.toList, rv, by rw [Array.toArray_toList]; exact IsTup.new _ _⟩
  rcases q with q | q
  · exact ⟨.ref h'.objs.size, upd H h'.objs.size (.tup xs), I1.laid (t' := tk) (fun b o e => Heap.get?_push_of_some _ e) (Nat.le_refl _) (ok _), rfl, q _ nH⟩
  · refine ⟨.ref h'.objs.size, upd H h'.objs.size (.frz { cls := .type "tuple", data := .seq its } (.tup xs)), I1.laid (t' := tk) (fun b o e => Heap.get?_push_of_some _ e) (Nat.le_refl _) ?_, rfl, q _ _ rfl nH⟩
    exact ⟨Heap.get?_push_size _ rfl, ok _⟩
def kTup2 (K : PySem.W.Frag) (x : V) (H : Hp) (Q : VK) : Prop := ∃ p xs, x = .ref p ∧ SqL K H p xs ∧ NewT H Q xs
theorem rl_tuple2 (x : V) (v : Value) (Q : VK) (I : Inv X pins σ H s) (r : RelV x v) (h : kTup2 X.K x H Q) :
    wpAny (model X.prog X.w) X.A (call (.type "tuple") [v]) (EP X pins σ Q) X.xe s := by
  obtain ⟨p, xs, rfl, hs, q⟩ := h
  obtain rfl : v = .ref p := r
  obtain ⟨its, rv, pl, hz⟩ := I.list hs
  refine call_tuple_list pl.isList (fun h' hk => ?_) (by rw [List.size_toArray, ← rv.length]; exact hz)
  have I1 : Inv X pins σ H { s with heap := h' } := I.kept (t' := s.toks) hk
  exact newT_ok (its := its.toArray) I1 hz rv q
theorem pe_tupleOf2 {a : Expr} {ta : TE} {p pos : Pos} (hg : Gl X "tuple") (hm : X.mg "tuple" = none) (ha : PE X a ta) (na : starEach [a] X.env = (false, eval a X.env) :: starEach [] X.env := by rfl) :
    PE X (.Call (.Name "tuple" p) [a] [] pos) (tThen ta (kTup2 X.K)) := by
  refine ⟨fun pins s σ H Q I h => ?_⟩
  exact Call_ (ld_blt I hg hm boot_tuple (PyProof.Rows.callWith_type1 (one_arg ha I h (fun v s2 x H2 I2 r q => rl_tuple2 x v Q I2 r q) na) na))
def tTupRg2 (te : L2.St → Hp → (Int → Int → Hp → Prop) → Prop) : TE := fun σ H Q => te σ H fun a b H1 => RgOk a b ∧ NewT H1 Q (rgV a b)
theorem pe_tupRg2 {e : Expr} {te : L2.St → Hp → (Int → Int → Hp → Prop) → Prop} {p pos : Pos} (hc : X.calm = true) (hg : Gl X "tuple") (hm : X.mg "tuple" = none) (he : PRg X e te) (na : starEach [e] X.env = (false, eval e X.env) :: starEach [] X.env := by rfl) : PE X (.Call (.Name "tuple" p) [e] [] pos) (tTupRg2 te) := by
  refine ⟨fun pins s σ H Q I h => ?_⟩
  refine Call_ (ld_blt I hg hm boot_tuple (PyProof.Rows.callWith_type1 (args_cons (thn (he pins s σ H _ I h) fun x s1 ⟨r, a, b, t, u, v, H1, ex, hr, I1, ok, q⟩ => args_nil ?_) na) na))
  subst ex
  obtain ⟨b1, b2, b3, b4, b5⟩ := ok
  refine call_tuple_range (n := (b - a).toNat) (I1.ok.hd hc) hr (small_one b1 b2 b3 b4) (rangeSize_nat a b) b5 fun h' tk acc hk hi => ?_
  have I2 : Inv X pins σ H1 { s1 with heap := h', toks := tk } := I1.kept hk
  exact newT_ok (its := acc) I2 (by rw [rgV_length, sizeLine_eq]; omega) (vals_rg hi) q
end
end Lk
set_option Elab.async false
set_option linter.all false
set_option maxRecDepth 100000
namespace Lk
open PySem PySem.Spec PyProof.Rows L2
/-! sorted(a list of tuples of ints) -/
def rSortLT (K : PySem.W.Frag) : List V → Hp → VK → Prop := fun xs H Q => ∃ (a : Addr) (L0 : List (Addr × List Int)) (d : Nat) (B : Int), xs = [.ref a] ∧ SqL K H a (L0.map fun q => V.ref q.1) ∧ L0.length < 64 ∧ 1 ≤ d ∧
  (∀ q ∈ L0, SqT K H q.1 (q.2.map V.int)) ∧ (∀ q ∈ L0, q.2.length = d ∧ TS.Bd B q.2) ∧
  ∀ (L : List (Addr × List Int)) (p : Addr), L.Perm L0 → L.Pairwise (fun q r => TS.code B q.2 ≤ TS.code B r.2) → H p = none → Q (.ref p) (upd H p (.lst (L.map fun q => V.ref q.1)))
theorem refs_of {us : List Value} : ∀ {L : List (Addr × List Int)}, Vals (L.map fun q => V.ref q.1) us → us = L.map fun q => Value.ref q.1 := by
  induction us with
  | nil => intro L h; cases L with
    | nil => rfl
    | cons q L => cases h
  | cons u us ih => intro L h; cases L with
    | nil => cases h
    | cons q L =>
      cases h with
      | cons r t => rw [List.map_cons, ih t, show u = Value.ref q.1 from r]
theorem cr_sortedLT {X : Cx} (hcalm : X.calm = true) : CallR X (.builtin "sorted") (rSortLT X.K) := by
  intro pins s σ H xs us Q I r q
  obtain ⟨a, L0, d, B, rfl, hl, h64, hd1, a3, hB, q⟩ := q
  rw [Vals.ref1 r]
  obtain ⟨its, rv, pl, hz⟩ := I.list hl
  have ea := refs_of rv
  refine Calls.call_function_entry PyProof.Rows.kind_sorted PyProof.Rows.plain_sorted PyProof.Rows.entry_sorted (PyProof.Rows.args_sorted1 _) ?_
  unfold Builtin.«sorted»
  refine wpAny_bind (m := checkCount "sorted" 1 1 _) (wpAny_pure ?_)
  refine wpAny_bind (collect_list (A := X.A.in1) pl.isList ?_ (by rw [← rv.length]; exact hz))
  have hk : ∀ b o, s.heap.get? b = some o → ((s.heap.push (seqObj "list" #[] 0)).update s.heap.objs.size (Obj.mapSeq (· ++ its.toArray))).get? b = some o := fun b o e =>
    ((Heap.SameBut.update (s.heap.push (seqObj "list" #[] 0)) s.heap.objs.size (Obj.mapSeq (· ++ its.toArray))).2 b (Nat.ne_of_lt (Heap.lt_size e))).trans (Heap.get?_push_of_some _ e)
  generalize ((s.heap.push (seqObj "list" #[] 0)).update s.heap.objs.size (Obj.mapSeq (· ++ its.toArray))) = h' at hk ⊢
  have hal : its.length = L0.length := by rw [ea, List.length_map]
  have I1 : L2.Inv X pins σ H { s with heap := h', toks := s.toks } := I.kept hk
  refine wpAny_bind (wpAny_newList ?_ (by rw [hal, sizeLine_eq]; omega))
  have hoL : (h'.push (seqObj "list" its.toArray 0)).get? h'.objs.size = some (seqObj "list" its.toArray 0) := Heap.get?_push_size _ rfl
  show wpAny _ _ _ _ _ { s with heap := h'.push (seqObj "list" its.toArray 0), toks := s.toks }
  have tin : ∀ q ∈ L0, TS.TupInts h' (.ref q.1) q.2 := fun q hq => tupI_raw I1 (a3 q hq)
  have tin2 : ∀ q ∈ L0, TS.TupInts (h'.push (seqObj "list" its.toArray 0)) (.ref q.1) q.2 := fun q hq => (tin q hq).keeps fun b o e _ => Heap.get?_push_of_some _ e
  have mem0 : ∀ v ∈ its, ∃ q ∈ L0, v = .ref q.1 := fun v hv => by
    rw [ea] at hv
    obtain ⟨q, hq, e⟩ := List.mem_map.mp hv
    exact ⟨q, hq, e.symm⟩
  refine wpAny_bind (wpAny_holding (wpAny_call_entry slot_list_sort ⟨_, hoL, rfl⟩ entry_list_sort
    (TS.sort_tups (s := { s with heap := h'.push (seqObj "list" its.toArray 0), toks := s.toks }) (d := d) (B := B) hoL (by rw [hal]; exact h64) hd1 (fun v hv => ?_) (fun v => TS.code B (TS.intsOf h' v)) (fun v hv ns t => ?_) fun out b1 b2 => ⟨_, rfl, ?_⟩) (args_list_sort _)))
  · obtain ⟨q, hq, rfl⟩ := mem0 v hv
    obtain ⟨c1, c2⟩ := hB q hq
    exact ⟨q.2, tin2 q hq, c1, c2⟩
  · obtain ⟨q, hq, rfl⟩ := mem0 v hv
    rw [(tin q hq).ints, ← (tin2 q hq).ints]
    exact congrArg (TS.code B) t.ints
  · obtain ⟨e', he'⟩ := PyProof.Rows.sortedHeap_at (vs := its) (out := out) hoL
    obtain ⟨L, m1, m2⟩ : ∃ L : List (Addr × List Int), L.Perm L0 ∧ out.toList = L.map fun q => Value.ref q.1 := by
      rw [ea] at b1
      have key : ∀ (us : List Value) (L0 : List (Addr × List Int)), us.Perm (L0.map fun q => Value.ref q.1) → ∃ L : List (Addr × List Int), L.Perm L0 ∧ us = L.map fun q => Value.ref q.1 := by
        intro us
        induction us with
        | nil =>
          intro L0 hp
          have := hp.length_eq
          rw [List.length_map] at this
          exact ⟨[], by rw [List.length_eq_zero_iff.mp this.symm], rfl⟩
        | cons u us ih =>
          intro L0 hp
          obtain ⟨q, hq, e⟩ := List.mem_map.mp (hp.mem_iff.mp List.mem_cons_self)
          obtain ⟨l1, l2, rfl⟩ := List.append_of_mem hq
          have p2 : us.Perm ((l1 ++ l2).map fun q => Value.ref q.1) := by
            have h9 : (u :: us).Perm (u :: (l1 ++ l2).map fun q => Value.ref q.1) := by
              refine hp.trans ?_
              rw [List.map_append, List.map_cons, ← e, List.map_append]
              exact List.perm_middle
            exact h9.cons_inv
          obtain ⟨L, c1, c2⟩ := ih _ p2
          exact ⟨q :: L, (c1.cons q).trans List.perm_middle.symm, by rw [List.map_cons, e, c2]⟩
      exact key _ _ b1
    have hlen : (L.map fun q => V.ref q.1).length ≤ sizeLine := by
      rw [List.length_map, m1.length_eq, sizeLine_eq]
      omega
    refine wpAny_pure ⟨_, rfl, .ref h'.objs.size, upd H h'.objs.size (.lst (L.map fun q => V.ref q.1)), I1.laid (t' := s.toks) (fun b u e => ?_) (Nat.le_refl _)
      (show ObjOk X.prog X.w _ _ _ (.lst (L.map fun q => V.ref q.1)) from ⟨hlen, out.toList, e', by rw [m2]; exact vals_of_refs L, by rw [Array.toArray_toList]; exact he'⟩), rfl, q L _ m1 ?_ (I1.hok.fresh (Nat.le_refl _))⟩
    · have hb : b < h'.objs.size := Heap.lt_size e
      rw [PyProof.Rows.sortedHeap_old (Nat.ne_of_lt hb) (by rw [size_push']; exact Nat.lt_succ_of_lt hb)]
      exact Heap.get?_push_of_some _ e
    · rw [m2, List.pairwise_map] at b2
      refine List.Pairwise.imp_of_mem (fun {q r} hq hr h => ?_) b2
      rw [← (tin q (m1.mem_iff.mp hq)).ints, ← (tin r (m1.mem_iff.mp hr)).ints]
      exact h
end Lk
set_option Elab.async false
set_option linter.all false
set_option maxRecDepth 100000
namespace Lk
open PySem PySem.Spec PyProof.Rows L2
abbrev sStill : Stmt := topS 8
abbrev sBehind : Stmt := topS 9
theorem scStill : FnScope ["places"] ["places"] (defScope sStill) := ⟨rfl, rfl, rfl, by decide +kernel, rfl, by decide +kernel, by decide +kernel⟩
theorem scBehind : FnScope ["one", "other", "place"] ["one", "other"] (defScope sBehind) := ⟨rfl, rfl, rfl, by decide +kernel, rfl, by decide +kernel, by decide +kernel⟩
theorem rgV_tv (n : Nat) : rgV 0 (n : Int) = tv (stl n) := by
  unfold rgV tv stl nv
  rw [show ((n : Int) - 0).toNat = n by omega]
  refine List.map_congr_left fun i _ => ?_
  rw [Int.zero_add]
section
variable {P : Program} {w : World} {K : PySem.W.Frag} {mg : Str → Option Value} {base : Heap}
def spStill : Sp := fun vs H Q _ => ∃ n : Nat, vs = [nv n] ∧ n ≤ 60 ∧ Ret H Q fun H' p => TX H' p (stl n)
theorem ok_still {f : Addr} {fd : FuncData} {k : Nat} (F : Fun K "still" "still" sStill f fd) (mt : mg "tuple" = none) (mr : mg "range" = none) : FnOk P w K mg base CX0 (k + 1) f fd ["places"] spStill := by
  refine F.ok scStill (fun vs H Q E h => ?_) (fun cdv A outer s H vs Q E hr h => ?_)
  · obtain ⟨n, rfl, _⟩ := h
    rfl
  · obtain ⟨n, rfl, hn, q⟩ := h
    refine ⟨_, pss_one (ps_ret (pe_tupRg rfl (by rfl) mt (prg_1 (by rfl) mr (pv 0)))), ?_⟩
    refine ⟨nv n, rfl, n, rfl, RgOk.of_le (by decide) (by omega) (by omega) (by omega), fun p np => q _ p (same_upd np) np ?_⟩
    rw [rgV_tv]
    exact upd_same
def spBehind : Sp := fun vs H Q _ => ∃ (a b : Addr) (s t : Tn), vs = [.ref a, .ref b] ∧ TA H a s ∧ TA H b t ∧ s.length ≤ 60 ∧ (∀ x ∈ s, x < t.length) ∧ Ret H Q fun H' p => TX H' p (beh s t)
theorem ok_behind {f : Addr} {fd : FuncData} {k : Nat} (F : Fun K "behind" "behind" sBehind f fd) (mt : mg "tuple" = none) : FnOk P w K mg base CX0 (k + 1) f fd ["one", "other"] spBehind := by
  refine F.ok scBehind (fun vs H Q E h => ?_) (fun cdv A outer s H vs Q E hr h => ?_)
  · obtain ⟨a, b, s, t, rfl, _⟩ := h
    rfl
  · obtain ⟨a, b, s, t, rfl, hs, ht, hl, hlt, q⟩ := h
    refine ⟨_, pss_one (ps_ret (pe_tupleOf (by rfl) mt (pe_lc (own := [("place", 2)]) (g := gName 2) (tt := tYes) (te := tOp (rIxT K) (tVar 1) (tVar 2)) rfl scBehind.nd (pi_tup (pv 0)) (blkOk_by (N := ["one", "other", "place"]) (sc := defScope sBehind) (by decide +kernel))
      (fun _ _ _ _ _ => pg_name (i := 2) scBehind.nd rfl (Or.inl rfl)) (fun _ _ _ _ _ => pts_nil) (fun _ _ _ _ _ => pe_ix ix_tup (pv 1) (pv 2) (fun _ _ => rfl))))), ?_⟩
    refine ⟨.ref a, rfl, a, rfl, ⟨_, sqA hs⟩, fun D nD => lc_tup (K := K) (a := a) (xs := tv s) (fun i H' => Same H H' ∧ H' D = some (.lst (tv (beh (s.take i) t)))) ⟨same_upd nD, upd_same⟩ (fun i H' _ h => sqA (hs.same h.1)) (fun i x H' hx hP => ?_) (fun H' hP => ?_)⟩
    · obtain ⟨n, hn, rfl⟩ := tv_get hx
      obtain ⟨sm, hD⟩ := hP
      have hm : n < t.length := hlt n (List.mem_of_getElem? hn)
      refine ⟨rfl, ?_⟩
      refine ⟨.ref b, rfl, nv n, rfl, b, tv t, (n : Int), nv (t.getD n 0), rfl, rfl, sqA (ht.same sm), atI_nat (tv_of (by rw [List.getD_eq_getElem?_getD, List.getElem?_eq_getElem hm]; rfl)), _, hD, ?_, ?_, ?_⟩
      · rw [tv_len, beh_len, List.length_take]
        exact few (by omega)
      · exact same_put sm nD
      · rw [upd_same, tv_snoc, take_succ hn]
        unfold beh
        rw [List.map_append]
        rfl
    · obtain ⟨sm, hD⟩ := hP
      rw [tv_len, List.take_length] at hD
      refine .inl ⟨D, _, rfl, SqL.of hD, fun p np => q _ p (same_put sm (sm.free np)) (sm.free np) upd_same⟩
end
end Lk
set_option Elab.async false
set_option linter.all false
set_option maxRecDepth 100000
namespace Lk
open PySem PySem.Spec PyProof.Rows L2
abbrev sBack : Stmt := topS 10
abbrev sProduct : Stmt := topS 11
abbrev sPower : Stmt := topS 12
abbrev sTimes : Stmt := topS 13
abbrev sSwap : Stmt := topS 14
theorem scBack : FnScope ["turn", "found", "place", "comes"] ["turn"] (defScope sBack) := ⟨rfl, rfl, rfl, by decide +kernel, rfl, by decide +kernel, by decide +kernel⟩
theorem scProduct : FnScope ["places", "turns", "found", "turn"] ["places", "turns"] (defScope sProduct) := ⟨rfl, rfl, rfl, by decide +kernel, rfl, by decide +kernel, by decide +kernel⟩
theorem scPower : FnScope ["turn", "many"] ["turn", "many"] (defScope sPower) := ⟨rfl, rfl, rfl, by decide +kernel, rfl, by decide +kernel, by decide +kernel⟩
theorem scTimes : FnScope ["number", "many", "found", "turn"] ["number", "many"] (defScope sTimes) := ⟨rfl, rfl, rfl, by decide +kernel, rfl, by decide +kernel, by decide +kernel⟩
theorem scSwap : FnScope ["one", "other"] ["one", "other"] (defScope sSwap) := ⟨rfl, rfl, rfl, by decide +kernel, rfl, by decide +kernel, by decide +kernel⟩
/-- back, place by place -/
def bckN (t : Tn) : Nat → Tn
  | 0 => List.replicate t.length 0
  | i + 1 => (bckN t i).set (t.getD i 0) i
theorem bckN_len (t : Tn) : ∀ i, (bckN t i).length = t.length
  | 0 => List.length_replicate
  | i + 1 => by rw [bckN, List.length_set, bckN_len t i]
theorem bckN_get {n : Nat} {t : Tn} (h : IsP n t) : ∀ i, i ≤ n → ∀ p, p < i → (bckN t i).getD (t.getD p 0) 0 = p
  | 0, _, p, hp => absurd hp (Nat.not_lt_zero _)
  | i + 1, hi, p, hp => by
    rw [bckN, getD_set (by rw [bckN_len, h.len]; exact h.get (by omega))]
    by_cases e : p = i
    · rw [e, if_pos rfl]
    · rw [if_neg fun q => e (h.inj (by omega) (by omega) q)]
      exact bckN_get h i (by omega) p (by omega)
theorem bckN_all {n : Nat} {t : Tn} (h : IsP n t) : bckN t n = bck t := by
  refine ext_getD (by rw [bckN_len, bck_len]) fun q hq => ?_
  rw [bckN_len, h.len] at hq
  have hm := h.surj hq
  have hi := idx_lt hm
  rw [h.len] at hi
  have := bckN_get h n (Nat.le_refl _) (t.idxOf q) hi
  rw [get_idx hm] at this
  rw [this, h.bck_get hq]
theorem tv_set (t : Tn) (i x : Nat) : (tv t).set i (nv x) = tv (t.set i x) := by unfold tv; rw [List.map_set]
theorem ixN_nat {n i : Nat} (h : i < n) : ixN n (i : Int) = some i := by
  unfold ixN
  rw [if_pos (by omega), if_pos (by omega)]
  rfl
section
variable {P : Program} {w : World} {K : PySem.W.Frag} {mg : Str → Option Value} {base : Heap}
def spBack : Sp := fun vs H Q _ => ∃ (a : Addr) (t : Tn) (n : Nat), vs = [.ref a] ∧ TA H a t ∧ IsP n t ∧ n ≤ 60 ∧ Ret H Q fun H' p => TX H' p (bck t)
theorem ok_back {f : Addr} {fd : FuncData} {k : Nat} (F : Fun K "back" "back" sBack f fd) (mt : mg "tuple" = none) (ml : mg "len" = none) (me : mg "enumerate" = none) : FnOk P w K mg base CX0 (k + 1) f fd ["turn"] spBack := by
  refine F.ok scBack (fun vs H Q E h => ?_) (fun cdv A outer s H vs Q E hr h => ?_)
  · obtain ⟨a, t, n, rfl, _⟩ := h
    rfl
  · obtain ⟨a, t, n, rfl, hA, hP, hn, q⟩ := h
    refine ⟨_, pss_cons (ps_set (i := 1) scBack.nd rfl (.inl rfl) (pe_op op_rep (pe_lst (pa_cons pe_int pa_nil)) (pe_callB call_len_seq (by rfl) ml PySem.boot_len (pa_cons (pv 0) pa_nil))))
      (pss_cons (ps_for PassesOwn.never rfl (pi_enumT (by rfl) me (pa_cons (pv 0) pa_nil)) (pg_tup rfl (pgs_cons (pg_name (i := 2) scBack.nd rfl (.inl rfl)) (pgs_cons (pg_name (i := 3) scBack.nd rfl (.inl rfl)) pgs_nil)))
        (pss_one (ps_asg (pv 2) (pg_sub (pv 1) (pv 3) set_list))))
      (pss_one (ps_ret (pe_tupleOf (by rfl) mt (pv 1))))), ?_⟩
    refine ⟨fewe (by decide), fun l nl => ?_⟩
    have s1 : Same H (upd H l (.lst [.int 0])) := same_upd nl
    refine ⟨.ref a, rfl, a, _, rfl, .inr (sqA (hA.same s1)), l, (t.length : Int), _, rfl, by rw [tv_len], upd_same, by rw [hP.len]; omega, by rw [hP.len]; omega, by rw [hP.len]; exact fewe (by simp; omega), fun D nD => ?_⟩
    have sD := same_put (o := .lst (List.replicate ((t.length : Int)).toNat [V.int 0]).flatten) s1 (s1.free nD)
    refine ⟨.ref a, rfl, a, tv t, rfl, sqA (hA.same sD), for_enumT (xs := tv t) (fun i σ H' => ∃ y2 y3, σ = [some (.ref a), some (.ref D), y2, y3] ∧ Same H H' ∧ H' D = some (.lst (tv (bckN t i)))) ⟨_, _, rfl, sD, ?_⟩ (fun i σ H' _ h => ?_) (fun i x σ H' T hx h nT => ?_) (fun σ H' h => ?_)⟩
    · rw [upd_same, show ((t.length : Int)).toNat = t.length from rfl]
      have : (List.replicate t.length [V.int 0]).flatten = tv (bckN t 0) := by
        unfold bckN tv
        rw [List.map_replicate]
        generalize t.length = m
        induction m with
        | zero => rfl
        | succ m ih => rw [List.replicate_succ, List.flatten_cons, ih, List.replicate_succ]; rfl
      rw [this]
    · obtain ⟨_, _, _, sm, _⟩ := h
      exact sqA (hA.same sm)
    · obtain ⟨y2, y3, rfl, sm, hD⟩ := h
      obtain ⟨c, hc, rfl⟩ := tv_get hx
      have hD2 : (upd H' T (.tup [V.int (i : Nat), nv c])) D = some (.lst (tv (bckN t i))) := same_upd nT _ _ hD
      have hcl : c < n := hP.lt c (List.mem_of_getElem? hc)
      refine ⟨T, [V.int (i : Nat), nv c], rfl, SqT.of upd_same, rfl, V.int (i : Nat), [nv c], rfl, nv c, [], rfl, rfl, ?_⟩
      refine ⟨V.int (i : Nat), rfl, .ref D, rfl, nv c, rfl, D, _, (c : Int), c, rfl, rfl, hD2, by rw [tv_len, bckN_len, hP.len]; exact ixN_nat hcl, some (V.int (i : Nat)), some (nv c), rfl, ?_, ?_⟩
      · exact same_put (sm.trans (same_upd nT)) ((s1.free nD))
      · rw [upd_same]
        have e : t.getD i 0 = c := by rw [List.getD_eq_getElem?_getD, hc]; rfl
        rw [show (V.int (i : Nat)) = nv i from rfl, tv_set, bckN, e]
    · obtain ⟨y2, y3, rfl, sm, hD⟩ := h
      rw [tv_len, hP.len] at hD
      refine ⟨.ref D, rfl, .inl ⟨D, _, rfl, SqL.of hD, fun p np => q _ p (same_put sm (sm.free np)) (sm.free np) ?_⟩⟩
      rw [← bckN_all hP]
      exact upd_same
end
end Lk
set_option Elab.async false
set_option linter.all false
set_option maxRecDepth 100000
namespace Lk
open PySem PySem.Spec PyProof.Rows L2
/-- a def of the text that may be called -/
structure Cal (P : Program) (w : World) (K : PySem.W.Frag) (mg : Str → Option Value) (base : Heap) (k : Nat) (x : Str) (sp : Sp) : Prop where
  ex : ∃ (f : Addr) (fd : FuncData) (ps : List Str), FnOk P w K mg base CX0 k f fd ps sp ∧ mg x = some (.ref f) ∧ PySem.W.keepIn K (.ref f) = true ∧ Binds K fd ps []
theorem pe_c {X : Cx} {k j : Nat} {x : Str} {sp : Sp} {e : Expr} {es : List Expr} {t : L2.TA} {p pos : Pos} (c : Cal X.prog X.w X.K X.mg X.base k x sp) (hr : Room j X.A) (hk : k ≤ j) (hg : Gl X x) (ha : PA X (e :: es) t)
    (hdb : (x == ("__debug__" : Str)) = false := by decide) (he : starEach (e :: es) X.env = (false, eval e X.env) :: starEach es X.env := by rfl) (hpl : (backTo pos (starEach es X.env)).any (·.1) = false := by rfl) :
    PE X (.Call (.Name x p) (e :: es) [] pos) (tCall sp [] E0 t) := by
  obtain ⟨f, fd, ps, F, hm, kp, b⟩ := c.ex
  exact pe_call F (hr.mono hk) hg hm kp b .nil pass0 ha hdb he hpl
theorem Cal.mono {P : Program} {w : World} {K : PySem.W.Frag} {mg : Str → Option Value} {base : Heap} {j k : Nat} {x : Str} {sp : Sp} (c : Cal P w K mg base j x sp) (h : j ≤ k) : Cal P w K mg base k x sp :=
  let ⟨f, fd, ps, F, r⟩ := c.ex
  ⟨f, fd, ps, F.mono h, r⟩
theorem log2_le (x : Nat) : x.log2 ≤ x := by
  by_cases h : x = 0
  · subst h; decide
  · have := Nat.log2_lt h (k := x)
    have := Nat.lt_two_pow_self (n := x)
    omega
theorem mulW {i j : Nat} (hi : i ≤ 100000) (hj : j ≤ 100000) : CMulW (i : Int) (j : Int) := by
  have h1 := log2_le i
  have h2 := log2_le j
  show ((i : Int)).natAbs.log2 + ((j : Int)).natAbs.log2 < 1000000
  rw [Int.natAbs_natCast, Int.natAbs_natCast]
  omega
theorem pwr_fold {n : Nat} {t : Tn} (hl : t.length = n) : ∀ m, (List.replicate m t).foldl beh (stl n) = pwr t m
  | 0 => by rw [pwr, hl]; rfl
  | m + 1 => by rw [List.replicate_succ', List.foldl_append, pwr_fold hl m]; rfl
theorem swp_fold {n : Nat} {a b : Tn} (ha : IsP n a) (hb : IsP n b) : [a, b, bck a, bck b].foldl beh (stl n) = swp a b := by
  show beh (beh (beh (beh (stl n) a) b) (bck a)) (bck b) = _
  rw [stl_beh ha, beh_assoc (isP_beh ha hb) (isP_bck ha) (isP_bck hb)]
  rfl
theorem isP_fold {n : Nat} : ∀ (ts : List Tn) (t : Tn), IsP n t → AllP n ts → IsP n (ts.foldl beh t)
  | [], _, h, _ => h
  | u :: ts, t, h, hs => isP_fold ts _ (isP_beh h (hs u List.mem_cons_self)) fun x hx => hs x (List.mem_cons_of_mem _ hx)
theorem allP_take {n : Nat} {ts : List Tn} (h : AllP n ts) (i : Nat) : AllP n (ts.take i) := fun t ht => h t (List.mem_of_mem_take ht)
theorem rep_refs (a : Addr) : ∀ m, (List.replicate m [V.ref a]).flatten = rs (List.replicate m a)
  | 0 => rfl
  | m + 1 => by rw [List.replicate_succ, List.flatten_cons, rep_refs a m]; rfl
theorem tas_rep {H : Hp} {a : Addr} {t : Tn} (h : TA H a t) : ∀ m, TAs H (List.replicate m a) (List.replicate m t)
  | 0 => .nil
  | m + 1 => .cons h (tas_rep h m)
section
variable {P : Program} {w : World} {K : PySem.W.Frag} {mg : Str → Option Value} {base : Heap}
def spProduct : Sp := fun vs H Q _ => ∃ (n : Nat) (l : Addr) (ts : List Tn), vs = [nv n, .ref l] ∧ LA H l ts ∧ AllP n ts ∧ n ≤ 60 ∧ Ret H Q fun H' p => TX H' p (ts.foldl beh (stl n))
theorem ok_product {f : Addr} {fd : FuncData} {k : Nat} (F : Fun K "product" "product" sProduct f fd) (cS : Cal P w K mg base k "still" spStill) (cB : Cal P w K mg base k "behind" spBehind) : FnOk P w K mg base CX0 (k + 1) f fd ["places", "turns"] spProduct := by
  refine F.ok scProduct (fun vs H Q E h => ?_) (fun cdv A outer s H vs Q E hr h => ?_)
  · obtain ⟨n, l, ts, rfl, _⟩ := h
    rfl
  · obtain ⟨n, l, ts, rfl, hL, hP, hn, q⟩ := h
    obtain ⟨as, hl, hT⟩ := hL
    refine ⟨_, pss_cons (ps_set (i := 2) scProduct.nd rfl (.inl rfl) (pe_c cS hr (Nat.le_refl _) (by rfl) (pa_cons (pv 0) pa_nil)))
      (pss_cons (ps_for PassesOwn.never rfl (pi_list (pv 1)) (pg_name (i := 3) scProduct.nd rfl (.inl rfl)) (pss_one (ps_set (i := 2) scProduct.nd rfl (.inl rfl) (pe_c cB hr (Nat.le_refl _) (by rfl) (pa_cons (pv 2) (pa_cons (pv 3) pa_nil))))))
      (pss_one (ps_ret (pv 2)))), ?_⟩
    refine ⟨nv n, rfl, n, rfl, hn, fun H1 r sm nr hr1 => ?_⟩
    refine ⟨.ref l, rfl, l, rfl, ⟨_, SqL.of (sm _ _ hl)⟩, for_list (xs := rs as) (fun i σ H' => ∃ r y3, σ = [some (nv n), some (.ref l), some (.ref r), y3] ∧ Same H H' ∧ H r = none ∧ TX H' r ((ts.take i).foldl beh (stl n))) ⟨r, _, rfl, sm, nr, hr1⟩ (fun i σ H' _ h => ?_) (fun i x σ H' hx h => ?_) (fun σ H' h => ?_)⟩
    · obtain ⟨_, _, _, sm', _⟩ := h
      exact SqL.of (sm' _ _ hl)
    · obtain ⟨r', y3, rfl, sm', nr', hr'⟩ := h
      obtain ⟨a, ha, rfl⟩ := rs_get hx
      obtain ⟨t, ht, hta⟩ := hT.get ha
      have p1 := isP_fold (ts.take i) (stl n) (isP_stl n) (allP_take hP i)
      have p2 := hP t (List.mem_of_getElem? ht)
      refine ⟨.ref r', rfl, .ref a, rfl, r', a, _, t, rfl, hr', hta.same sm', by rw [p1.len]; exact hn, fun x hx => by rw [p2.len]; exact p1.lt x hx, fun H2 r2 sm2 nr2 hr2 => ?_⟩
      refine ⟨r2, _, rfl, sm'.trans sm2, sm'.free nr2, ?_⟩
      rw [fold_take ht]
      exact hr2
    · obtain ⟨r', y3, rfl, sm', nr', hr'⟩ := h
      rw [rs_len, hT.len, List.take_length] at hr'
      exact ⟨.ref r', rfl, q H' r' sm' nr' hr'⟩
def spPower : Sp := fun vs H Q _ => ∃ (a : Addr) (t : Tn) (n m : Nat), vs = [.ref a, nv m] ∧ TA H a t ∧ IsP n t ∧ n ≤ 60 ∧ m ≤ 1000 ∧ Ret H Q fun H' p => TX H' p (pwr t m)
theorem ok_power {f : Addr} {fd : FuncData} {k : Nat} (F : Fun K "power" "power" sPower f fd) (cP : Cal P w K mg base k "product" spProduct) (ml : mg "len" = none) : FnOk P w K mg base CX0 (k + 1) f fd ["turn", "many"] spPower := by
  refine F.ok scPower (fun vs H Q E h => ?_) (fun cdv A outer s H vs Q E hr h => ?_)
  · obtain ⟨a, t, n, m, rfl, _⟩ := h
    rfl
  · obtain ⟨a, t, n, m, rfl, hA, hP, hn, hm, q⟩ := h
    refine ⟨_, pss_one (ps_ret (pe_c cP hr (Nat.le_refl _) (by rfl) (pa_cons (pe_callB call_len_seq (by rfl) ml PySem.boot_len (pa_cons (pv 0) pa_nil)) (pa_cons (pe_op op_rep (pe_lst (pa_cons (pv 0) pa_nil)) (pv 1)) pa_nil)))), ?_⟩
    refine ⟨.ref a, rfl, a, _, rfl, .inr (sqA hA), .ref a, rfl, fewe (by simp), fun l nl => ?_⟩
    refine ⟨nv m, rfl, l, (m : Int), _, rfl, rfl, upd_same, by omega, by omega, fewe (by simp; omega), fun D nD => ?_⟩
    have s1 := same_upd (o := .lst [V.ref a]) nl
    have sD := same_put (o := .lst (List.replicate ((m : Int)).toNat [V.ref a]).flatten) s1 (s1.free nD)
    refine ⟨n, D, List.replicate m t, by rw [tv_len, hP.len]; rfl, ⟨List.replicate m a, ?_, tas_rep (hA.same sD) m⟩, fun u hu => by rw [(List.mem_replicate.mp hu).2]; exact hP, hn, fun H2 p sm np hp => ?_⟩
    · rw [upd_same, rep_refs]; rfl
    · rw [pwr_fold hP.len] at hp
      exact q H2 p (sD.trans sm) (sD.free np) hp
def spTimes : Sp := fun vs H Q _ => ∃ (p m : Nat), vs = [nv p, nv m] ∧ 1 ≤ p ∧ p ≤ 1000 ∧ m ≤ 1000 ∧ p ^ m ≤ 100000 ∧ Q (nv (p ^ m)) H
theorem ok_times {f : Addr} {fd : FuncData} {k : Nat} (F : Fun K "times_over" "times_over" sTimes f fd) (mr : mg "range" = none) : FnOk P w K mg base CX0 (k + 1) f fd ["number", "many"] spTimes := by
  refine F.ok scTimes (fun vs H Q E h => ?_) (fun cdv A outer s H vs Q E hr h => ?_)
  · obtain ⟨p, m, rfl, _⟩ := h
    rfl
  · obtain ⟨p, m, rfl, h1, h2, h3, h4, q⟩ := h
    refine ⟨_, pss_cons (ps_set (i := 2) scTimes.nd rfl (.inl rfl) pe_int)
      (pss_cons (ps_for PassesOwn.never rfl (pi_range1 rfl mr (pa_cons (pv 1) pa_nil)) (pg_name (i := 3) scTimes.nd rfl (.inl rfl)) (pss_one (ps_aug (i := 2) scTimes.nd rfl (.inl rfl) (pv 0) ip_mulW)))
      (pss_one (ps_ret (pv 2)))), ?_⟩
    refine ⟨nv m, rfl, (m : Int), rfl, by omega, by omega, for_range (lo := 0) (n := ((m : Int)).toNat) (fun i σ H' => ∃ y3, σ = [some (nv p), some (nv m), some (nv (p ^ i)), y3] ∧ H' = H) ⟨_, rfl, rfl⟩ (fun i σ H' hi h => ?_) (fun σ H' h => ?_)⟩
    · obtain ⟨y3, rfl, rfl⟩ := h
      have hle : p ^ i ≤ p ^ m := Nat.pow_le_pow_right h1 (by omega)
      refine ⟨_, rfl, nv p, rfl, ((p ^ i : Nat) : Int), (p : Int), rfl, rfl, mulW (by omega) (by omega), some (.int (0 + (i : Int))), ?_, rfl⟩
      show [some (nv p), some (nv m), some (V.int (((p ^ i : Nat) : Int) * (p : Int))), some (V.int (0 + (i : Int)))] = _
      rw [Nat.pow_succ, show (V.int (((p ^ i : Nat) : Int) * (p : Int))) = nv (p ^ i * p) from congrArg V.int (Int.natCast_mul _ _).symm]
    · obtain ⟨y3, rfl, rfl⟩ := h
      exact ⟨_, rfl, q⟩
def spSwap : Sp := fun vs H Q _ => ∃ (a b : Addr) (t u : Tn) (n : Nat), vs = [.ref a, .ref b] ∧ TA H a t ∧ TA H b u ∧ IsP n t ∧ IsP n u ∧ n ≤ 60 ∧ Ret H Q fun H' p => TX H' p (swp t u)
theorem ok_swap {f : Addr} {fd : FuncData} {k : Nat} (F : Fun K "swap_of" "swap_of" sSwap f fd) (cP : Cal P w K mg base k "product" spProduct) (cB : Cal P w K mg base k "back" spBack) (ml : mg "len" = none) : FnOk P w K mg base CX0 (k + 1) f fd ["one", "other"] spSwap := by
  refine F.ok scSwap (fun vs H Q E h => ?_) (fun cdv A outer s H vs Q E hr h => ?_)
  · obtain ⟨a, b, t, u, n, rfl, _⟩ := h
    rfl
  · obtain ⟨a, b, t, u, n, rfl, hA, hB, hP, hU, hn, q⟩ := h
    refine ⟨_, pss_one (ps_ret (pe_c cP hr (Nat.le_refl _) (by rfl) (pa_cons (pe_callB call_len_seq (by rfl) ml PySem.boot_len (pa_cons (pv 0) pa_nil)) (pa_cons (pe_lst (pa_cons (pv 0) (pa_cons (pv 1)
      (pa_cons (pe_c cB hr (Nat.le_refl _) (by rfl) (pa_cons (pv 0) pa_nil)) (pa_cons (pe_c cB hr (Nat.le_refl _) (by rfl) (pa_cons (pv 1) pa_nil)) pa_nil))))) pa_nil)))), ?_⟩
    refine ⟨.ref a, rfl, a, _, rfl, .inr (sqA hA), .ref a, rfl, .ref b, rfl, .ref a, rfl, a, t, n, rfl, hA, hP, hn, fun H1 c s1 nc hc => ?_⟩
    refine ⟨.ref b, rfl, b, u, n, rfl, hB.same s1, hU, hn, fun H2 d s2 nd hd => ?_⟩
    have s12 := s1.trans s2
    refine ⟨fewe (by simp), fun l nl => ?_⟩
    have sl := same_put (o := .lst [V.ref a, V.ref b, V.ref c, V.ref d]) s12 (s12.free nl)
    have sl2 := same_upd (o := .lst [V.ref a, V.ref b, V.ref c, V.ref d]) nl
    refine ⟨n, l, [t, u, bck t, bck u], by rw [tv_len, hP.len]; rfl, ⟨[a, b, c, d], upd_same, .cons (hA.same sl) (.cons (hB.same sl) (.cons ((hc.same s2).same sl2) (.cons (hd.same sl2) .nil)))⟩, fun x hx => ?_, hn, fun H3 p sm np hp => ?_⟩
    · simp only [List.mem_cons, List.not_mem_nil, or_false] at hx
      rcases hx with rfl | rfl | rfl | rfl
      · exact hP
      · exact hU
      · exact isP_bck hP
      · exact isP_bck hU
    · rw [swp_fold hP hU] at hp
      exact q H3 p (sl.trans sm) (sl.free np) hp
end
end Lk
set_option Elab.async false
set_option linter.all false
set_option maxRecDepth 100000
namespace Lk
open PySem PySem.Spec PyProof.Rows L2 GxR
/-! len(set(t)), t a tuple of unlike numbers -/
def tLenSetT (K : PySem.W.Frag) (ta : TE) : TE := fun σ H Q => ta σ H fun x H1 => ∃ (l : Addr) (t : Tn), x = V.ref l ∧ SqT K H1 l (tv t) ∧ t.Nodup ∧ t.length ≤ 1000 ∧ Q (nv t.length) H1
def ti (t : Tn) : List Int := t.map fun x : Nat => (x : Int)
theorem ints_tv : ∀ {t : Tn} {us : List Value}, Vals (tv t) us → IntsAre us (ti t)
  | [], _, .nil => .nil
  | x :: t, _, .cons r rr => by
    obtain ⟨tk, rfl⟩ := r
    exact .cons (x : Int) tk (ints_tv rr)
theorem nodup_ints {t : Tn} (h : t.Nodup) : (ti t).Nodup := List.pairwise_map.mpr (List.Pairwise.imp (fun {a b} (hne : a ≠ b) e => hne (Int.ofNat.inj e)) h)
theorem pe_lenSetT {X : Cx} {a : Expr} {ta : TE} {p p2 q pos : Pos} (hg : Gl X "len") (hm : X.mg "len" = none) (hg2 : Gl X "set") (hm2 : X.mg "set" = none) (ha : PE X a ta) (hc : X.calm = true := by rfl)
    (na : starEach [a] X.env = (false, eval a X.env) :: starEach [] X.env := by rfl) : PE X (.Call (.Name "len" p) [.Call (.Name "set" p2) [a] [] q] [] pos) (tLenSetT X.K ta) := by
  refine ⟨fun pins s σ H Q I h => ?_⟩
  refine Call_ (ld_blt I hg hm PySem.boot_len (PyProof.Rows.callWith_builtin1 (PyProof.Rows.args_cons ?_ rfl) rfl rfl))
  refine Call_ (ld_blt I hg2 hm2 PyProof.Rows.boot_set (PyProof.Rows.callWith_type1 (PyProof.Rows.args_cons (thn (ha.run pins s σ H _ I h) fun v s1 ⟨x, H1, I1, r1, q1⟩ => PyProof.Rows.args_nil ?_) na) na rfl))
  obtain ⟨l, t, rfl, hq, hnd, hlen, q1⟩ := q1
  cases r1
  obtain ⟨its, r, pl, hz⟩ := I1.tuple hq
  refine call_set_tupI (P := X.prog) (w := X.w) (ti t) (I1.ok.hd hc) pl (by simpa using ints_tv r) (by unfold ti; rw [List.length_map]; unfold scanBound; omega) fun h' tk c R hcn hk => ?_
  obtain ⟨o, es, ep, tb, ho, hex, hd, hgood, hkn, hmem, hsb, hf, hn, _⟩ := R
  have hkn2 : (es.toList.map keyOf).length = t.length := by
    have e1 := pigeon (es.toList.map keyOf) (ti t) hkn fun k hk => of_decide_eq_true ((hmem k).mpr hk)
    have e2 := pigeon (ti t) (es.toList.map keyOf) (nodup_ints hnd) fun k hk => (hmem k).mp (decide_eq_true hk)
    have e3 : (ti t).length = t.length := List.length_map _
    omega
  have hes : es.size = t.length := by rw [← hkn2, List.length_map, Array.length_toList]
  have I2 : L2.Inv X pins σ H1 { s1 with heap := h', toks := tk } := I1.kept hk
  exact PyProof.Rows.args_nil (call_len_set ho hex hd hf (by rw [hes]; omega) ⟨nv t.length, H1, I2.tok _, ⟨_, by rw [hes]⟩, q1⟩)
/-- isinstance(x, tuple), x a tuple -/
theorem call_isTup {X : Cx} : CallR X (.builtin "isinstance") (fun xs H Q => ∃ a ys, xs = [.ref a, .ty "tuple"] ∧ SqT X.K H a ys ∧ Q (.bl true) H) := by
  intro pins s σ H xs us Q I r h
  obtain ⟨a, ys, rfl, hq, q⟩ := h
  cases r with
  | cons rx rr =>
    cases rr with
    | cons rt rr =>
      cases rr
      cases rt
      cases rx
      obtain ⟨its, rv, p, _⟩ := I.tuple hq
      obtain ⟨o, h1, h2, _⟩ := p
      exact PySem.W.kia_one PySem.W.kitx_tuple I.kIn ⟨o, h1, h2⟩ (show PySem.W.kitOne X.K (.type "tuple") (.type "tuple") = some true from if_pos (beq_self_eq_true _)) (fun z => nomatch z) fun tk => ⟨.bl true, H, I.kept (t' := tk) fun _ _ z => z, rfl, q⟩
abbrev sTurn : Stmt := topS 7
theorem scTurn : FnScope ["places", "value"] ["places", "value"] (defScope sTurn) := ⟨rfl, rfl, rfl, by decide +kernel, rfl, by decide +kernel, by decide +kernel⟩
theorem tab_ne {H : Hp} {Pt a : Addr} {o : HO} (hT : TabG H Pt) (h : H a = some o) (no : ∀ ps, o ≠ .tbl ps) : a ≠ Pt := fun e => by
  obtain ⟨ps, hps, _⟩ := hT
  rw [e, hps] at h
  exact no ps (Option.some.inj h).symm
theorem _root_.GxR.Tabbed.at {Pt a : Addr} {H H' : Hp} {o : HO} (h : Tabbed Pt H H') (hT : TabG H Pt) (hA : H a = some o) (no : ∀ ps, o ≠ .tbl ps) : H' a = some o := by
  rw [h.2 a (tab_ne hT hA no)]
  exact hA
theorem _root_.GxR.Tabbed.ta {Pt a : Addr} {H H' : Hp} {t : Tn} (h : Tabbed Pt H H') (hT : TabG H Pt) (hA : TA H a t) : TA H' a t := by
  rcases hA with hA | ⟨o, ho, hA⟩
  · exact .inl (h.at hT hA fun _ z => by cases z)
  · exact .inr ⟨o, ho, h.at hT hA fun _ z => by cases z⟩
/-- H' keeps what stands in H, but the table at P may have grown -/
structure SameT (P : Addr) (H H' : Hp) : Prop where
  tab : TabG H' P
  keep : ∀ b o, b ≠ P → H b = some o → H' b = some o
def RetT (P : Addr) (H : Hp) (Q : VK) (φ : Hp → Addr → Prop) : Prop := ∀ H' p, SameT P H H' → H p = none → φ H' p → Q (.ref p) H'
section
variable {P : Program} {w : World} {K : PySem.W.Frag} {mg : Str → Option Value} {base : Heap}
def spTurn (Pt : Addr) : Sp := fun vs H Q _ => ∃ (n : Nat) (a : Addr) (t : Tn), vs = [nv n, .ref a] ∧ TA H a t ∧ IsP n t ∧ n ≤ 60 ∧ TabG H Pt ∧ ∀ H', Tabbed Pt H H' → Q (.bl true) H'
theorem ok_turn {f c Pt fN : Addr} {fdN : FuncData} {k : Nat} {oc kV doc pm ct : Value} {od an : Option Addr} {osl : Array (Option Value)}
    (lk : K.lookup f = some ⟨oc, od, .func (PySem.W.fnOf "is_turn" "is_turn" (defArgs sTurn) (defBody sTurn) (defScope sTurn) .none kV doc pm an (.ref c) ct), osl⟩) (hcd : PySem.W.codeIn K (.ref c) "is_turn" = true)
    (TB : TabB base mg c Pt) (Fn : Fun K "is_number" "is_number" sNum fN fdN) (gf : mg "is_number" = some (.ref fN)) (mi : mg "isinstance" = none) (mn : mg "int" = none) (mb : mg "bool" = none) (mt : mg "tuple" = none) (ml : mg "len" = none) (ma : mg "all" = none) (ms : mg "set" = none) :
    FnOk P w K mg base CX0 (k + 1) f (PySem.W.fnOf "is_turn" "is_turn" (defArgs sTurn) (defBody sTurn) (defScope sTurn) .none kV doc pm an (.ref c) ct) ["places", "value"] (spTurn Pt) := by
  refine fn_of lk hcd scTurn (fun vs H Q E h => ?_) fun A outer s H vs Q E hr h => ?_
  · obtain ⟨n, a, t, rfl, _⟩ := h
    rfl
  · obtain ⟨n, a, t, rfl, hA, hP, hn, hT, q⟩ := h
    refine ⟨_, PSs.nox (pss_cons (ps_if (PW.pt (pw_or (pt_not (pt_val (pe_callB call_isTup (by rfl) mi (by decide +kernel) (pa_cons (pv 1) (pa_cons (pe_bltn (by rfl) mt (by decide +kernel) (show RelV (.ty "tuple") (.type "tuple") from rfl)) pa_nil)))))
        (pw_or1 (pt_cmpR op_ne (pe_callB call_len_seq (by rfl) ml PySem.boot_len (pa_cons (pv 1) pa_nil)) (pv 0) (nomark _))))) (pss_one (ps_ret pe_bl)) pss_nil)
      (pss_one (ps_ret (pe_and (pe_allN (i := 0) (k := k) hr (by rfl) ma TB rfl ⟨rfl, rfl, by decide +kernel, rfl, rfl, ?_⟩ (by rfl) (by rfl) (by rfl) rfl rfl Fn gf mi mn mb (pv 1) (fun _ => rfl) rfl)
        (pe_one (pe_cmpR op_eq (pe_lenSetT (by rfl) ml (by rfl) ms (pv 1)) (pv 0) (nomark _))))))), ?_⟩
    · intro y hy e
      have hy2 : y = ((".0" : Str), NameKind.local) ∨ y = (("place" : Str), NameKind.local) ∨ y = (("places" : Str), NameKind.free) ∨ y = (("is_number" : Str), NameKind.globalImplicit) := by simpa using hy
      rcases hy2 with rfl | rfl | rfl | rfl
      · cases e
      · cases e
      · exact ⟨_, rfl⟩
      · cases e
    · refine ⟨.ref a, rfl, a, tv t, rfl, sqA hA, true, rfl, ?_⟩
      refine ⟨.ref a, rfl, a, _, rfl, .inr (sqA hA), nv n, rfl, ?_⟩
      refine ⟨rfl, _, rfl, ?_⟩
      rw [tv_len, hP.len]
      show if (!decide (nv n = nv n)) = true then _ else _
      rw [decide_eq_true rfl]
      refine iteF ?_
      refine ⟨.ref a, rfl, a, t, n, rfl, sqA hA, hP.lt, rfl, hT, fun H2 hT2 => ⟨true, rfl, ?_⟩⟩
      refine iteT ?_
      have hA2 : TA H2 a t := hT2.ta hT hA
      refine ⟨.ref a, rfl, a, t, rfl, sqA hA2, hP.nd, by rw [hP.len]; omega, nv n, rfl, rfl, ?_⟩
      rw [hP.len, decide_eq_true rfl]
      exact q H2 hT2
end
end Lk
set_option Elab.async false
set_option linter.all false
set_option maxRecDepth 100000
namespace Lk
open PySem PySem.Spec PyProof.Rows L2 GxR
/-! a walked name that holds a list or a tuple -/
theorem pi_seq (i : Nat) {X : Cx} {tg : Expr} {x : Str} {pos : Pos} (h : PE X (.Name x pos) (tVar i)) : PI X tg (.Name x pos) (fun σ H R => iList X.K (tVar i) σ H R ∨ iTup X.K (tVar i) σ H R) :=
  ⟨fun pins s σ H R I q => q.elim ((pi_list h).run pins s σ H R I) ((pi_tup h).run pins s σ H R I)⟩
/-! dicts whose keys are turns -/
def tk (t : Tn) : List Key := t.map fun x : Nat => Sum.inl (x : Int)
theorem tk_tv (t : Tn) : (tk t).map kV = tv t := by unfold tk tv; rw [List.map_map]; rfl
theorem tk_inj : ∀ {t u : Tn}, tk t = tk u → t = u
  | [], [], _ => rfl
  | [], _ :: _, h => by cases h
  | _ :: _, [], h => by cases h
  | x :: t, y :: u, h => by
    obtain ⟨h1, h2⟩ := List.cons.inj h
    rw [tk_inj h2, Int.ofNat.inj (Sum.inl.inj h1)]
theorem tk_ti (t : Tn) : tk t = (ti t).map Sum.inl := by unfold tk ti; rw [List.map_map]; rfl
theorem TX.key {H : Hp} {a : Addr} {t : Tn} (h : TX H a t) : H a = some (.tup ((tk t).map kV)) := by rw [tk_tv]; exact h
def seen (F : List Tn) : List (List Key × V) := F.map fun t => (tk t, V.bl true)
theorem seen_none {F : List Tn} {t : Tn} (h : t ∉ F) : valV (seen F) (tk t) = none := by
  induction F with
  | nil => rfl
  | cons u F ih =>
    unfold seen
    rw [List.map_cons, valV_neg (fun e => h (List.mem_cons.mpr (.inl (tk_inj e).symm)))]
    exact ih fun m => h (List.mem_cons_of_mem _ m)
theorem seen_some {F : List Tn} {t : Tn} (h : t ∈ F) : valV (seen F) (tk t) = some (.bl true) := by
  induction F with
  | nil => exact absurd h List.not_mem_nil
  | cons u F ih =>
    unfold seen
    rw [List.map_cons]
    by_cases e : u = t
    · subst e; exact valV_pos rfl
    · rw [valV_neg (fun e' => e (tk_inj e'))]
      rcases List.mem_cons.mp h with z | z
      · exact absurd z.symm e
      · exact ih z
theorem seen_put {F : List Tn} {t : Tn} (h : t ∉ F) : putK (seen F) (tk t) (.bl true) = seen (F ++ [t]) := by
  rw [putK_new _ (seen_none h)]
  unfold seen
  rw [List.map_append]
  rfl
theorem seen_len (F : List Tn) : (seen F).length = F.length := List.length_map _
/-! sorted: by the code -/
theorem codA_cod : ∀ (t : Tn) (a : Nat), ((codA a t : Nat) : Int) = (a : Int) * 16 ^ t.length + TS.code 16 (ti t)
  | [], a => by simp [codA, ti, TS.code]
  | x :: t, a => by
    rw [codA, codA_cod t (a * 16 + x)]
    show _ = (a : Int) * 16 ^ (t.length + 1) + ((x : Int) * 16 ^ (ti t).length + TS.code 16 (ti t))
    have e : (ti t).length = t.length := List.length_map _
    rw [e, Int.natCast_add, Int.natCast_mul, Int.pow_succ]
    grind
theorem cod_code (t : Tn) : TS.code 16 (ti t) = (cod t : Int) := by
  have := codA_cod t 0
  unfold cod
  rw [this]
  simp
theorem ti_inj : ∀ {t u : Tn}, ti t = ti u → t = u
  | [], [], _ => rfl
  | [], _ :: _, h => by cases h
  | _ :: _, [], h => by cases h
  | x :: t, y :: u, h => by
    obtain ⟨h1, h2⟩ := List.cons.inj h
    rw [ti_inj h2, Int.ofNat.inj h1]
theorem ti_tv (t : Tn) : (ti t).map V.int = tv t := by unfold ti tv; rw [List.map_map]; rfl
theorem ti_bd {n : Nat} {t : Tn} (hn : n ≤ 16) (h : IsP n t) : (ti t).length = n ∧ TS.Bd 16 (ti t) := by
  refine ⟨by unfold ti; rw [List.length_map, h.len], fun m hm => ?_⟩
  obtain ⟨x, hx, rfl⟩ := List.mem_map.mp hm
  have := h.lt x hx
  omega
/-- what a sort of unlike turns hands back -/
theorem sorted_turns {n : Nat} (hn : n ≤ 16) {H : Hp} {F : List Tn} (hF : AllP n F) (hd : F.Nodup) : ∀ (L : List (Addr × List Int)), (L.map (·.2)).Perm (F.map ti) → L.Pairwise (fun q r => TS.code 16 q.2 ≤ TS.code 16 r.2) →
    (∀ q ∈ L, ∀ t : Tn, q.2 = ti t → TA H q.1 t) → (L.map fun q => V.ref q.1) = rs (L.map (·.1)) ∧ TAs H (L.map (·.1)) (setS F) := by
  intro L hp hs hH
  have e0 : (L.map fun q => V.ref q.1) = rs (L.map (·.1)) := by unfold rs; rw [List.map_map]; rfl
  refine ⟨e0, ?_⟩
  obtain ⟨us, hus, pus⟩ : ∃ us : List Tn, L.map (·.2) = us.map ti ∧ us.Perm F := by
    have key : ∀ (l : List (List Int)) (F : List Tn), l.Perm (F.map ti) → ∃ us : List Tn, l = us.map ti ∧ us.Perm F := by
      intro l
      induction l with
      | nil =>
        intro F hp
        have := hp.length_eq
        rw [List.length_map] at this
        exact ⟨[], rfl, by rw [List.length_eq_zero_iff.mp this.symm]⟩
      | cons x l ih =>
        intro F hp
        obtain ⟨t, ht, e⟩ := List.mem_map.mp (hp.mem_iff.mp List.mem_cons_self)
        obtain ⟨l1, l2, rfl⟩ := List.append_of_mem ht
        have p2 : l.Perm ((l1 ++ l2).map ti) := by
          have h9 : (x :: l).Perm (x :: (l1 ++ l2).map ti) := by
            refine hp.trans ?_
            rw [List.map_append, List.map_cons, ← e, List.map_append]
            exact List.perm_middle
          exact h9.cons_inv
        obtain ⟨us, c1, c2⟩ := ih _ p2
        exact ⟨t :: us, by rw [List.map_cons, e, c1], (c2.cons t).trans List.perm_middle.symm⟩
    exact key _ _ hp
  have hund : us.Nodup := pus.nodup_iff.mpr hd
  have huP : AllP n us := fun t ht => hF t (pus.mem_iff.mp ht)
  have hsrt : Srt us := by
    have h1 : (L.map (·.2)).Pairwise (fun q r => TS.code 16 q ≤ TS.code 16 r) := List.pairwise_map.mpr hs
    rw [hus, List.pairwise_map] at h1
    refine List.Pairwise.imp_of_mem (fun {a b} ha hb h => ?_) (List.Pairwise.and h1 hund)
    obtain ⟨h2, h3⟩ := h
    rw [cod_code, cod_code] at h2
    have h4 : cod a ≠ cod b := fun e => h3 (cod_inj hn (huP a ha) (huP b hb) e)
    omega
  have eus : us = setS F := srt_ext hsrt (srt_setS hn hF) fun t => by rw [mem_setS hn hF, pus.mem_iff]
  rw [← eus]
  clear eus hsrt huP hund pus hp hs e0
  induction L generalizing us with
  | nil =>
    cases us with
    | nil => exact .nil
    | cons => cases hus
  | cons q L ih =>
    cases us with
    | nil => cases hus
    | cons u us =>
      rw [List.map_cons, List.map_cons] at hus
      obtain ⟨e1, e2⟩ := List.cons.inj hus
      refine .cons ?_ (ih (fun q hq => hH q (List.mem_cons_of_mem _ hq)) us e2)
      exact hH q List.mem_cons_self u e1
theorem exact_turn {H : Hp} {q : Addr × List Int} (h : H q.1 = some (.tup (q.2.map V.int))) (t : Tn) (e : q.2 = ti t) : TA H q.1 t := by
  rw [e, ti_tv] at h
  exact .inl h
end Lk
set_option Elab.async false
set_option linter.all false
set_option maxRecDepth 100000
namespace Lk
open PySem PySem.Spec PyProof.Rows L2 GxR
abbrev sSpan : Stmt := topS 21
abbrev sTurns : Stmt := topS 22
theorem scSpan : FnScope ["places", "given", "found", "layer", "later", "turn", "other", "one"] ["places", "given"] (defScope sSpan) := ⟨rfl, rfl, rfl, by decide +kernel, rfl, by decide +kernel, by decide +kernel⟩
theorem scTurns : FnScope ["lock"] ["lock"] (defScope sTurns) := ⟨rfl, rfl, rfl, by decide +kernel, rfl, by decide +kernel, by decide +kernel⟩
/-- a list or a tuple of turns -/
def SA (H : Hp) (a : Addr) (ts : List Tn) : Prop := LA H a ts ∨ UA H a ts
theorem SA.same {H H' : Hp} {a : Addr} {ts : List Tn} (s : Same H H') (h : SA H a ts) : SA H' a ts := h.elim (fun h => .inl (h.same s)) fun h => .inr (h.same s)
section
variable {P : Program} {w : World} {K : PySem.W.Frag} {mg : Str → Option Value} {base : Heap}
theorem TA.ne {H : Hp} {x a : Addr} {t : Tn} {o : HO} (h : TA H a t) (hx : H x = some o) (no : Unit → ¬ IsTp o) : a ≠ x := fun e => by
  obtain ⟨u, hu, ip⟩ := h.is
  rw [e, hx] at hu
  cases hu
  exact no () ip
theorem TX.put {H : Hp} {x a : Addr} {t : Tn} {o o' : HO} (h : TX H a t) (hx : H x = some o) (no : Unit → ¬ IsTp o) : TX (upd H x o') a t := by
  show upd H x o' a = _
  rw [upd_ne (h.ta.ne hx no)]
  exact h
theorem TZ.put {H : Hp} {x a : Addr} {t : Tn} {o o' : HO} (h : TZ H a t) (hx : H x = some o) (no : Unit → ¬ IsTp o) : TZ (upd H x o') a t := by
  obtain ⟨u, hu, h1⟩ := id h
  exact ⟨u, hu, by rw [upd_ne (h.ta.ne hx no)]; exact h1⟩
theorem TA.put {H : Hp} {x a : Addr} {t : Tn} {o o' : HO} (h : TA H a t) (hx : H x = some o) (no : Unit → ¬ IsTp o) : TA (upd H x o') a t := h.elim (fun h => .inl (h.put hx no)) fun h => .inr (h.put hx no)
theorem TAs.put {H : Hp} {x : Addr} {as : List Addr} {ts : List Tn} {o o' : HO} (h : TAs H as ts) (hx : H x = some o) (no : Unit → ¬ IsTp o) : TAs (upd H x o') as ts := by
  induction h with
  | nil => exact .nil
  | cons h _ ih => exact .cons (h.put hx no) ih
theorem TZs.put {H : Hp} {x : Addr} {as : List Addr} {ts : List Tn} {o o' : HO} (h : TZs H as ts) (hx : H x = some o) (no : Unit → ¬ IsTp o) : TZs (upd H x o') as ts := by
  induction h with
  | nil => exact .nil
  | cons h _ ih => exact .cons (h.put hx no) ih
theorem UZ.put {H : Hp} {x a : Addr} {ts : List Tn} {o o' : HO} (h : UZ H a ts) (hx : H x = some o) (no : Unit → ¬ IsTp o) : UZ (upd H x o') a ts :=
  let ⟨as, h1, h2⟩ := h
  ⟨as, by rw [upd_ne (ne_of h1 hx fun e => no () (by rw [← e]; trivial))]; exact h1, h2.put hx no⟩
/-- the state of a layer's walk: but for the dict at d and the list at c all stands as in Hs -/
structure Lay (Hs H : Hp) (d c : Addr) (fl : List Tn × List Tn) : Prop where
  keep : ∀ b o, b ≠ d → b ≠ c → Hs b = some o → H b = some o
  dict : H d = some (.dT (seen fl.1))
  list : ∃ as, H c = some (.lst (rs as)) ∧ TAs H as fl.2
theorem Lay.ta {Hs H : Hp} {d c a : Addr} {fl : List Tn × List Tn} {t : Tn} (L : Lay Hs H d c fl) (hd : ∃ kvs, Hs d = some (.dT kvs)) (hc : ∃ xs, Hs c = some (.lst xs)) (h : TA Hs a t) : TA H a t := by
  obtain ⟨kvs, hd⟩ := hd
  obtain ⟨xs, hc⟩ := hc
  have n1 := h.ne hd fun _ z => by cases z
  have n2 := h.ne hc fun _ z => by cases z
  rcases h with h | ⟨o, ho, h⟩
  · exact .inl (L.keep a _ n1 n2 h)
  · exact .inr ⟨o, ho, L.keep a _ n1 n2 h⟩
theorem Lay.add {Hs H : Hp} {d c p : Addr} {fl : List Tn × List Tn} {t : Tn} (L : Lay Hs H d c fl) (hp : TA H p t) (hn : t ∉ fl.1) (as : List Addr) (hc : H c = some (.lst (rs as))) (hT : TAs H as fl.2) (dc : d ≠ c) :
    Lay Hs (upd (upd H d (.dT (putK (seen fl.1) (tk t) (.bl true)))) c (.lst (rs as ++ [.ref p]))) d c (addN t fl) := by
  have e : addN t fl = (fl.1 ++ [t], fl.2 ++ [t]) := by
    unfold addN
    rw [if_neg fun h => hn (List.contains_iff_mem.mp h)]
  have hc' : (upd H d (.dT (putK (seen fl.1) (tk t) (.bl true)))) c = some (.lst (rs as)) := by rw [upd_ne dc.symm]; exact hc
  rw [e]
  refine ⟨fun b o h1 h2 hb => ?_, ?_, as ++ [p], ?_, ?_⟩
  · rw [upd_ne h2, upd_ne h1]; exact L.keep b o h1 h2 hb
  · rw [upd_ne dc, upd_same, seen_put hn]
  · rw [upd_same, rs_snoc]
  · exact ((hT.put L.dict fun _ z => by cases z).put hc' fun _ z => by cases z).snoc ((hp.put L.dict fun _ z => by cases z).put hc' fun _ z => by cases z)
theorem Lay.grow {Hs H H' : Hp} {d c : Addr} {fl : List Tn × List Tn} (L : Lay Hs H d c fl) (s : Same H H') : Lay Hs H' d c fl :=
  let ⟨as, h1, h2⟩ := L.list
  ⟨fun b o h1 h2 hb => s _ _ (L.keep b o h1 h2 hb), s _ _ L.dict, as, s _ _ h1, h2.same s⟩
theorem SA.seq {K : PySem.W.Frag} {H : Hp} {a : Addr} {ts : List Tn} (h : SA H a ts) : ∃ as, TAs H as ts ∧ (SqL K H a (rs as) ∨ SqT K H a (rs as)) := by
  rcases h with ⟨as, h1, h2⟩ | ⟨as, h1, h2⟩
  · exact ⟨as, h2, .inl (SqL.of h1)⟩
  · exact ⟨as, h2, .inr (SqT.of h1)⟩
theorem SA.ne {H : Hp} {a x : Addr} {ts : List Tn} {o : HO} (h : SA H a ts) (hx : H x = some o) (no : ∀ xs, o ≠ .lst xs) (no' : ∀ xs, o ≠ .tup xs) : a ≠ x := fun e => by
  rcases h with ⟨as, h1, _⟩ | ⟨as, h1, _⟩
  · rw [e, hx] at h1; exact no _ (Option.some.inj h1)
  · rw [e, hx] at h1; exact no' _ (Option.some.inj h1)
theorem for_seq {K : PySem.W.Frag} {a : Addr} {xs : List V} {i : Nat} {g : TG} {tb : TS} {D : Ends} {σ : L2.St} {H : Hp} (hσ : σ[i]? = some (some (.ref a))) (hq : SqL K H a xs ∨ SqT K H a xs) (Pv : Nat → L2.St → Hp → Prop) (h0 : Pv 0 σ H)
    (hl : ∀ j σ H', j ≤ xs.length → Pv j σ H' → ∀ o, H a = some o → H' a = some o)
    (hs : ∀ j x σ H, xs[j]? = some x → Pv j σ H → g x σ H fun σ2 H2 => tb { D with nx := Pv (j + 1), ct := Pv (j + 1), bk := D.nx } σ2 H2) (hd : ∀ σ H, Pv xs.length σ H → D.nx σ H) :
    tFor (fun σ H R => iList K (tVar i) σ H R ∨ iTup K (tVar i) σ H R) g tb D σ H := by
  rcases hq with hq | hq
  · refine .inl ⟨.ref a, hσ, a, rfl, ⟨_, hq⟩, for_list (xs := xs) Pv h0 (fun j σ H' hj h => ?_) hs hd⟩
    rcases hq with (q | ⟨o, q⟩) | q
    · exact .inl (.inl (hl j σ H' hj h _ q))
    · exact .inl (.inr ⟨o, hl j σ H' hj h _ q⟩)
    · exact .inr q
  · refine .inr ⟨.ref a, hσ, a, rfl, ⟨_, hq⟩, for_tup (xs := xs) Pv h0 (fun j σ H' hj h => ?_) hs hd⟩
    rcases hq with (q | ⟨o, q⟩) | q
    · exact .inl (.inl (hl j σ H' hj h _ q))
    · exact .inl (.inr ⟨o, hl j σ H' hj h _ q⟩)
    · exact .inr q
theorem row1_take {t : Tn} {g : List Tn} {i : Nat} {o : Tn} {fl : List Tn × List Tn} (h : g[i]? = some o) : row1 t (g.take (i + 1)) fl = addN (beh t o) (row1 t (g.take i) fl) := by
  unfold row1
  exact fold_take h
theorem lay1_take {l g : List Tn} {i : Nat} {t : Tn} {fl : List Tn × List Tn} (h : l[i]? = some t) : lay1 (l.take (i + 1)) g fl = row1 t g (lay1 (l.take i) g fl) := by
  unfold lay1
  exact fold_take h
def spSpan : Sp := fun vs H Q _ => ∃ (n : Nat) (l : Addr) (g W : List Tn), vs = [nv n, .ref l] ∧ SA H l g ∧ AllP n g ∧ 1 ≤ n ∧ n ≤ 16 ∧ Box n g W ∧ Ret H Q fun H' p => LA H' p (spn n g)
theorem ok_span {f : Addr} {fd : FuncData} {k : Nat} (F : Fun K "spanned" "spanned" sSpan f fd) (cS : Cal P w K mg base k "still" spStill) (cB : Cal P w K mg base k "behind" spBehind) (ml : mg "len" = none) (ms : mg "sorted" = none) (mm : ∃ t, mg "MOST_TURNS" = some (.int 240 t)) :
    FnOk P w K mg base CX0 (k + 1) f fd ["places", "given"] spSpan := by
  obtain ⟨tm, mm⟩ := mm
  refine F.ok scSpan (fun vs H Q E h => ?_) (fun cdv A outer s H vs Q E hr h => ?_)
  · obtain ⟨n, l, g, W, rfl, _⟩ := h
    rfl
  · obtain ⟨n, l, g, W, rfl, hL, hP, hn1, hn, B, q⟩ := h
    have hu := hu_of hr
    refine ⟨_, pss_cons (ps_par (i := 2) (j := 3) (by rfl) scSpan.nd rfl rfl (by decide) rfl rfl (pa_cons (pe_disp1T hu (pe_c cS hr (Nat.le_refl _) (by rfl) (pa_cons (pv 0) pa_nil)) pe_bl) (pa_cons (pe_lst (pa_cons (pe_c cS hr (Nat.le_refl _) (by rfl) (pa_cons (pv 0) pa_nil)) pa_nil)) pa_nil)) (by rfl))
      (pss_cons (ps_while PassesOwn.never (pt_truth (pv 3) (by intro _; rfl))
        (pss_cons (ps_set (i := 4) scSpan.nd rfl (.inl rfl) (pe_lst pa_nil))
        (pss_cons (ps_for PassesOwn.never rfl (pi_list (pv 3)) (pg_name (i := 5) scSpan.nd rfl (.inl rfl))
          (pss_one (ps_for PassesOwn.never rfl (pi_seq 1 (pv 1)) (pg_name (i := 6) scSpan.nd rfl (.inl rfl))
            (pss_cons (ps_set (i := 7) scSpan.nd rfl (.inl rfl) (pe_c cB hr (Nat.le_refl _) (by rfl) (pa_cons (pv 5) (pa_cons (pv 6) pa_nil))))
            (pss_one (ps_if (pt_cmp (pc_dnotin hu (pv 7) (pv 2))) (pss_cons (ps_dput hu (pv 2) (pv 7) pe_bl rfl) (pss_one (ps_expr (pe_bm PySem.F.plainAttrs_list PySem.F.slot_list_append PySem.F.type_list_append mt_append (pv 4) (pa_cons (pv 7) pa_nil))))) pss_nil))))))
        (pss_cons (ps_if (pt_cmpR op_gt (pe_callB call_len_dT (by rfl) ml PySem.boot_len (pa_cons (pv 2) pa_nil)) (pe_glob (by rfl) mm (show RelV (.int 240) _ from ⟨_, rfl⟩)) (nomark _)) pss_never pss_nil)
        (pss_one (ps_set (i := 3) scSpan.nd rfl (.inl rfl) (pv 4)))))))
      (pss_one (ps_ret (pe_callB (cr_sortedDT rfl) (by rfl) ms (by decide +kernel) (pa_cons (pv 2) pa_nil))))), ?_⟩
    -- found, layer
    refine fun d nd => ⟨nv n, rfl, n, rfl, by omega, fun H1 r sm nr hr1 => ?_⟩
    have hd1 : H1 d = some (.dT []) := sm _ _ upd_same
    refine ⟨r, tk (stl n), rfl, hr1.key, hd1, ?_⟩
    have sH1 : Same H H1 := fun b o e => sm _ _ ((same_upd nd) b o e)
    have sHa : Same H (upd H1 d (.dT [(tk (stl n), .bl true)])) := same_put sH1 nd
    refine ⟨nv n, rfl, n, rfl, by omega, fun H2 r2 sm2 nr2 hr2 => ?_⟩
    have hd2 : H2 d = some (.dT (seen [stl n])) := sm2 _ _ upd_same
    refine ⟨fewe (by simp), fun ly nly => ⟨.ref d, .ref ly, rfl, ?_⟩⟩
    have sH3 : Same H (upd H2 ly (.lst [.ref r2])) := same_put (sHa.trans sm2) ((sHa.trans sm2).free nly)
    have dly : d ≠ ly := ne_of_none hd2 nly
    have fin : spn n g = setS (bfs g 64 [stl n] [stl n]) := rfl
    refine ⟨fun m σ Hc => ∃ F Lr ly y4 y5 y6 y7, σ = [some (nv n), some (.ref l), some (.ref d), some (.ref ly), y4, y5, y6, y7] ∧ Bfs n g W F Lr ∧ ends g m F Lr ∧ bfs g m F Lr = bfs g 64 [stl n] [stl n] ∧ Same H Hc ∧ Hc d = some (.dT (seen F)) ∧ LA Hc ly Lr,
      ⟨64, [stl n], [stl n], ly, none, none, none, none, rfl, Bfs.start B.zero, B.ends, rfl, sH3, by rw [upd_ne dly]; exact hd2, [r2], upd_same, .cons (hr2.ta.same (same_upd nly)) .nil⟩, fun m σ Hc hW => ?_⟩
    obtain ⟨F, Lr, ly', y4, y5, y6, y7, rfl, hB, hE, hF, sHc, hdc, as, hly, hTs⟩ := hW
    have hlenF : F.length ≤ 60 := Nat.le_trans hB.len B.len
    have hlenL : as.length = Lr.length := hTs.len
    refine ⟨.ref ly', rfl, !(rs as).isEmpty, .inl ⟨_, SqL.of hly, rfl⟩, ?_⟩
    cases Lr with
    | nil =>
      have e0 : as = [] := List.length_eq_zero_iff.mp hlenL
      subst e0
      refine iteF ?_
      have hFP : AllP n F := fun t ht => (hB.clo t ht).isP hP
      refine ⟨.ref d, rfl, d, seen F, F.map ti, n, 16, rfl, .inl hdc, ?_, by rw [List.length_map]; omega, hn1, fun t ht => ?_, fun L p hp hpw hH np => ?_⟩
      · unfold seen
        rw [List.map_map, List.map_map]
        exact List.map_congr_left fun t _ => tk_ti t
      · obtain ⟨u, hu, rfl⟩ := List.mem_map.mp ht
        exact ti_bd hn (hFP u hu)
      · obtain ⟨e1, e2⟩ := sorted_turns hn hFP hB.nd L hp hpw fun q hq => exact_turn (hH q hq)
        have e3 : bfs g 64 [stl n] [stl n] = F := by
          rw [← hF]
          cases m <;> rfl
        refine q _ p (same_put sHc (sHc.free np)) (sHc.free np) ?_
        rw [fin, e3]
        exact ⟨L.map (·.1), by rw [upd_same, e1], e2.same (same_upd np)⟩
    | cons t r =>
      have e0 : (!(rs as).isEmpty) = true := by
        cases as with
        | nil => cases hlenL
        | cons => rfl
      rw [e0]
      refine iteT ?_
      cases m with
      | zero => cases hE
      | succ m =>
        refine ⟨fun σ Hc => ∃ F Lr ly y4 y5 y6 y7, σ = [some (nv n), some (.ref l), some (.ref d), some (.ref ly), y4, y5, y6, y7] ∧ Bfs n g W F Lr ∧ ends g m F Lr ∧ bfs g m F Lr = bfs g 64 [stl n] [stl n] ∧ Same H Hc ∧ Hc d = some (.dT (seen F)) ∧ LA Hc ly Lr,
          fun σ' H' h' => ⟨m, Nat.lt_succ_self _, h'⟩, ?_⟩
        refine ⟨Nat.zero_le _, fun c nc => ?_⟩
        have M0 := hB.mid
        generalize hLr : t :: r = Lr at *
        have hnext := hB.next B.step
        have hd0 : (upd Hc c (.lst [])) d = some (.dT (seen F)) := same_upd nc _ _ hdc
        have dc : d ≠ c := ne_of_none hdc nc
        have nH : ∀ b, H b = none → b = d ∨ b = c ∨ True := fun _ _ => .inr (.inr trivial)
        have sHs : Same H (upd Hc c (.lst [])) := same_put sHc (sHc.free nc)
        have hlyS : (upd Hc c (.lst [])) ly' = some (.lst (rs as)) := same_upd nc _ _ hly
        have lyc : ly' ≠ c := ne_of_none hly nc
        have lyd : ly' ≠ d := ne_of hly hdc fun z => by cases z
        have hTsS : TAs (upd Hc c (.lst [])) as Lr := hTs.same (same_upd nc)
        have L0 : Lay (upd Hc c (.lst [])) (upd Hc c (.lst [])) d c (F, []) := ⟨fun b o _ _ h => h, hd0, [], upd_same, .nil⟩
        have hLs : SA (upd Hc c (.lst [])) l g := hL.same sHs
        obtain ⟨gs, hgs, hgq⟩ := hLs.seq (K := K)
        have exd : ∃ kvs, (upd Hc c (.lst [])) d = some (.dT kvs) := ⟨_, hd0⟩
        have exc : ∃ xs, (upd Hc c (.lst [])) c = some (.lst xs) := ⟨_, upd_same⟩
        have hld : l ≠ d := SA.ne hLs hd0 (fun _ z => by cases z) fun _ z => by cases z
        have hlc : l ≠ c := fun e => by
          have h1 : Hc l = none := by rw [e]; exact nc
          rcases hL.same sHc with ⟨_, z, _⟩ | ⟨_, z, _⟩ <;> (rw [h1] at z; cases z)
        have gP : ∀ o ∈ g, IsP n o := hP
        have lP : ∀ t ∈ Lr, IsP n t := fun t ht => (hB.clo t (hB.sub t ht)).isP hP
        generalize hHs : upd Hc c (.lst []) = Hs at *
        refine ⟨.ref ly', rfl, ly', rfl, ⟨_, SqL.of hlyS⟩, for_list (xs := rs as) (fun i σ H' => ∃ y5 y6 y7, σ = [some (nv n), some (.ref l), some (.ref d), some (.ref ly'), some (.ref c), y5, y6, y7] ∧ Lay Hs H' d c (lay1 (Lr.take i) g (F, []))) ⟨_, _, _, rfl, L0⟩ (fun i σ H' _ h => ?_) (fun i x σ H' hx h => ?_) (fun σ H' h => ?_)⟩
        · obtain ⟨_, _, _, _, L⟩ := h
          exact SqL.of (L.keep _ _ lyd lyc hlyS)
        · obtain ⟨y5, y6, y7, rfl, L⟩ := h
          obtain ⟨ta, hta, rfl⟩ := rs_get hx
          obtain ⟨t', ht', hT'⟩ := hTsS.get hta
          have htm : t' ∈ Lr := List.mem_of_getElem? ht'
          have gq' : SqL K H' l (rs gs) ∨ SqT K H' l (rs gs) := by
            have kp : ∀ o, Hs l = some o → H' l = some o := fun o h => L.keep _ _ hld hlc h
            rcases hgq with (((z | ⟨o, z⟩) | z) | ((z | ⟨o, z⟩) | z))
            · exact .inl (.inl (.inl (kp _ z)))
            · exact .inl (.inl (.inr ⟨o, kp _ z⟩))
            · exact .inl (.inr z)
            · exact .inr (.inl (.inl (kp _ z)))
            · exact .inr (.inl (.inr ⟨o, kp _ z⟩))
            · exact .inr (.inr z)
          refine for_seq (a := l) (xs := rs gs) rfl gq' (fun j σ H2 => ∃ y6 y7, σ = [some (nv n), some (.ref l), some (.ref d), some (.ref ly'), some (.ref c), some (.ref ta), y6, y7] ∧ Lay Hs H2 d c (row1 t' (g.take j) (lay1 (Lr.take i) g (F, []))) ∧ Lay H' H2 d c (row1 t' (g.take j) (lay1 (Lr.take i) g (F, [])))) ⟨_, _, rfl, L, ?_⟩ (fun j σ H2 _ h o ho => ?_) (fun j x σ H2 hx2 h => ?_) (fun σ H2 h => ?_)
          · exact ⟨fun b o _ _ h => h, L.dict, L.list⟩
          · obtain ⟨_, _, _, _, L2⟩ := h
            exact L2.keep _ _ hld hlc ho
          · obtain ⟨y6, y7, rfl, L2, L3⟩ := h
            obtain ⟨oa, hoa, rfl⟩ := rs_get hx2
            obtain ⟨o', ho', hO'⟩ := hgs.get hoa
            have hom : o' ∈ g := List.mem_of_getElem? ho'
            have pt := lP t' htm
            have po := gP o' hom
            have hta2 := L2.ta exd exc hT'
            have hoa2 := L2.ta exd exc hO'
            refine ⟨.ref ta, rfl, .ref oa, rfl, ta, oa, t', o', rfl, hta2, hoa2, by rw [pt.len]; omega, fun x hx => by rw [po.len]; exact pt.lt x hx, fun H3 p sm3 np hp => ?_⟩
            have L2' := L2.grow sm3
            have L3' := L3.grow sm3
            obtain ⟨cs, hc3, hcs⟩ := L2'.list
            have Mr : Mid n g W F (row1 t' (g.take j) (lay1 (Lr.take i) g (F, []))) := by
              refine Mid.row B.step (hB.inW t' (hB.sub t' htm)) (hB.clo t' (hB.sub t' htm)) _ _ (fun o ho => List.mem_of_mem_take ho) (Mid.lay B.step _ _ (fun u hu => ?_) M0)
              have hum := List.mem_of_mem_take hu
              exact ⟨hB.inW u (hB.sub u hum), hB.clo u (hB.sub u hum)⟩
            have hfl : (row1 t' (g.take j) (lay1 (Lr.take i) g (F, []))).1.length ≤ 60 := Nat.le_trans (pigeon _ _ Mr.nd Mr.inW) B.len
            have hfl2 : (row1 t' (g.take j) (lay1 (Lr.take i) g (F, []))).2.length ≤ 60 := by have := Mr.len; omega
            refine ⟨.ref p, rfl, .ref d, rfl, d, _, rfl, DGet.t L2'.dict hp.key, _, rfl, ?_⟩
            by_cases hm : beh t' o' ∈ (row1 t' (g.take j) (lay1 (Lr.take i) g (F, []))).1
            · rw [seen_some hm]
              refine iteF ?_
              have e : row1 t' (g.take (j + 1)) (lay1 (Lr.take i) g (F, [])) = row1 t' (g.take j) (lay1 (Lr.take i) g (F, [])) := by
                rw [row1_take ho']
                unfold addN
                rw [if_pos (List.contains_iff_mem.mpr hm)]
              refine ⟨some (.ref oa), some (.ref p), rfl, ?_, ?_⟩
              · rw [e]; exact L2'
              · rw [e]; exact L3'
            · rw [seen_none hm]
              refine iteT ?_
              refine ⟨.ref d, rfl, .ref p, rfl, d, _, rfl, DPut.t L2'.dict hp.key (by rw [seen_len]; exact few (by omega)), ?_⟩
              have hc4 : (upd H3 d (.dT (putK (seen (row1 t' (g.take j) (lay1 (Lr.take i) g (F, []))).1) (tk (beh t' o')) (.bl true)))) c = some (.lst (rs cs)) := by rw [upd_ne dc.symm]; exact hc3
              refine ⟨.ref c, rfl, .inl ⟨rfl, _, SqL.of hc4⟩, .ref p, rfl, c, rs cs, .ref p, rfl, rfl, hc4, by rw [rs_len, hcs.len]; exact few (by omega), ?_⟩
              have A2 := L2'.add hp.ta hm cs hc3 hcs dc
              have A3 := L3'.add hp.ta hm cs hc3 hcs dc
              rw [← row1_take ho'] at A2 A3
              exact ⟨some (.ref oa), some (.ref p), rfl, A2, A3⟩
          · obtain ⟨y6, y7, rfl, L2, _⟩ := h
            rw [rs_len, hgs.len, List.take_length] at L2
            rw [← lay1_take ht'] at L2
            exact ⟨_, _, _, rfl, L2⟩
        · obtain ⟨y5, y6, y7, rfl, L⟩ := h
          rw [rs_len, hlenL, List.take_length] at L
          obtain ⟨cs, hc3, hcs⟩ := L.list
          have hlen2 : (lay1 Lr g (F, [])).1.length ≤ 60 := Nat.le_trans hnext.len B.len
          refine ⟨.ref d, rfl, d, _, rfl, L.dict, _, _, rfl, rfl, _, rfl, ?_⟩
          rw [seen_len, decide_eq_false (by omega)]
          refine iteF ?_
          refine ⟨.ref c, rfl, (lay1 Lr g (F, [])).1, (lay1 Lr g (F, [])).2, c, _, _, _, _, rfl, hnext, ?_, ?_, ?_, L.dict, cs, hc3, hcs⟩
          · rw [← hLr] at hE ⊢; exact hE
          · rw [← hLr] at hF ⊢; exact hF
          · intro b o e
            have e1 := sHs _ _ e
            refine L.keep b o (fun z => ?_) (fun z => ?_) e1
            · rw [z, nd] at e; cases e
            · rw [z, sHc.free nc] at e; cases e
end
end Lk
set_option Elab.async false
set_option linter.all false
set_option maxRecDepth 100000
namespace Lk
open PySem PySem.Spec PyProof.Rows L2 GxR
/-! turns and lists of turns as data, for == -/
def dt (t : Tn) : PyData := .tuple (t.map fun x : Nat => .int (x : Int))
def dl (ts : List Tn) : PyData := .list (ts.map dt)
section
variable {K : PySem.W.Frag} {H : Hp}
theorem dpI : ∀ t : Tn, DpAll K H (tv t) (t.map fun x : Nat => .int (x : Int))
  | [] => .nil
  | x :: t => .cons (.int _) (dpI t)
theorem TA.dp {a : Addr} {t : Tn} (h : TA H a t) : Dp K H (.ref a) (dt t) := .tup (sqA h) (dpI t)
theorem TAs.dp {as : List Addr} {ts : List Tn} (h : TAs H as ts) : DpAll K H (rs as) (ts.map dt) := by
  induction h with
  | nil => exact .nil
  | cons h _ ih => exact .cons h.dp ih
theorem LA.dp {a : Addr} {ts : List Tn} (h : LA H a ts) : Dp K H (.ref a) (dl ts) := let ⟨_, h1, h2⟩ := h; .lst (SqL.of h1) h2.dp
end
theorem eqvI : ∀ t u : Tn, PyData.eqvAll (t.map fun x : Nat => .int (x : Int)) (u.map fun x : Nat => .int (x : Int)) = decide (t = u)
  | [], [] => rfl
  | [], _ :: _ => rfl
  | _ :: _, [] => rfl
  | x :: t, y :: u => by
    rw [List.map_cons, List.map_cons, PyData.eqvAll, eqvI t u, PyData.eqv]
    by_cases h1 : x = y
    · subst h1
      by_cases h2 : t = u
      · subst h2; simp
      · rw [decide_eq_false h2, decide_eq_false (fun e => h2 (List.cons.inj e).2)]; simp
    · have : ((x : Int) == y) = false := beq_eq_false_iff_ne.mpr fun e => h1 (Int.ofNat.inj e)
      rw [this, decide_eq_false (fun e => h1 (List.cons.inj e).1)]; rfl
theorem eqvT (t u : Tn) : PyData.eqv (dt t) (dt u) = decide (t = u) := by unfold dt; rw [PyData.eqv]; exact eqvI t u
theorem eqvTs : ∀ ts us : List Tn, PyData.eqvAll (ts.map dt) (us.map dt) = decide (ts = us)
  | [], [] => rfl
  | [], _ :: _ => rfl
  | _ :: _, [] => rfl
  | x :: t, y :: u => by
    rw [List.map_cons, List.map_cons, PyData.eqvAll, eqvTs t u, eqvT]
    by_cases h1 : x = y
    · subst h1
      by_cases h2 : t = u
      · subst h2; simp
      · rw [decide_eq_false h2, decide_eq_false (fun e => h2 (List.cons.inj e).2)]; simp
    · rw [decide_eq_false h1, decide_eq_false (fun e => h1 (List.cons.inj e).1)]; rfl
theorem eqvL (ts us : List Tn) : PyData.eqv (dl ts) (dl us) = decide (ts = us) := by unfold dl; rw [PyData.eqv]; exact eqvTs ts us
theorem canI : ∀ t : Tn, PyData.canLayAll0 (t.map fun x : Nat => .int (x : Int)) = true
  | [] => rfl
  | x :: t => by rw [List.map_cons, PyData.canLayAll0, canI t]; rfl
theorem depI : ∀ t : Tn, PyData.depthAll (t.map fun x : Nat => .int (x : Int)) = 0
  | [] => rfl
  | x :: t => by rw [List.map_cons, PyData.depthAll, depI t]; rfl
theorem canD (t : Tn) : PyData.canLay0 (dt t) = true ∧ PyData.depth (dt t) = 1 := by
  unfold dt
  rw [PyData.canLay0, canI, PyData.depth, depI]
  exact ⟨rfl, rfl⟩
theorem canTs : ∀ ts : List Tn, PyData.canLayAll0 (ts.map dt) = true ∧ PyData.depthAll (ts.map dt) ≤ 1
  | [] => ⟨rfl, Nat.zero_le _⟩
  | t :: ts => by
    obtain ⟨h1, h2⟩ := canTs ts
    obtain ⟨h3, h4⟩ := canD t
    rw [List.map_cons, PyData.canLayAll0, PyData.depthAll, h1, h3, h4]
    exact ⟨rfl, by omega⟩
theorem shT (t : Tn) : SeqAt.shaped (dt t) = true := by
  unfold SeqAt.shaped dt
  rw [PyData.canLay0, canI, PyData.depth, depI]
  rfl
theorem shL (ts : List Tn) : SeqAt.shaped (dl ts) = true := by
  obtain ⟨h1, h2⟩ := canTs ts
  unfold SeqAt.shaped dl
  rw [PyData.canLay0, h1, PyData.depth, decide_eq_true (by omega)]
  rfl
/-! sorted(set(a list of turns)) -/
theorem tas_ks {H : Hp} {as : List Addr} {ts : List Tn} (h : TAs H as ts) : ∃ ks : List (Addr × List Int), (ks.map fun p => V.ref p.1) = rs as ∧ ks.map (·.2) = ts.map ti ∧ ∀ p ∈ ks, ∃ t, p.2 = ti t ∧ TA H p.1 t := by
  induction h with
  | nil => exact ⟨[], rfl, rfl, fun p hp => absurd hp List.not_mem_nil⟩
  | @cons a t as ts h _ ih =>
    obtain ⟨ks, h1, h2, h3⟩ := ih
    refine ⟨(a, ti t) :: ks, by rw [List.map_cons, h1]; rfl, by rw [List.map_cons, h2]; rfl, fun p hp => ?_⟩
    rcases List.mem_cons.mp hp with z | z
    · rw [z]; exact ⟨t, rfl, h⟩
    · exact h3 p z
theorem ksq {K : PySem.W.Frag} {H : Hp} {p : Addr × List Int} (h : ∃ t, p.2 = ti t ∧ TA H p.1 t) : SqT K H p.1 (p.2.map V.int) := by
  obtain ⟨t, e, h⟩ := h
  rw [e, ti_tv]
  exact h.sq
theorem ksame {H H' : Hp} {p : Addr × List Int} (s : Same H H') (h : ∃ t, p.2 = ti t ∧ TA H p.1 t) : ∃ t, p.2 = ti t ∧ TA H' p.1 t := let ⟨t, e, h⟩ := h; ⟨t, e, h.same s⟩
theorem read_setsort {K : PySem.W.Frag} {P : Program} {w : World} {H : Hp} {l : Addr} {as : List Addr} {ts W : List Tn} {n : Nat} {Q : VK} (hl : H l = some (.lst (rs as))) (hT : TAs H as ts) (hP : AllP n ts) (hn1 : 1 ≤ n) (hn : n ≤ 16) (hW : Sub ts W) (hlen : W.length ≤ 60)
    (q : Ret H Q fun H' p => LA H' p (setS ts)) : rSetF K P w [.ref l] H fun x H1 => rSortedT K P w [x] H1 Q := by
  obtain ⟨ks, h1, h2, h3⟩ := tas_ks hT
  refine ⟨l, ks, rfl, by rw [h1]; exact SqL.of hl, fun p hp => ksq (h3 p hp), fun L hd hs => ?_, fun a L na hL1 hL2 => ?_⟩
  · have := pigeon (L.map (·.2)) (W.map ti) hd fun x hx => by
      obtain ⟨p, hp, e⟩ := List.mem_map.mp hx
      have hm : x ∈ ks.map (·.2) := List.mem_map.mpr ⟨p, hs p hp, e⟩
      rw [h2] at hm
      obtain ⟨t, ht, e2⟩ := List.mem_map.mp hm
      exact List.mem_map.mpr ⟨t, hW t ht, e2⟩
    rw [List.length_map, List.length_map] at this
    omega
  · have sU := same_upd (o := SetTO P w a L) na
    have inL : ∀ p ∈ L, ∃ t ∈ ts, p.2 = ti t := fun p hp => by
      have hm : p.2 ∈ ks.map (·.2) := List.mem_map.mpr ⟨p, hL1 p hp, rfl⟩
      rw [h2] at hm
      obtain ⟨t, ht, e⟩ := List.mem_map.mp hm
      exact ⟨t, ht, e.symm⟩
    refine ⟨a, L, n, 16, rfl, upd_same, fun p hp => ksq (ksame sU (h3 p (hL1 p hp))), hn1, fun p hp => ?_, fun L' p hp hd hlen' hpw np => ?_⟩
    · obtain ⟨t, ht, e⟩ := inL p hp
      rw [e]; exact ti_bd hn (hP t ht)
    · -- the unlike turns of L
      obtain ⟨F, hF⟩ : ∃ F : List Tn, L'.map (·.2) = F.map ti := by
        have key : ∀ M : List (Addr × List Int), (∀ p ∈ M, p ∈ L) → ∃ F : List Tn, M.map (·.2) = F.map ti := by
          intro M
          induction M with
          | nil => exact fun _ => ⟨[], rfl⟩
          | cons p M ih =>
            intro hM
            obtain ⟨F, hF⟩ := ih fun x hx => hM x (List.mem_cons_of_mem _ hx)
            obtain ⟨t, _, e⟩ := inL p (hM p List.mem_cons_self)
            exact ⟨t :: F, by rw [List.map_cons, hF, e]; rfl⟩
        exact key L' fun p hp' => hp.mem_iff.mp hp'
      have hmem : ∀ t, t ∈ F ↔ t ∈ ts := fun t => by
        constructor
        · intro ht
          have hm : ti t ∈ L'.map (·.2) := by rw [hF]; exact List.mem_map.mpr ⟨t, ht, rfl⟩
          obtain ⟨p, hp', e⟩ := List.mem_map.mp hm
          obtain ⟨u, hu, e2⟩ := inL p (hp.mem_iff.mp hp')
          rw [← ti_inj (e2.symm.trans e)]; exact hu
        · intro ht
          have hm : ti t ∈ ks.map (·.2) := by rw [h2]; exact List.mem_map.mpr ⟨t, ht, rfl⟩
          obtain ⟨p, hp', e⟩ := List.mem_map.mp hm
          have hm2 := hL2 p hp'
          obtain ⟨r, hr, e2⟩ := List.mem_map.mp hm2
          have hm3 : ti t ∈ L'.map (·.2) := List.mem_map.mpr ⟨r, hp.mem_iff.mpr hr, e2.trans e⟩
          rw [hF] at hm3
          obtain ⟨u, hu, e3⟩ := List.mem_map.mp hm3
          rw [← ti_inj e3]; exact hu
      have hFP : AllP n F := fun t ht => hP t ((hmem t).mp ht)
      have hFd : F.Nodup := by
        rw [hF] at hd
        exact List.Pairwise.of_map ti (fun _ _ hne e => hne (congrArg ti e)) hd
      obtain ⟨e1, e2⟩ := sorted_turns (H := upd H a (SetTO P w a L)) hn hFP hFd L' (by rw [hF]) hpw fun r hr u eu => by
        obtain ⟨t, e, h⟩ := h3 r (hL1 r (hp.mem_iff.mp hr))
        rw [ti_inj (eu.symm.trans e)]
        exact h.same sU
      have es : setS F = setS ts := setS_congr hn hFP hP hmem
      refine q _ p (fun b o e => same_upd np _ _ (sU _ _ e)) (sU.free np) ?_
      rw [← es]
      exact ⟨L'.map (·.1), by rw [upd_same, e1], e2.same (same_upd np)⟩
/-! a comprehension's inner loop over a list -/
theorem lc_in {K : PySem.W.Frag} {a : Addr} {xs : List V} {g : TG} {tt : TT} {te : TE} {vs : List Nat} {σ : L2.St} {H1 : Hp} {D : Addr} {Nx : Hp → Prop} (Pv : Nat → Hp → Prop) (h0 : Pv 0 H1) (hl : ∀ i H, i ≤ xs.length → Pv i H → SqL K H a xs)
    (hs : ∀ i x H, xs[i]? = some x → Pv i H → g x (wipe σ vs) H fun σ2 H2 => wipe σ2 vs = wipe σ vs ∧ tt σ2 H2 fun b H3 =>
      if b = true then te σ2 H3 fun y H4 => ∃ acc, H4 D = some (.lst acc) ∧ acc.length < sizeLine ∧ Pv (i + 1) (upd H4 D (.lst (acc ++ [y]))) else Pv (i + 1) H3) (hd : ∀ H, Pv xs.length H → Nx H) :
    ∃ W : Nat → Nat → Hp → Prop, (∃ m, W 0 m H1) ∧ ∀ i m H, W i m H →
      ((Itl K a).stop i H ∧ Nx H) ∨ ((Itl K a).go i H ∧ ∃ N1 : Hp → Prop, (∀ H', N1 H' → ∃ m', m' < m ∧ W (i + 1) m' H') ∧ ∀ x H', (Itl K a).yld i H x H' → g x (wipe σ vs) H' fun σ2 H2 => wipe σ2 vs = wipe σ vs ∧ tt σ2 H2 fun b H3 =>
        if b = true then te σ2 H3 fun y H4 => ∃ acc, H4 D = some (.lst acc) ∧ acc.length < sizeLine ∧ N1 (upd H4 D (.lst (acc ++ [y]))) else N1 H3) := by
  refine ⟨fun i m H => m = xs.length - i ∧ i ≤ xs.length ∧ Pv i H, ⟨xs.length, by omega, Nat.zero_le _, h0⟩, ?_⟩
  rintro i m H ⟨rfl, hle, p⟩
  have q := hl i H hle p
  rcases Nat.lt_or_eq_of_le hle with hlt | rfl
  · refine .inr ⟨⟨xs, xs[i], q, List.getElem?_eq_getElem hlt⟩, Pv (i + 1), fun H' p' => ⟨xs.length - (i + 1), by omega, rfl, hlt, p'⟩, fun x H' y => ?_⟩
    obtain ⟨rfl, hx⟩ := y
    exact hs i x _ (hx xs q) p
  · exact .inl ⟨⟨xs, q, Nat.le_refl _⟩, hd H p⟩
end Lk
set_option Elab.async false
set_option linter.all false
set_option maxRecDepth 100000
namespace Lk
open PySem PySem.Spec PyProof.Rows L2 GxR
abbrev sSwaps : Stmt := topS 24
abbrev sLower : Stmt := topS 25
abbrev sPrime : Stmt := topS 26
theorem scSwaps : FnScope ["places", "one", "other", "left", "right"] ["places", "one", "other"] (defScope sSwaps) := ⟨rfl, rfl, rfl, by decide +kernel, rfl, by decide +kernel, by decide +kernel⟩
theorem scLower : FnScope ["lock", "whole", "found", "later"] ["lock"] (defScope sLower) := ⟨rfl, rfl, rfl, by decide +kernel, rfl, by decide +kernel, by decide +kernel⟩
theorem scPrime : FnScope ["lock", "many", "prime"] ["lock"] (defScope sPrime) := ⟨rfl, rfl, rfl, by decide +kernel, rfl, by decide +kernel, by decide +kernel⟩
/-- a comprehension's loop over a list, whatever a turn does -/
theorem lc_loop {K : PySem.W.Frag} {a : Addr} {xs : List V} {g : TG} {tt : TT} {body : Bool → L2.St → Hp → (Hp → Prop) → Prop} {vs : List Nat} {σ : L2.St} {H1 : Hp} {Nx : Hp → Prop} (Pv : Nat → Hp → Prop) (h0 : Pv 0 H1) (hl : ∀ i H, i ≤ xs.length → Pv i H → SqL K H a xs)
    (hs : ∀ i x H, xs[i]? = some x → Pv i H → g x (wipe σ vs) H fun σ2 H2 => wipe σ2 vs = wipe σ vs ∧ tt σ2 H2 fun b H3 => body b σ2 H3 (Pv (i + 1))) (hd : ∀ H, Pv xs.length H → Nx H) :
    ∃ W : Nat → Nat → Hp → Prop, (∃ m, W 0 m H1) ∧ ∀ i m H, W i m H →
      ((Itl K a).stop i H ∧ Nx H) ∨ ((Itl K a).go i H ∧ ∃ N1 : Hp → Prop, (∀ H', N1 H' → ∃ m', m' < m ∧ W (i + 1) m' H') ∧ ∀ x H', (Itl K a).yld i H x H' → g x (wipe σ vs) H' fun σ2 H2 => wipe σ2 vs = wipe σ vs ∧ tt σ2 H2 fun b H3 => body b σ2 H3 N1) := by
  refine ⟨fun i m H => m = xs.length - i ∧ i ≤ xs.length ∧ Pv i H, ⟨xs.length, by omega, Nat.zero_le _, h0⟩, ?_⟩
  rintro i m H ⟨rfl, hle, p⟩
  have q := hl i H hle p
  rcases Nat.lt_or_eq_of_le hle with hlt | rfl
  · refine .inr ⟨⟨xs, xs[i], q, List.getElem?_eq_getElem hlt⟩, Pv (i + 1), fun H' p' => ⟨xs.length - (i + 1), by omega, rfl, hlt, p'⟩, fun x H' y => ?_⟩
    obtain ⟨rfl, hx⟩ := y
    exact hs i x _ (hx xs q) p
  · exact .inl ⟨⟨xs, q, Nat.le_refl _⟩, hd H p⟩
/-- a lock of n places: a tuple of turns -/
structure LockA (H : Hp) (a : Addr) (n : Nat) (lock : List Tn) : Prop where
  at_ : UZ H a lock
  ne : lock ≠ []
  pl : AllP n lock
  n1 : 1 ≤ n
  n16 : n ≤ 16
theorem LockA.same {H H' : Hp} {a : Addr} {n : Nat} {lock : List Tn} (s : Same H H') (h : LockA H a n lock) : LockA H' a n lock := ⟨h.at_.same s, h.ne, h.pl, h.n1, h.n16⟩
theorem LockA.fst {H : Hp} {a : Addr} {n : Nat} {lock : List Tn} (h : LockA H a n lock) : ∃ as a0 t0, H a = some (.tup (rs as)) ∧ TAs H as lock ∧ atI (rs as) 0 = some (.ref a0) ∧ TA H a0 t0 ∧ t0.length = n := by
  obtain ⟨as, h1, h2⟩ := h.at_.ua
  cases h2 with
  | nil => exact absurd rfl h.ne
  | @cons a0 t0 as' ts h3 h4 => exact ⟨a0 :: as', a0, t0, h1, .cons h3 h4, atI_nat (j := 0) rfl, h3, (h.pl t0 List.mem_cons_self).len⟩
section
variable {P : Program} {w : World} {K : PySem.W.Frag} {mg : Str → Option Value} {base : Heap}
def spTurns : Sp := fun vs H Q _ => ∃ (a : Addr) (n : Nat) (lock W : List Tn), vs = [.ref a] ∧ LockA H a n lock ∧ Box n lock W ∧ Ret H Q fun H' p => LA H' p (spn n lock)
theorem ok_turns {f : Addr} {fd : FuncData} {k : Nat} (F : Fun K "turns_of" "turns_of" sTurns f fd) (cP : Cal P w K mg base k "spanned" spSpan) (ml : mg "len" = none) : FnOk P w K mg base CX0 (k + 1) f fd ["lock"] spTurns := by
  refine F.ok scTurns (fun vs H Q E h => ?_) (fun cdv A outer s H vs Q E hr h => ?_)
  · obtain ⟨a, n, lock, W, rfl, _⟩ := h
    rfl
  · obtain ⟨a, n, lock, W, rfl, hL, B, q⟩ := h
    obtain ⟨as, a0, t0, ha, hT, h0, hA0, hl0⟩ := hL.fst
    refine ⟨_, pss_one (ps_ret (pe_c cP hr (Nat.le_refl _) (by rfl) (pa_cons (pe_callB call_len_seq (by rfl) ml PySem.boot_len (pa_cons (pe_ix ix_tup (pv 0) pe_int (fun _ _ => rfl)) pa_nil)) (pa_cons (pv 0) pa_nil)))), ?_⟩
    refine ⟨.ref a, rfl, a, rs as, 0, .ref a0, rfl, rfl, SqT.of ha, h0, a0, tv t0, rfl, .inr (sqA hA0), .ref a, rfl, n, a, lock, W, ?_, .inr hL.at_.ua, hL.pl, hL.n1, hL.n16, B, q⟩
    rw [tv_len, hl0]
    rfl
def spSwaps : Sp := fun vs H Q _ => ∃ (n : Nat) (a b : Addr) (one other W : List Tn), vs = [nv n, .ref a, .ref b] ∧ LA H a one ∧ LA H b other ∧ Sub one W ∧ Sub other W ∧ one.length ≤ 60 ∧ other.length ≤ 60 ∧ Grp n W ∧ 1 ≤ n ∧ n ≤ 16 ∧ Ret H Q fun H' p => LA H' p (spn n (swS one other))
theorem ok_swaps {f : Addr} {fd : FuncData} {k : Nat} (F : Fun K "swaps_between" "swaps_between" sSwaps f fd) (cP : Cal P w K mg base k "spanned" spSpan) (cW : Cal P w K mg base k "swap_of" spSwap) (ms : mg "sorted" = none) (me : mg "set" = none) :
    FnOk P w K mg base CX0 (k + 1) f fd ["places", "one", "other"] spSwaps := by
  refine F.ok scSwaps (fun vs H Q E h => ?_) (fun cdv A outer s H vs Q E hr h => ?_)
  · obtain ⟨n, a, b, one, other, W, rfl, _⟩ := h
    rfl
  · obtain ⟨n, a, b, one, other, W, rfl, hA, hB, sA, sB, lA, lB, G, hn1, hn, q⟩ := h
    have hu : A.units + 3 + 64 < cLine := by have := hr.un; have e : (A.deeper (envOfC "swaps_between" (defScope sSwaps) s.heap.objs.size f cdv)).units = A.units + 3 := rfl; omega
    obtain ⟨as, hla, hTa⟩ := hA
    obtain ⟨bs, hlb, hTb⟩ := hB
    refine ⟨_, pss_one (ps_ret (pe_c cP hr (Nat.le_refl _) (by rfl) (pa_cons (pv 0) (pa_cons (pe_callB (cr_sortedT rfl) (by rfl) ms (by decide +kernel) (pa_cons (pe_callTy (cr_setF rfl hu) (by rfl) me PyProof.Rows.boot_set (pa_cons
      (pe_lc2 (own := [("left", 3), ("right", 4)]) (vs1 := [4]) (g := gName 3) (g1 := gName 4) (tt := tYes) (tt1 := tYes) (wi1 := iList K (tVar 2)) (te := tCall spSwap [] E0 (tCons (tVar 3) (tCons (tVar 4) tNil))) rfl scSwaps.nd (pi_list (pv 1))
        (blkOk_by (N := ["places", "one", "other", "left", "right"]) (sc := defScope sSwaps) (by decide +kernel)) (by decide)
        (fun _ _ _ _ _ => pg_name (i := 3) scSwaps.nd rfl (Or.inl rfl)) (fun _ _ _ _ _ => pts_nil) (fun _ _ _ _ _ => pi_list (pv 2)) (fun _ _ _ _ _ => pg_name (i := 4) scSwaps.nd rfl (Or.inl rfl)) (fun _ _ _ _ _ => pts_nil)
        (fun _ _ _ _ _ => pe_c cW hr (Nat.le_refl _) (by rfl) (pa_cons (pv 3) (pa_cons (pv 4) pa_nil)))) pa_nil)) pa_nil)) pa_nil)))), ?_⟩
    refine ⟨nv n, rfl, .ref a, rfl, a, rfl, ⟨_, SqL.of hla⟩, fun D nD => ?_⟩
    have pA := G.allP sA
    have pB := G.allP sB
    obtain ⟨hswP, hswS, _⟩ := swS_sub hn G sA sB
    -- the pairs' commutators so far
    refine lc_loop (xs := rs as) (fun i H' => Same H H' ∧ ∃ cs, H' D = some (.lst (rs cs)) ∧ TAs H' cs ((one.take i).flatMap fun l => other.map fun r => swp l r)) ⟨same_upd nD, [], upd_same, .nil⟩ (fun i H' _ h => SqL.of (h.1 _ _ hla)) (fun i x H' hx h => ?_) (fun H' h => ?_)
    · obtain ⟨sm, cs, hD, hcs⟩ := h
      obtain ⟨ta, hta, rfl⟩ := rs_get hx
      obtain ⟨t, ht, hT⟩ := hTa.get hta
      have htm : t ∈ one := List.mem_of_getElem? ht
      have hlen1 : cs.length ≤ 3600 := by
        have e := hcs.len
        rw [List.length_flatMap, List.map_congr_left (g := fun _ => other.length) (fun _ _ => List.length_map _)] at e
        have e2 : ((one.take i).map fun _ => other.length).sum = (one.take i).length * other.length := by
          rw [List.map_const', List.sum_replicate_nat]
        rw [e2, List.length_take] at e
        have : min i one.length * other.length ≤ 60 * 60 := Nat.mul_le_mul (by omega) lB
        omega
      refine ⟨rfl, ?_⟩
      refine ⟨.ref b, rfl, b, rfl, ⟨_, SqL.of (sm _ _ hlb)⟩, lc_loop (xs := rs bs) (fun j H2 => Same H H2 ∧ ∃ ds, H2 D = some (.lst (rs (cs ++ ds))) ∧ TAs H2 (cs ++ ds) (((one.take i).flatMap fun l => other.map fun r => swp l r) ++ (other.take j).map fun r => swp t r)) ⟨sm, [], by rw [List.append_nil]; exact hD, by rw [List.append_nil]; simpa using hcs⟩ (fun j H2 _ h => SqL.of (h.1 _ _ hlb)) (fun j x H2 hx2 h => ?_) (fun H2 h => ?_)⟩
      · obtain ⟨sm2, ds, hD2, hds⟩ := h
        obtain ⟨tb, htb, rfl⟩ := rs_get hx2
        obtain ⟨u, hu', hU⟩ := hTb.get htb
        have hum : u ∈ other := List.mem_of_getElem? hu'
        have hj := get_lt hu'
        refine ⟨rfl, ?_⟩
        refine ⟨.ref ta, rfl, .ref tb, rfl, ta, tb, t, u, n, rfl, hT.same sm2, hU.same sm2, pA t htm, pB u hum, by omega, fun H3 p sm3 np hp => ?_⟩
        have hD3 := sm3 _ _ hD2
        refine ⟨_, hD3, ?_, same_put (sm2.trans sm3) nD, ds ++ [p], ?_, ?_⟩
        · have e := hds.len
          have e9 := hcs.len
          simp only [List.length_append, List.length_map, List.length_take] at e
          rw [rs_len, List.length_append]
          exact Nat.lt_of_lt_of_le (show cs.length + ds.length < 4000 by omega) (by rw [sizeLine_eq]; decide)
        · rw [upd_same, rs_snoc, List.append_assoc]
        · rw [take_succ hu', List.map_append, ← List.append_assoc, ← List.append_assoc]
          exact ((hds.same sm3).put hD3 fun _ z => by cases z).snoc (hp.ta.put hD3 fun _ z => by cases z)
      · obtain ⟨sm2, ds, hD2, hds⟩ := h
        rw [rs_len, hTb.len, List.take_length] at hds
        refine ⟨sm2, _, hD2, ?_⟩
        rw [take_succ ht, List.flatMap_append]
        simpa using hds
    · obtain ⟨sm, cs, hD, hcs⟩ := h
      rw [rs_len, hTa.len, List.take_length] at hcs
      have key : rSetF K P w [.ref D] H' fun x H1 => rSortedT K P w [x] H1 fun y H2 => spSpan [nv n, y] H2 Q E0 :=
        read_setsort hD hcs hswP hn1 hn (fun t ht => hswS t ((mem_setS hn hswP t).mpr ht)) G.few fun H2 p sm2 np hp =>
          ⟨n, p, swS one other, W, rfl, .inl hp, G.allP hswS, hn1, hn, G.box hswS, fun H3 p3 sm3 np3 hp3 => q H3 p3 ((sm.trans sm2).trans sm3) ((sm.trans sm2).free np3) hp3⟩
      exact key
end
end Lk
set_option Elab.async false
set_option linter.all false
set_option maxRecDepth 100000
namespace Lk
open PySem PySem.Spec PyProof.Rows L2 GxR
/-! lists of lists of turns -/
inductive LAs (H : Hp) : List Addr → List (List Tn) → Prop
  | nil : LAs H [] []
  | cons {a : Addr} {ts : List Tn} {as : List Addr} {tss : List (List Tn)} : LA H a ts → LAs H as tss → LAs H (a :: as) (ts :: tss)
def LLA (H : Hp) (a : Addr) (tss : List (List Tn)) : Prop := ∃ as, H a = some (.lst (rs as)) ∧ LAs H as tss
section
variable {H H' : Hp} {a b x : Addr} {as bs : List Addr} {ts : List Tn} {tss uss : List (List Tn)} {o o' : HO}
theorem LAs.same (s : Same H H') (h : LAs H as tss) : LAs H' as tss := by
  induction h with
  | nil => exact .nil
  | cons h _ ih => exact .cons (h.same s) ih
theorem LLA.same (s : Same H H') (h : LLA H a tss) : LLA H' a tss := let ⟨as, h1, h2⟩ := h; ⟨as, s _ _ h1, h2.same s⟩
theorem LAs.len (h : LAs H as tss) : as.length = tss.length := by
  induction h with
  | nil => rfl
  | cons _ _ ih => rw [List.length_cons, List.length_cons, ih]
theorem LAs.get (h : LAs H as tss) {i : Nat} (ha : as[i]? = some a) : ∃ ts, tss[i]? = some ts ∧ LA H a ts := by
  induction h generalizing i with
  | nil => simp at ha
  | cons h _ ih =>
    cases i with
    | zero => simp at ha; subst ha; exact ⟨_, rfl, h⟩
    | succ i => exact ih (by simpa using ha)
theorem LAs.append (h : LAs H as tss) (h' : LAs H bs uss) : LAs H (as ++ bs) (tss ++ uss) := by
  induction h with
  | nil => exact h'
  | cons h _ ih => exact .cons h ih
theorem LAs.snoc (h : LAs H as tss) (h' : LA H a ts) : LAs H (as ++ [a]) (tss ++ [ts]) := h.append (.cons h' .nil)
theorem LA.put (h : LA H a ts) (hx : H x = some o) (no : Unit → ¬ IsTp o) (ne : a ≠ x) : LA (upd H x o') a ts :=
  let ⟨as, h1, h2⟩ := h
  ⟨as, by rw [upd_ne ne]; exact h1, h2.put hx no⟩
theorem LAs.put (h : LAs H as tss) (hx : H x = some o) (no : Unit → ¬ IsTp o) (ne : ∀ a ∈ as, a ≠ x) : LAs (upd H x o') as tss := by
  induction h with
  | nil => exact .nil
  | cons h _ ih => exact .cons (h.put hx no (ne _ List.mem_cons_self)) (ih fun a ha => ne a (List.mem_cons_of_mem _ ha))
theorem TAs.get_last {t : Tn} (h : TAs H as (tss0 ++ [t])) : ∃ bs b, as = bs ++ [b] ∧ TA H b t := by
  have e := h.len
  have hne : as ≠ [] := fun z => by rw [z] at e; simp at e
  refine ⟨as.dropLast, as.getLast hne, (List.dropLast_concat_getLast hne).symm, ?_⟩
  have hi : as[as.length - 1]? = some (as.getLast hne) := by rw [List.getLast_eq_getElem, List.getElem?_eq_getElem]
  obtain ⟨u, hu, hT⟩ := h.get hi
  rw [e, List.length_append, List.length_singleton, Nat.add_sub_cancel, List.getElem?_append_right (Nat.le_refl _), Nat.sub_self] at hu
  rw [show u = t from (Option.some.inj hu).symm] at hT
  exact hT
theorem LAs.get_last {pre : List (List Tn)} (h : LAs H as (pre ++ [ts])) : ∃ bs b, as = bs ++ [b] ∧ LA H b ts := by
  have e := h.len
  have hne : as ≠ [] := fun z => by rw [z] at e; simp at e
  refine ⟨as.dropLast, as.getLast hne, (List.dropLast_concat_getLast hne).symm, ?_⟩
  have hi : as[as.length - 1]? = some (as.getLast hne) := by rw [List.getLast_eq_getElem, List.getElem?_eq_getElem]
  obtain ⟨u, hu, hT⟩ := h.get hi
  rw [e, List.length_append, List.length_singleton, Nat.add_sub_cancel, List.getElem?_append_right (Nat.le_refl _), Nat.sub_self] at hu
  rw [show u = ts from (Option.some.inj hu).symm] at hT
  exact hT
theorem rs_last (bs : List Addr) (b : Addr) : atI (rs (bs ++ [b])) (-1) = some (.ref b) := by rw [← rs_snoc]; exact atI_last _ _
end
theorem sub_len {l W : List Tn} (hs : Sub l W) (hd : Srt l) : l.length ≤ W.length := pigeon l W hd.nodup hs
section
variable {P : Program} {w : World} {K : PySem.W.Frag} {mg : Str → Option Value} {base : Heap}
def spLower : Sp := fun vs H Q _ => ∃ (a : Addr) (n : Nat) (lock W : List Tn), vs = [.ref a] ∧ LockA H a n lock ∧ Grp n W ∧ Sub lock W ∧ spn n lock = W ∧ Ret H Q fun H' p => LLA H' p (lower n W)
theorem ok_lower {f : Addr} {fd : FuncData} {k : Nat} (F : Fun K "lower_of" "lower_of" sLower f fd) (cT : Cal P w K mg base k "turns_of" spTurns) (cW : Cal P w K mg base k "swaps_between" spSwaps) (ml : mg "len" = none) : FnOk P w K mg base CX0 (k + 1) f fd ["lock"] spLower := by
  refine F.ok scLower (fun vs H Q E h => ?_) (fun cdv A outer s H vs Q E hr h => ?_)
  · obtain ⟨a, n, lock, W, rfl, _⟩ := h
    rfl
  · obtain ⟨a, n, lock, W, rfl, hL, G, hs, hW, q⟩ := h
    have hu : A.units + 3 + 64 < cLine := by have := hr.un; have e : (A.deeper (envOfC "lower_of" (defScope sLower) s.heap.objs.size f cdv)).units = A.units + 3 := rfl; omega
    obtain ⟨ps, a0, t0, ha, hT, h0, hA0, hl0⟩ := hL.fst
    refine ⟨_, pss_cons (ps_set (i := 1) scLower.nd rfl (.inl rfl) (pe_c cT hr (Nat.le_refl _) (by rfl) (pa_cons (pv 0) pa_nil)))
      (pss_cons (ps_set (i := 2) scLower.nd rfl (.inl rfl) (pe_lst (pa_cons (pv 1) pa_nil)))
      (pss_one (ps_while PassesOwn.never (pt_val pe_bl)
        (pss_cons (ps_set (i := 3) scLower.nd rfl (.inl rfl) (pe_c cW hr (Nat.le_refl _) (by rfl) (pa_cons (pe_callB call_len_seq (by rfl) ml PySem.boot_len (pa_cons (pe_ix ix_tup (pv 0) pe_int (fun _ _ => rfl)) pa_nil)) (pa_cons (pe_ix ix_list (pv 2) (pe_un un_neg pe_int) (fun _ _ => rfl)) (pa_cons (pv 1) pa_nil)))))
        (pss_cons (ps_if (pt_cmpR (op_eqD hu) (pv 3) (pe_ix ix_list (pv 2) (pe_un un_neg pe_int) (fun _ _ => rfl)) (nomark _)) (pss_one (ps_ret (pv 2))) pss_nil)
        (pss_one (ps_expr (pe_bm PySem.F.plainAttrs_list PySem.F.slot_list_append PySem.F.type_list_append mt_append (pv 2) (pa_cons (pv 3) pa_nil))))))))), ?_⟩
    refine ⟨.ref a, rfl, a, n, lock, W, rfl, hL, G.box hs, fun H1 p1 s1 np1 hp1 => ?_⟩
    rw [hW] at hp1
    refine ⟨.ref p1, rfl, fewe (by simp), fun fa nfa => ?_⟩
    have sA := same_put (o := .lst [.ref p1]) s1 (s1.free nfa)
    have hp1' := hp1.same (same_upd (o := .lst [.ref p1]) nfa)
    have p1fa : p1 ≠ fa := fun e => by
      obtain ⟨_, z, _⟩ := hp1
      rw [e, nfa] at z
      cases z
    refine ⟨fun m σ Hc => ∃ (pre : List (List Tn)) (last : List Tn) (fs : List Addr) (y3 : Option V), σ = [some (.ref a), some (.ref p1), some (.ref fa), y3] ∧ lower n W = pre ++ [last] ++ low n W m last ∧ lowE n W m last ∧ Sub last W ∧ Srt last ∧ Same H Hc ∧ LA Hc p1 W ∧ Hc fa = some (.lst (rs fs)) ∧ LAs Hc fs (pre ++ [last]) ∧ (∀ b ∈ fs, b ≠ fa),
      ⟨64, [], W, [p1], none, rfl, rfl, lowE_all hL.n16 G, fun t h => h, G.srt, sA, hp1', upd_same, .cons hp1' .nil, fun b hb => by rw [List.mem_singleton.mp hb]; exact p1fa⟩, fun m σ Hc hWh => ?_⟩
    obtain ⟨pre, last, fs, y3, rfl, eL, hE, hls, hlsrt, sc, hp1c, hfc, hfs, hne⟩ := hWh
    have hl60 : last.length ≤ 60 := Nat.le_trans (sub_len hls hlsrt) G.few
    have hpl : (pre ++ [last]).length ≤ 65 := by
      have h1 : (lower n W).length ≤ 65 := by
        show (low n W 64 W).length + 1 ≤ 65
        have := low_len (n := n) (W := W) 64 W
        omega
      rw [eL] at h1
      rw [List.length_append] at h1
      omega
    obtain ⟨bs, b, rfl, hb⟩ := hfs.get_last
    refine ⟨true, rfl, iteT ?_⟩
    cases m with
    | zero => exact hE.elim
    | succ m =>
      refine ⟨fun σ Hc => ∃ (pre : List (List Tn)) (last : List Tn) (fs : List Addr) (y3 : Option V), σ = [some (.ref a), some (.ref p1), some (.ref fa), y3] ∧ lower n W = pre ++ [last] ++ low n W m last ∧ lowE n W m last ∧ Sub last W ∧ Srt last ∧ Same H Hc ∧ LA Hc p1 W ∧ Hc fa = some (.lst (rs fs)) ∧ LAs Hc fs (pre ++ [last]) ∧ (∀ b ∈ fs, b ≠ fa),
        fun σ' H' h' => ⟨m, Nat.lt_succ_self _, h'⟩, ?_⟩
      refine ⟨.ref a, rfl, a, rs ps, 0, .ref a0, rfl, rfl, SqT.of (sc _ _ ha), h0, a0, tv t0, rfl, .inr (sqA (hA0.same sc)), .ref fa, rfl, 1, rfl, fa, _, -1, .ref b, rfl, rfl, SqL.of hfc, rs_last bs b, .ref p1, rfl, ?_⟩
      refine ⟨n, b, p1, last, W, W, by rw [tv_len, hl0]; rfl, hb, hp1c, hls, fun t h => h, hl60, G.few, G, hL.n1, hL.n16, fun H2 p2 s2 np2 hp2 => ?_⟩
      have hfc2 := s2 _ _ hfc
      have hb2 := hb.same s2
      refine ⟨.ref p2, rfl, .ref fa, rfl, 1, rfl, fa, _, -1, .ref b, rfl, rfl, SqL.of hfc2, rs_last bs b, dl (spn n (swS last W)), dl last, hp2.dp, hb2.dp, shL _, shL _, _, rfl, ?_⟩
      rw [eqvL]
      by_cases he : spn n (swS last W) = last
      · rw [decide_eq_true he]
        refine iteT ⟨.ref fa, rfl, q H2 fa (sc.trans s2) (s1.free nfa) ⟨_, hfc2, ?_⟩⟩
        have e9 : low n W (m + 1) last = [] := by rw [low, if_pos he]
        rw [eL, e9, List.append_nil]
        exact hfs.same s2
      · rw [decide_eq_false he]
        refine iteF ?_
        have p2fa : p2 ≠ fa := fun e => by rw [e, hfc] at np2; cases np2
        refine ⟨.ref fa, rfl, .inl ⟨rfl, _, SqL.of hfc2⟩, .ref p2, rfl, fa, _, .ref p2, rfl, rfl, hfc2, ?_, ?_⟩
        · rw [rs_len, hfs.len]; exact few (by omega)
        · obtain ⟨d1, d2⟩ := low_step hL.n16 G hls
          have e9 : low n W (m + 1) last = spn n (swS last W) :: low n W m (spn n (swS last W)) := by rw [low, if_neg he]
          have p1ne : p1 ≠ fa := p1fa
          refine ⟨pre ++ [last], spn n (swS last W), bs ++ [b] ++ [p2], some (.ref p2), rfl, by rw [eL, e9]; simp, hE.elim (fun z => absurd z he) (fun z => z), d1, d2, same_put (sc.trans s2) (s1.free nfa), (hp1c.same s2).put hfc2 (fun _ z => by cases z) p1ne, by rw [upd_same, rs_snoc], ?_, ?_⟩
          · exact ((hfs.same s2).put hfc2 (fun _ z => by cases z) hne).snoc (hp2.put hfc2 (fun _ z => by cases z) p2fa)
          · intro c hc
            rcases List.mem_append.mp hc with z | z
            · exact hne c z
            · rw [List.mem_singleton.mp z]; exact p2fa
end
end Lk
set_option Elab.async false
set_option linter.all false
set_option maxRecDepth 100000
namespace Lk
open PySem PySem.Spec PyProof.Rows L2 GxR
/-! ints of the text -/
theorem fmod_nat (m d : Nat) : Int.fmod (m : Int) (d : Int) = ((m % d : Nat) : Int) := by
  rw [Int.fmod_eq_emod_of_nonneg _ (by omega)]
  exact (Int.natCast_emod m d).symm
theorem nv_eq (x y : Nat) : decide (nv x = nv y) = decide (x = y) := by
  by_cases e : x = y
  · subst e; simp
  · rw [decide_eq_false e, decide_eq_false (p := nv x = nv y) fun z => e (Int.ofNat.inj (V.int.inj z))]
theorem divW {d : Nat} (h0 : 0 < d) (h1 : d ≤ 1000) (i : Int) : CDivW i (d : Int) := by
  refine ⟨by omega, ?_⟩
  have := log2_le d
  rw [Int.natAbs_natCast]
  omega
theorem find_some {f : Nat → Bool} : ∀ (k s i : Nat), i < k → (∀ j, j < i → f (s + j) = false) → f (s + i) = true → (List.range' s k).find? f = some (s + i)
  | 0, _, _, h, _, _ => absurd h (Nat.not_lt_zero _)
  | k + 1, s, 0, _, _, h => by rw [List.range'_succ, List.find?_cons_of_pos (by simpa using h)]; rfl
  | k + 1, s, i + 1, h, hn, hp => by
    have e1 : f (s + 1 + i) = true := by rw [show s + 1 + i = s + (i + 1) by omega]; exact hp
    have e2 : ∀ j, j < i → f (s + 1 + j) = false := fun j hj => by
      have := hn (j + 1) (by omega)
      rw [show s + 1 + j = s + (j + 1) by omega]; exact this
    have ih := find_some k (s + 1) i (by omega) e2 e1
    rw [List.range'_succ, List.find?_cons_of_neg (by have := hn 0 (Nat.succ_pos _); simpa using this), ih]
    congr 1; omega
theorem find_none {f : Nat → Bool} : ∀ (k s : Nat), (∀ j, j < k → f (s + j) = false) → (List.range' s k).find? f = none
  | 0, _, _ => rfl
  | k + 1, s, hn => by
    rw [List.range'_succ, List.find?_cons_of_neg (by have := hn 0 (Nat.succ_pos _); simpa using this)]
    exact find_none k (s + 1) fun j hj => by
      have := hn (j + 1) (by omega)
      rw [show s + 1 + j = s + (j + 1) by omega]; exact this
theorem modT (m d : Nat) : decide (V.int (Int.fmod (m : Int) (d : Int)) = V.int 0) = decide (m % d = 0) := by
  rw [fmod_nat]
  exact nv_eq _ 0
/-- the value of a prime, None without one -/
def pvO : Option Nat → V
  | none => .non
  | some p => nv p
section
variable {P : Program} {w : World} {K : PySem.W.Frag} {mg : Str → Option Value} {base : Heap}
def spPrime : Sp := fun vs H Q _ => ∃ (a : Addr) (n : Nat) (lock W : List Tn), vs = [.ref a] ∧ LockA H a n lock ∧ Box n lock W ∧ spn n lock = W ∧ ∀ H', Same H H' → Q (pvO (primeF W.length)) H'
theorem ok_prime {f : Addr} {fd : FuncData} {k : Nat} (F : Fun K "prime_of" "prime_of" sPrime f fd) (cT : Cal P w K mg base k "turns_of" spTurns) (ml : mg "len" = none) (mr : mg "range" = none) : FnOk P w K mg base CX0 (k + 1) f fd ["lock"] spPrime := by
  refine F.ok scPrime (fun vs H Q E h => ?_) (fun cdv A outer s H vs Q E hr h => ?_)
  · obtain ⟨a, n, lock, W, rfl, _⟩ := h
    rfl
  · obtain ⟨a, n, lock, W, rfl, hL, B, hW, q⟩ := h
    refine ⟨_, pss_cons (ps_set (i := 1) scPrime.nd rfl (.inl rfl) (pe_callB call_len_seq (by rfl) ml PySem.boot_len (pa_cons (pe_c cT hr (Nat.le_refl _) (by rfl) (pa_cons (pv 0) pa_nil)) pa_nil)))
      (pss_cons (ps_for PassesOwn.never rfl (pi_range2 rfl mr (pa_cons pe_int (pa_cons (pe_op op_add (pv 1) pe_int) pa_nil))) (pg_name (i := 2) scPrime.nd rfl (.inl rfl))
        (pss_one (ps_if (pt_cmpR op_eq (pe_op op_modN (pv 1) (pv 2)) pe_int (nomark _))
          (pss_cons (ps_while PassesOwn.never (pt_cmpR op_eq (pe_op op_modN (pv 1) (pv 2)) pe_int (nomark _)) (pss_one (ps_aug (i := 1) scPrime.nd rfl (.inl rfl) (pv 2) iop_fdivW)))
          (pss_one (ps_ret (pe_ifExp (pt_cmpR op_eq (pv 1) pe_int (nomark _)) (pv 2) pe_non)))) pss_nil)))
      (pss_one (ps_ret pe_non))), ?_⟩
    refine ⟨.ref a, rfl, a, n, lock, W, rfl, hL, B, fun H1 p1 s1 np1 hp1 => ?_⟩
    obtain ⟨as, h1, h2⟩ := hp1
    have hlen : as.length = W.length := by rw [h2.len, hW]
    have hm60 : W.length ≤ 60 := by
      rw [← hW]
      have hp := B.last
      have e1 : (spn n lock).length ≤ W.length := by rw [hW]; exact Nat.le_refl _
      have := B.len
      omega
    refine ⟨p1, _, rfl, .inl (SqL.of h1), ?_⟩
    rw [rs_len, hlen]
    generalize hmm : W.length = m at *
    have hm0 : 0 < m := by
      rw [← hmm, ← hW]
      have S := B.span hL.n16 hL.pl
      exact List.length_pos_of_mem ((S.mem _).mpr .nil)
    have fdef : ∀ d, (m % d == 0) = true ↔ m % d = 0 := fun d => beq_iff_eq
    refine ⟨nv m, rfl, (m : Int), 1, rfl, rfl, 2, (m : Int) + 1, rfl, by omega, for_range (lo := 2) (n := ((m : Int) + 1 - 2).toNat) (fun i σ H' => ∃ y2, σ = [some (.ref a), some (nv m), y2] ∧ H1 = H' ∧ ∀ j, j < i → m % (2 + j) ≠ 0) ⟨_, rfl, rfl, fun j hj => absurd hj (Nat.not_lt_zero _)⟩ (fun i σ H' hi h => ?_) (fun σ H' h => ?_)⟩
    · obtain ⟨y2, rfl, rfl, hno⟩ := h
      have hi' : i < m - 1 := by omega
      have e2 : (V.int (2 + (i : Int))) = nv (2 + i) := by show V.int _ = V.int _; congr 1
      rw [e2]
      refine ⟨nv m, rfl, nv (2 + i), rfl, (m : Int), ((2 + i : Nat) : Int), rfl, rfl, by omega, rfl, _, rfl, ?_⟩
      rw [modT]
      by_cases hz : m % (2 + i) = 0
      · rw [decide_eq_true hz]
        refine iteT ?_
        have hfind : (List.range' 2 (m - 1)).find? (fun d => m % d == 0) = some (2 + i) := find_some (m - 1) 2 i hi' (fun j hj => by simpa using hno j hj) (by simpa using hz)
        have hd2 : 2 + i ≤ 1000 := by omega
        refine ⟨fun k σ H' => ∃ m', σ = [some (.ref a), some (nv m'), some (nv (2 + i))] ∧ H1 = H' ∧ strp (2 + i) k m' = strp (2 + i) m m ∧ m' ≤ k ∧ 1 ≤ m' ∧ m' ≤ 60, ⟨m, m, rfl, rfl, rfl, Nat.le_refl _, hm0, hm60⟩, fun k σ H' hWh => ?_⟩
        obtain ⟨m', rfl, rfl, hst, hk, h1', h60⟩ := hWh
        refine ⟨nv m', rfl, nv (2 + i), rfl, (m' : Int), ((2 + i : Nat) : Int), rfl, rfl, by omega, rfl, _, rfl, ?_⟩
        rw [modT]
        cases k with
        | zero => omega
        | succ k =>
          by_cases hz' : m' % (2 + i) = 0
          · rw [decide_eq_true hz']
            refine iteT ⟨fun σ H' => ∃ m', σ = [some (.ref a), some (nv m'), some (nv (2 + i))] ∧ H1 = H' ∧ strp (2 + i) k m' = strp (2 + i) m m ∧ m' ≤ k ∧ 1 ≤ m' ∧ m' ≤ 60, fun σ' H' h' => ⟨k, Nat.lt_succ_self _, h'⟩, ?_⟩
            have hlt : m' / (2 + i) < m' := Nat.div_lt_self (by omega) (by omega)
            have hpos : 1 ≤ m' / (2 + i) := (Nat.one_le_div_iff (by omega)).mpr (Nat.le_of_dvd (by omega) (Nat.dvd_of_mod_eq_zero hz'))
            refine ⟨nv m', rfl, nv (2 + i), rfl, (m' : Int), ((2 + i : Nat) : Int), rfl, rfl, divW (by omega) hd2 _, m' / (2 + i), ?_, rfl, ?_, by omega, hpos, by omega⟩
            · show [some (.ref a), some (V.int ((m' : Int) / ((2 + i : Nat) : Int))), some (nv (2 + i))] = _
              rw [← Int.natCast_ediv]; rfl
            · rw [← hst, strp, if_pos hz']
          · rw [decide_eq_false hz']
            refine iteF ?_
            have hs9 : strp (2 + i) m m = m' := by rw [← hst, strp, if_neg hz']
            refine ⟨nv m', rfl, rfl, _, rfl, ?_⟩
            rw [show decide (nv m' = V.int 1) = decide (m' = 1) from nv_eq _ 1]
            have hpf : primeF m = if m' = 1 then some (2 + i) else none := by
              unfold primeF
              rw [hfind]
              show (if strp (2 + i) m m = 1 then _ else _) = _
              rw [hs9]
            by_cases h1 : m' = 1
            · rw [decide_eq_true h1]
              refine iteT ⟨nv (2 + i), rfl, ?_⟩
              have := q H1 s1
              rw [hpf, if_pos h1] at this
              exact this
            · rw [decide_eq_false h1]
              refine iteF ?_
              have := q H1 s1
              rw [hpf, if_neg h1] at this
              exact this
      · rw [decide_eq_false hz]
        refine iteF ⟨_, rfl, rfl, fun j hj => ?_⟩
        rcases Nat.lt_succ_iff_lt_or_eq.mp hj with z | z
        · exact hno j z
        · rw [z]; exact hz
    · obtain ⟨y2, rfl, rfl, hno⟩ := h
      have hpf : primeF m = none := by
        unfold primeF
        rw [find_none (m - 1) 2 fun j hj => by simpa using hno j (by omega)]
      have := q H1 s1
      rw [hpf] at this
      exact this
end
end Lk
set_option Elab.async false
set_option linter.all false
set_option maxRecDepth 100000
namespace Lk
open PySem PySem.Spec PyProof.Rows L2 GxR
/-! heaps that grow, one table among them -/
section
variable {Pt a b : Addr} {H H' H1 : Hp} {o : HO}
theorem TabG.same (h : TabG H Pt) (s : Same H H') : TabG H' Pt := let ⟨ps, h1, h2⟩ := h; ⟨ps, s _ _ h1, h2⟩
theorem TabG.toT (h : TabG H Pt) (s : Same H H') : SameT Pt H H' := ⟨TabG.same h s, fun b o _ hb => s b o hb⟩
theorem SameT.refl (h : TabG H Pt) : SameT Pt H H := TabG.toT h fun _ _ e => e
theorem SameT.trans (s : SameT Pt H H1) (s' : SameT Pt H1 H') : SameT Pt H H' := ⟨s'.tab, fun b o h e => s'.keep b o h (s.keep b o h e)⟩
theorem SameT.same (s : SameT Pt H H1) (s' : Same H1 H') : SameT Pt H H' := s.trans (TabG.toT s.tab s')
theorem SameT.tabbed (s : SameT Pt H H1) (s' : Tabbed Pt H1 H') : SameT Pt H H' := s.trans ⟨s'.1, fun b o h e => (s'.2 b h).trans e⟩
theorem SameT.put (s : SameT Pt H H1) (h : H a = none) (hT : TabG H Pt) : SameT Pt H (upd H1 a o) := by
  obtain ⟨ps, hp, _⟩ := hT
  obtain ⟨ps', hp', t'⟩ := s.tab
  have e : Pt ≠ a := fun e => by rw [e, h] at hp; cases hp
  refine ⟨⟨ps', by rw [upd_ne e]; exact hp', t'⟩, fun b o' hb e' => ?_⟩
  rw [upd_ne (ne_of_none e' h)]
  exact s.keep b o' hb e'
theorem SameT.put1 (s : SameT Pt H H1) (h : H1 a = none) : SameT Pt H (upd H1 a o) := s.same (same_upd h)
theorem SameT.at (s : SameT Pt H H') (hT : TabG H Pt) (h : H a = some o) (no : ∀ ps, o ≠ .tbl ps) : H' a = some o := s.keep a o (tab_ne hT h no) h
theorem SameT.ta {t : Tn} (s : SameT Pt H H') (hT : TabG H Pt) (h : TA H a t) : TA H' a t := by
  rcases h with h | ⟨o, ho, h⟩
  · exact .inl (s.at hT h fun _ z => by cases z)
  · exact .inr ⟨o, ho, s.at hT h fun _ z => by cases z⟩
theorem SameT.tas {as : List Addr} {ts : List Tn} (s : SameT Pt H H') (hT : TabG H Pt) (h : TAs H as ts) : TAs H' as ts := by
  induction h with
  | nil => exact .nil
  | cons h _ ih => exact .cons (s.ta hT h) ih
theorem SameT.ua {ts : List Tn} (s : SameT Pt H H') (hT : TabG H Pt) (h : UA H a ts) : UA H' a ts := let ⟨as, h1, h2⟩ := h; ⟨as, s.at hT h1 (fun _ z => by cases z), s.tas hT h2⟩
theorem SameT.la {ts : List Tn} (s : SameT Pt H H') (hT : TabG H Pt) (h : LA H a ts) : LA H' a ts := let ⟨as, h1, h2⟩ := h; ⟨as, s.at hT h1 (fun _ z => by cases z), s.tas hT h2⟩
theorem SameT.tzs {as : List Addr} {ts : List Tn} (s : SameT Pt H H') (hT : TabG H Pt) (h : TZs H as ts) : TZs H' as ts := by
  induction h with
  | nil => exact .nil
  | cons h _ ih =>
    obtain ⟨o, ho, h⟩ := h
    exact .cons ⟨o, ho, s.at hT h fun _ z => by cases z⟩ ih
theorem SameT.uz {ts : List Tn} (s : SameT Pt H H') (hT : TabG H Pt) (h : UZ H a ts) : UZ H' a ts := let ⟨as, h1, h2⟩ := h; ⟨as, s.at hT h1 (fun _ z => by cases z), s.tzs hT h2⟩
theorem SameT.lock {n : Nat} {lock : List Tn} (s : SameT Pt H H') (hT : TabG H Pt) (h : LockA H a n lock) : LockA H' a n lock := ⟨s.uz hT h.at_, h.ne, h.pl, h.n1, h.n16⟩
end
abbrev sNeed : Stmt := topS 20
abbrev sNeedP : Stmt := topS 28
theorem scNeed : FnScope ["value", "place", "turn"] ["value"] (defScope sNeed) := ⟨rfl, rfl, rfl, by decide +kernel, rfl, by decide +kernel, by decide +kernel⟩
theorem scNeedP : FnScope ["lock", "found"] ["lock"] (defScope sNeedP) := ⟨rfl, rfl, rfl, by decide +kernel, rfl, by decide +kernel, by decide +kernel⟩
section
variable {P : Program} {w : World} {K : PySem.W.Frag} {mg : Str → Option Value} {base : Heap}
def spNeed (Pt : Addr) : Sp := fun vs H Q _ => ∃ (a : Addr) (n : Nat) (lock W : List Tn), vs = [.ref a] ∧ LockA H a n lock ∧ 2 ≤ n ∧ n ≤ 9 ∧ lock.length ≤ 4 ∧ Box n lock W ∧ TabG H Pt ∧ ∀ H', SameT Pt H H' → Q .non H'
theorem leC {x y : Nat} (h : x ≤ y) : decide ((x : Int) ≤ (y : Int)) = true := decide_eq_true (by omega)
theorem ok_need {f Pt : Addr} {fd : FuncData} {k : Nat} (F : Fun K "need_lock" "need_lock" sNeed f fd) (cI : Cal P w K mg base k "is_turn" (spTurn Pt)) (cT : Cal P w K mg base k "turns_of" spTurns) (mi : mg "isinstance" = none) (mt : mg "tuple" = none) (ml : mg "len" = none) (me : mg "enumerate" = none)
    (m1 : ∃ t, mg "LEAST_PLACES" = some (.int 2 t)) (m2 : ∃ t, mg "MOST_PLACES" = some (.int 9 t)) (m3 : ∃ t, mg "MOST_GIVEN" = some (.int 4 t)) : FnOk P w K mg base CX0 (k + 1) f fd ["value"] (spNeed Pt) := by
  obtain ⟨t1, m1⟩ := m1
  obtain ⟨t2, m2⟩ := m2
  obtain ⟨t3, m3⟩ := m3
  refine F.ok scNeed (fun vs H Q E h => ?_) (fun cdv A outer s H vs Q E hr h => ?_)
  · obtain ⟨a, n, lock, W, rfl, _⟩ := h
    rfl
  · obtain ⟨a, n, lock, W, rfl, hL, hn2, hn9, hl4, B, hTb, q⟩ := h
    obtain ⟨as, a0, t0, ha, hT, h0, hA0, hl0⟩ := hL.fst
    refine ⟨_, PSs.nox (pss_cons (ps_if (PW.pt (pw_or (pt_not (pt_val (pe_callB call_isTup (by rfl) mi (by decide +kernel) (pa_cons (pv 0) (pa_cons (pe_bltn (by rfl) mt (by decide +kernel) (show RelV (.ty "tuple") (.type "tuple") from rfl)) pa_nil)))))
        (pw_or1 (pt_not (pt_chain op_le op_le pe_int (pe_callB call_len_seq (by rfl) ml PySem.boot_len (pa_cons (pv 0) pa_nil)) (pe_glob (by rfl) m3 (show RelV (.int 4) _ from ⟨_, rfl⟩))))))) pss_never pss_nil)
      (pss_cons (ps_if (PW.pt (pw_or (pt_not (pt_val (pe_callB call_isTup (by rfl) mi (by decide +kernel) (pa_cons (pe_ix ix_tup (pv 0) pe_int (fun _ _ => rfl)) (pa_cons (pe_bltn (by rfl) mt (by decide +kernel) (show RelV (.ty "tuple") (.type "tuple") from rfl)) pa_nil)))))
        (pw_or1 (pt_not (pt_chain op_le op_le (pe_glob (by rfl) m1 (show RelV (.int 2) _ from ⟨_, rfl⟩)) (pe_callB call_len_seq (by rfl) ml PySem.boot_len (pa_cons (pe_ix ix_tup (pv 0) pe_int (fun _ _ => rfl)) pa_nil)) (pe_glob (by rfl) m2 (show RelV (.int 9) _ from ⟨_, rfl⟩))))))) pss_never pss_nil)
      (pss_cons (ps_for PassesOwn.never rfl (pi_enumT (by rfl) me (pa_cons (pv 0) pa_nil)) (pg_tup rfl (pgs_cons (pg_name (i := 1) scNeed.nd rfl (.inl rfl)) (pgs_cons (pg_name (i := 2) scNeed.nd rfl (.inl rfl)) pgs_nil)))
        (pss_one (ps_if (pt_not (pt_val (pe_c cI hr (Nat.le_refl _) (by rfl) (pa_cons (pe_callB call_len_seq (by rfl) ml PySem.boot_len (pa_cons (pe_ix ix_tup (pv 0) pe_int (fun _ _ => rfl)) pa_nil)) (pa_cons (pv 2) pa_nil))))) pss_never pss_nil)))
      (pss_one (ps_expr (pe_c cT hr (Nat.le_refl _) (by rfl) (pa_cons (pv 0) pa_nil))))))), ?_⟩
    refine ⟨.ref a, rfl, a, rs as, rfl, SqT.of ha, true, rfl, ?_⟩
    have hal : as.length = lock.length := hT.len
    have hlen1 : 1 ≤ lock.length := List.length_pos_iff.mpr hL.ne
    refine iteF ⟨.ref a, rfl, a, rs as, rfl, .inr (SqT.of ha), 1, _, rfl, rfl, _, rfl, ?_⟩
    rw [rs_len, hal, show decide ((1 : Int) ≤ (lock.length : Int)) = true from decide_eq_true (by omega)]
    refine iteT ⟨_, 4, rfl, rfl, _, rfl, ?_⟩
    rw [show decide ((lock.length : Int) ≤ 4) = true from decide_eq_true (by omega)]
    refine iteF ?_
    refine ⟨.ref a, rfl, a, rs as, 0, .ref a0, rfl, rfl, SqT.of ha, h0, a0, tv t0, rfl, sqA hA0, true, rfl, ?_⟩
    refine iteF ⟨.ref a, rfl, a, rs as, 0, .ref a0, rfl, rfl, SqT.of ha, h0, a0, tv t0, rfl, .inr (sqA hA0), 2, _, rfl, rfl, _, rfl, ?_⟩
    rw [tv_len, hl0, show decide ((2 : Int) ≤ (n : Int)) = true from decide_eq_true (by omega)]
    refine iteT ⟨_, 9, rfl, rfl, _, rfl, ?_⟩
    rw [show decide ((n : Int) ≤ 9) = true from decide_eq_true (by omega)]
    refine iteF ?_
    refine ⟨.ref a, rfl, a, rs as, rfl, SqT.of ha, for_enumT (xs := rs as) (fun i σ H' => ∃ y1 y2, σ = [some (.ref a), y1, y2] ∧ SameT Pt H H') ⟨_, _, rfl, SameT.refl hTb⟩ (fun i σ H' _ h => ?_) (fun i x σ H' T hx h nT => ?_) (fun σ H' h => ?_)⟩
    · obtain ⟨_, _, _, sm⟩ := h
      exact SqT.of (sm.at hTb ha fun _ z => by cases z)
    · obtain ⟨y1, y2, rfl, sm⟩ := h
      obtain ⟨ta, hta, rfl⟩ := rs_get hx
      obtain ⟨t, ht, hTA⟩ := hT.get hta
      have sm1 := sm.put1 (a := T) (o := .tup [.int (i : Nat), .ref ta]) nT
      refine ⟨T, [V.int (i : Nat), .ref ta], rfl, SqT.of upd_same, rfl, V.int (i : Nat), [.ref ta], rfl, .ref ta, [], rfl, rfl, ?_⟩
      refine ⟨.ref a, rfl, a, rs as, 0, .ref a0, rfl, rfl, SqT.of (sm1.at hTb ha fun _ z => by cases z), h0, a0, tv t0, rfl, .inr (sqA (sm1.ta hTb hA0)), .ref ta, rfl, ?_⟩
      refine ⟨n, ta, t, by rw [tv_len, hl0]; rfl, sm1.ta hTb hTA, hL.pl t (List.mem_of_getElem? ht), by omega, sm1.tab, fun H2 s2 => ⟨true, rfl, ?_⟩⟩
      exact iteF ⟨_, _, rfl, sm1.tabbed s2⟩
    · obtain ⟨y1, y2, rfl, sm⟩ := h
      refine ⟨.ref a, rfl, a, n, lock, W, rfl, sm.lock hTb hL, B, fun H2 p s2 np _ => ?_⟩
      exact q H2 (sm.same s2)
end
end Lk
set_option Elab.async false
set_option linter.all false
set_option maxRecDepth 100000
namespace Lk
open PySem PySem.Spec PyProof.Rows L2 GxR
section
variable {X : Cx} {C : Addr} {bmB : List Value} {B newId initId : String}
/-- X(), X an own exception class without own __init__ -/
theorem pmk_own0 {x : Str} {p pos : Pos} (F : ExcBaseFacts B newId initId bmB) (q : PySem.W.excIn X.K C bmB newId = true) (gC : X.mg x = some (.ref C)) (kC : PySem.W.keepIn X.K (.ref C) = true) (r : Raises X (.ref C)) (hg : Gl X x)
    (hdb : (x == ("__debug__" : Str)) = false := by decide) : PMk X (.Call (.Name x p) [] [] pos) (fun _ H Q => Q (.ref C) none H) := by
  intro pins s σ H Q I h
  refine wpAny_Call_Name_kw (ld_glob I hg gC ?_ hdb)
  refine PySem.W.callWith_K0 (first := []) I.kIn kC ?_
  obtain ⟨bm, N, nm, qn, bs, hdct, sn, sub, ab, col, dd, k0, k1, k2, k3, k5, mN, hC, hN, hni, T⟩ := exc_obj I.kIn q
  refine wpAny_call_exc_subT F T hC hN hni (fun h' e hm => ?_) (Nat.zero_le _)
  exact mk_of I hm r h (I.hok.gone hm.new)
end
/-- what the text's NotPrime is -/
structure NPc (K : PySem.W.Frag) (mg : Str → Option Value) (C : Addr) : Prop where
  exc : PySem.W.excIn K C [.type "ValueError", .type "Exception", .type "BaseException", .type "object"] "ValueError.__new__" = true
  glob : mg "NotPrime" = some (.ref C)
  keep : PySem.W.keepIn K (.ref C) = true
  sub : PySem.W.subIn K (.ref C) (.type "BaseException") = some true
  typ : PySem.W.typeIn K (.ref C) = some (.type "type")
  exm : PySem.W.exmOne K (.ref C) (.ref C) = some true
/-- a def of the text that may be called and may raise -/
structure CalX (P : Program) (w : World) (K : PySem.W.Frag) (mg : Str → Option Value) (base : Heap) (k : Nat) (x : Str) (sp : Sp) : Prop where
  ex : ∃ (f : Addr) (fd : FuncData) (ps : List Str), FnOk P w K mg base (L2.CX P w) k f fd ps sp ∧ mg x = some (.ref f) ∧ PySem.W.keepIn K (.ref f) = true ∧ Binds K fd ps []
section
variable {X : Cx} {k j : Nat} {x : Str} {sp : Sp} {e : Expr} {es : List Expr} {t : L2.TA} {p pos : Pos}
theorem pe_cx (c : CalX X.prog X.w X.K X.mg X.base k x sp) (hr : Room j X.A) (hk : k ≤ j) (hg : Gl X x) (ha : PA X (e :: es) t)
    (hdb : (x == ("__debug__" : Str)) = false := by decide) (he : starEach (e :: es) X.env = (false, eval e X.env) :: starEach es X.env := by rfl) (hpl : (backTo pos (starEach es X.env)).any (·.1) = false := by rfl) :
    PE X (.Call (.Name x p) (e :: es) [] pos) (tCall sp [] E0 t) := by
  obtain ⟨f, fd, ps, F, hm, kp, b⟩ := c.ex
  exact pe_call F (hr.mono hk) hg hm kp b .nil passL ha hdb he hpl
theorem pe_cxW {W : WX} (c : CalX X.prog X.w X.K X.mg X.base k x sp) (hr : Room j X.A) (hk : k ≤ j) (hg : Gl X x) (tk : Takes X W) (ha : PA X (e :: es) t)
    (hdb : (x == ("__debug__" : Str)) = false := by decide) (he : starEach (e :: es) X.env = (false, eval e X.env) :: starEach es X.env := by rfl) (hpl : (backTo pos (starEach es X.env)).any (·.1) = false := by rfl) :
    PE X (.Call (.Name x p) (e :: es) [] pos) (tCallS sp (WE W) t) := by
  obtain ⟨f, fd, ps, F, hm, kp, b⟩ := c.ex
  exact pe_callS F (hr.mono hk) hg hm kp b (passAt tk) ha hdb he hpl
end
theorem CalX.mono {P : Program} {w : World} {K : PySem.W.Frag} {mg : Str → Option Value} {base : Heap} {j k : Nat} {x : Str} {sp : Sp} (c : CalX P w K mg base j x sp) (h : j ≤ k) : CalX P w K mg base k x sp :=
  let ⟨f, fd, ps, F, r⟩ := c.ex
  ⟨f, fd, ps, F.mono h, r⟩
section
variable {P : Program} {w : World} {K : PySem.W.Frag} {mg : Str → Option Value} {base : Heap}
def spNeedP (Pt C : Addr) : Sp := fun vs H Q E => ∃ (a : Addr) (n : Nat) (lock W : List Tn), vs = [.ref a] ∧ LockA H a n lock ∧ 2 ≤ n ∧ n ≤ 9 ∧ lock.length ≤ 4 ∧ Box n lock W ∧ spn n lock = W ∧ TabG H Pt ∧
  ∀ H', SameT Pt H H' → match primeF W.length with
    | some p => Q (nv p) H'
    | none => E (.ref C) none H'
theorem ok_needP {f Pt C : Addr} {fd : FuncData} {k : Nat} (F : Fun K "need_prime_lock" "need_prime_lock" sNeedP f fd) (cN : Cal P w K mg base k "need_lock" (spNeed Pt)) (cP : Cal P w K mg base k "prime_of" spPrime) (np : NPc K mg C) :
    FnOk P w K mg base (L2.CX P w) (k + 1) f fd ["lock"] (spNeedP Pt C) := by
  refine F.okX scNeedP (fun vs H Q E h => ?_) (fun cdv A outer s H vs Q E hr h => ?_)
  · obtain ⟨a, n, lock, W, rfl, _⟩ := h
    rfl
  · obtain ⟨a, n, lock, W, rfl, hL, hn2, hn9, hl4, B, hW, hTb, q⟩ := h
    refine ⟨_, pss_cons (ps_expr (pe_c cN hr (Nat.le_refl _) (by rfl) (pa_cons (pv 0) pa_nil)))
      (pss_cons (ps_set (i := 1) scNeedP.nd rfl (.inl rfl) (pe_c cP hr (Nat.le_refl _) (by rfl) (pa_cons (pv 0) pa_nil)))
      (pss_cons (ps_if (pt_cmp (pc_isN (pv 1))) (pss_one (ps_raise (W := fun cls d _ H => E cls d H) rfl (takes_of rfl rfl rfl rfl) (pmk_own0 PySem.F.excBase_ValueError np.exc np.glob np.keep (raises_own np.sub np.typ) (by rfl)))) pss_nil)
      (pss_one (ps_ret (pv 1))))), ?_⟩
    refine ⟨.ref a, rfl, a, n, lock, W, rfl, hL, hn2, hn9, hl4, B, hTb, fun H1 s1 => ?_⟩
    refine ⟨.ref a, rfl, a, n, lock, W, rfl, s1.lock hTb hL, B, hW, fun H2 s2 => ?_⟩
    have s3 := s1.same s2
    have q := q H2 s3
    cases e : primeF W.length with
    | none =>
      rw [e] at q
      refine ⟨_, rfl, true, by rw [show pvO none = V.non from rfl, decide_eq_true rfl], ?_⟩
      exact iteT q
    | some p =>
      rw [e] at q
      refine ⟨_, rfl, false, by rw [decide_eq_false (fun z : pvO (some p) = V.non => nomatch z)], ?_⟩
      exact iteF ⟨_, rfl, q⟩
end
end Lk
set_option Elab.async false
set_option linter.all false
set_option maxRecDepth 100000
namespace Lk
open PySem PySem.Spec PyProof.Rows L2 GxR
abbrev sTerm : Stmt := topS 29
abbrev sWof : Stmt := topS 30
theorem scTerm : FnScope ["lock", "prime", "terms", "weight", "given", "many", "length", "term", "turn"] ["lock", "prime", "terms", "weight"] (defScope sTerm) := ⟨rfl, rfl, rfl, by decide +kernel, rfl, by decide +kernel, by decide +kernel⟩
theorem scWof : FnScope ["lock", "prime", "terms", "found", "term"] ["lock"] (defScope sWof) := ⟨rfl, rfl, rfl, by decide +kernel, rfl, by decide +kernel, by decide +kernel⟩
/-! powers of p below w -/
theorem mny_le {p j w : Nat} (hj : 1 ≤ j) (hp : p ≤ 3) : ∀ (k m : Nat), m ≤ 3 * w + 1 → mny p j w k m ≤ 3 * w + 1
  | 0, _, h => h
  | k + 1, m, h => by
    unfold mny
    split
    · rename_i hc
      have h1 : m ≤ j * m := Nat.le_mul_of_pos_left m hj
      exact mny_le hj hp k _ (by have : m * p ≤ m * 3 := Nat.mul_le_mul_left _ hp; omega)
    · exact h
theorem powG_snoc (p w : Nat) : ∀ (ts : List (List Tn)) (j : Nat) (t : List Tn), powG p w j (ts ++ [t]) = powG p w j ts ++ t.map fun t => pwr t (mny p (j + ts.length) w 6 1)
  | [], j, t => by simp [powG]
  | u :: ts, j, t => by
    rw [List.cons_append, powG, powG, powG_snoc p w ts (j + 1) t, List.append_assoc, List.length_cons, show j + 1 + ts.length = j + (ts.length + 1) by omega]
theorem powG_len {n : Nat} {W : List Tn} (G : Grp n W) (p w : Nat) : ∀ (ts : List (List Tn)) (j : Nat), (∀ T ∈ ts, Sub T W ∧ Srt T) → (powG p w j ts).length ≤ 60 * ts.length
  | [], _, _ => Nat.le_refl _
  | T :: r, j, h => by
    have h1 := sub_len (h T List.mem_cons_self).1 (h T List.mem_cons_self).2
    have h2 := G.few
    have h3 := powG_len G p w r (j + 1) fun T hT => h T (List.mem_cons_of_mem _ hT)
    rw [powG, List.length_append, List.length_map, List.length_cons]
    omega
section
variable {P : Program} {w : World} {K : PySem.W.Frag} {mg : Str → Option Value} {base : Heap}
def spTerm : Sp := fun vs H Q _ => ∃ (a l : Addr) (n p v : Nat) (lock W : List Tn) (terms : List (List Tn)), vs = [.ref a, nv p, .ref l, nv v] ∧ LockA H a n lock ∧ LLA H l terms ∧ Grp n W ∧ (∀ T ∈ terms, Sub T W ∧ Srt T) ∧ terms.length ≤ 10 ∧ PrOk p ∧ v ≤ 60 ∧
  Ret H Q fun H' q => LA H' q (trm n p terms v)
theorem ok_term {f : Addr} {fd : FuncData} {k : Nat} (F : Fun K "term_of" "term_of" sTerm f fd) (cP : Cal P w K mg base k "spanned" spSpan) (cW : Cal P w K mg base k "power" spPower) (ms : mg "sorted" = none) (me : mg "set" = none) (mn : mg "enumerate" = none) (ml : mg "len" = none) :
    FnOk P w K mg base CX0 (k + 1) f fd ["lock", "prime", "terms", "weight"] spTerm := by
  refine F.ok scTerm (fun vs H Q E h => ?_) (fun cdv A outer s H vs Q E hr h => ?_)
  · obtain ⟨a, l, n, p, v, lock, W, terms, rfl, _⟩ := h
    rfl
  · obtain ⟨a, l, n, p, v, lock, W, terms, rfl, hL, hLL, G, hsub, hnine, hpr, hv, q⟩ := h
    have hu : A.units + 3 + 64 < cLine := by have := hr.un; have e : (A.deeper (envOfC "term_of" (defScope sTerm) s.heap.objs.size f cdv)).units = A.units + 3 := rfl; omega
    obtain ⟨as, a0, t0, ha, hT, h0, hA0, hl0⟩ := hL.fst
    obtain ⟨ls, hl, hLs⟩ := hLL
    refine ⟨_, pss_cons (ps_asg (pe_tup (pa_cons (pe_lst pa_nil) (pa_cons pe_int pa_nil))) (pg_tup rfl (pgs_cons (pg_name (i := 4) scTerm.nd rfl (.inl rfl)) (pgs_cons (pg_name (i := 5) scTerm.nd rfl (.inr rfl)) pgs_nil))))
      (pss_cons (ps_for PassesOwn.never rfl (pi_enum (by rfl) mn (pa_cons (pv 2) pa_nil)) (pg_tup rfl (pgs_cons (pg_name (i := 6) scTerm.nd rfl (.inl rfl)) (pgs_cons (pg_name (i := 7) scTerm.nd rfl (.inl rfl)) pgs_nil)))
        (pss_cons (ps_set (i := 5) scTerm.nd rfl (.inr rfl) pe_int)
        (pss_cons (ps_while PassesOwn.never (pt_cmpR op_lt (pe_op op_mulW (pe_op op_add (pv 6) pe_int) (pv 5)) (pv 3) (nomark _)) (pss_one (ps_aug (i := 5) scTerm.nd rfl (.inr rfl) (pv 1) ip_mulW)))
        (pss_one (ps_expr (pe_bm PySem.F.plainAttrs_list PySem.F.slot_list_extend PySem.F.type_list_extend mt_extend (pv 4) (pa_cons
          (pe_lc (own := [("turn", 8)]) (g := gName 8) (tt := tYes) (te := tCall spPower [] E0 (tCons (tVar 8) (tCons (tVar 5) tNil))) rfl scTerm.nd (pi_list (pv 7)) (blkOk_by (N := ["lock", "prime", "terms", "weight", "given", "many", "length", "term", "turn"]) (sc := defScope sTerm) (by decide +kernel))
            (fun _ _ _ _ _ => pg_name (i := 8) scTerm.nd rfl (Or.inl rfl)) (fun _ _ _ _ _ => pts_nil) (fun _ _ _ _ _ => pe_c cW hr (Nat.le_refl _) (by rfl) (pa_cons (pv 8) (pa_cons (pv 5) pa_nil)))) pa_nil)))))))
      (pss_one (ps_ret (pe_c cP hr (Nat.le_refl _) (by rfl) (pa_cons (pe_callB call_len_seq (by rfl) ml PySem.boot_len (pa_cons (pe_ix ix_tup (pv 0) pe_int (fun _ _ => rfl)) pa_nil)) (pa_cons (pe_callB (cr_sortedT rfl) (by rfl) ms (by decide +kernel) (pa_cons (pe_callTy (cr_setF rfl hu) (by rfl) me PyProof.Rows.boot_set (pa_cons (pv 4) pa_nil)) pa_nil)) pa_nil)))))), ?_⟩
    have hln : ls.length = terms.length := hLs.len
    refine ⟨Nat.zero_le _, fun g ng => ?_⟩
    refine ⟨fewe (by simp), fun T nT => ⟨T, [.ref g, .int 1], rfl, SqT.of upd_same, rfl, .ref g, [.int 1], rfl, .int 1, [], rfl, rfl, ?_⟩⟩
    have s0 : Same H (upd H g (.lst [])) := same_upd ng
    have s1 : Same H (upd (upd H g (.lst [])) T (.tup [.ref g, .int 1])) := same_put s0 (s0.free nT)
    have hg1 : (upd (upd H g (.lst [])) T (.tup [.ref g, .int 1])) g = some (.lst (rs [])) := same_upd nT _ _ upd_same
    generalize (upd (upd H g (.lst [])) T (.tup [.ref g, .int 1])) = H1 at s1 hg1
    refine ⟨.ref l, rfl, l, rs ls, rfl, SqL.of (s1 _ _ hl), for_it (walk_enum (xs := rs ls)) (fun i σ H' => ∃ y5 y6 y7 gs, σ = [some (.ref a), some (nv p), some (.ref l), some (nv v), some (.ref g), y5, y6, y7, none] ∧ Same H H' ∧ H' g = some (.lst (rs gs)) ∧ TAs H' gs (powG p v 1 (terms.take i)))
      ⟨_, _, _, [], rfl, s1, hg1, .nil⟩ (fun i σ H' _ h => ?_) (fun i x σ H' H2 hi h y => ?_) (fun σ H' h => ?_)⟩
    · obtain ⟨_, _, _, _, _, sm, _⟩ := h
      exact SqL.of (sm _ _ hl)
    · obtain ⟨y5, y6, y7, gs, rfl, sm, hg, hgs⟩ := h
      obtain ⟨T, x1, x2, rfl, nT, rfl, e1, e2⟩ := y
      obtain rfl := Option.some.inj e1
      obtain ⟨tA, htA, rfl⟩ := rs_get e2
      obtain ⟨term, hterm, hTA⟩ := hLs.get htA
      have hmem : term ∈ terms := List.mem_of_getElem? hterm
      have hi2 : i < terms.length := get_lt hterm
      have st := same_upd (o := .tup [V.int (i : Nat), .ref tA]) nT
      have sm2 := sm.trans st
      have hg2 := st _ _ hg
      have hgs2 := hgs.same st
      have hTu : (upd H' T (.tup [V.int (i : Nat), .ref tA])) T = some (.tup [V.int (i : Nat), .ref tA]) := upd_same
      generalize (upd H' T (.tup [V.int (i : Nat), .ref tA])) = H2 at *
      have hlenT : term.length ≤ 60 := Nat.le_trans (sub_len (hsub term hmem).1 (hsub term hmem).2) G.few
      have hp3 : p ≤ 3 ∧ 2 ≤ p := by rcases hpr with z | z <;> omega
      refine ⟨T, [V.int (i : Nat), .ref tA], rfl, SqT.of hTu, rfl, V.int (i : Nat), [.ref tA], rfl, .ref tA, [], rfl, rfl, ?_⟩
      refine ⟨fun k σ H'' => ∃ m : Nat, σ = [some (.ref a), some (nv p), some (.ref l), some (nv v), some (.ref g), some (nv m), some (nv i), some (.ref tA), none] ∧ H2 = H'' ∧ mny p (i + 1) v k m = mny p (i + 1) v 6 1 ∧ m ≤ 3 * v + 1 ∧ 64 ≤ m * 2 ^ k,
        ⟨6, 1, rfl, rfl, rfl, by omega, by omega⟩, fun k σ H'' hW => ?_⟩
      obtain ⟨m, rfl, rfl, hm, hm1, hm2⟩ := hW
      refine ⟨nv i, rfl, (i : Int), 1, rfl, rfl, nv m, rfl, ((i + 1 : Nat) : Int), (m : Int), rfl, rfl, mulW (by omega) (by omega), nv v, rfl, (((i + 1) * m : Nat) : Int), (v : Int), rfl, rfl, _, rfl, ?_⟩
      by_cases hz : (i + 1) * m < v
      · rw [decide_eq_true (Int.ofNat_lt.mpr hz)]
        have hmv : m ≤ (i + 1) * m := Nat.le_mul_of_pos_left m (by omega)
        cases k with
        | zero => omega
        | succ k =>
          refine iteT ⟨fun σ H'' => ∃ m : Nat, σ = [some (.ref a), some (nv p), some (.ref l), some (nv v), some (.ref g), some (nv m), some (nv i), some (.ref tA), none] ∧ H2 = H'' ∧ mny p (i + 1) v k m = mny p (i + 1) v 6 1 ∧ m ≤ 3 * v + 1 ∧ 64 ≤ m * 2 ^ k,
            fun σ' H' h' => ⟨k, Nat.lt_succ_self _, h'⟩, ?_⟩
          have hmp : m * p ≤ m * 3 := Nat.mul_le_mul_left _ hp3.1
          have hmp2 : m * 2 ≤ m * p := Nat.mul_le_mul_left _ hp3.2
          refine ⟨nv m, rfl, nv p, rfl, (m : Int), (p : Int), rfl, rfl, mulW (by omega) (by omega), m * p, rfl, rfl, ?_, by omega, ?_⟩
          · rw [← hm, mny, if_pos hz]
          · rw [Nat.pow_succ] at hm2
            calc 64 ≤ m * (2 ^ k * 2) := hm2
              _ = (m * 2) * 2 ^ k := by rw [Nat.mul_comm (2 ^ k) 2, Nat.mul_assoc]
              _ ≤ (m * p) * 2 ^ k := Nat.mul_le_mul_right _ hmp2
      · rw [decide_eq_false fun z => hz (Int.ofNat_lt.mp z)]
        refine iteF ?_
        have hm9 : mny p (i + 1) v 6 1 = m := by
          rw [← hm]
          cases k with
          | zero => rfl
          | succ k => rw [mny, if_neg hz]
        obtain ⟨us, hus, hUs⟩ := hTA
        have hus2 := sm2 _ _ hus
        refine ⟨.ref g, rfl, .inl ⟨rfl, _, SqL.of hg2⟩, .ref tA, rfl, tA, rfl, ⟨_, SqL.of hus2⟩, fun D nD => ?_⟩
        have gD : g ≠ D := ne_of_none hg2 nD
        refine lc_list (xs := rs us) (fun j H' => Same H2 H' ∧ ∃ ds, H' D = some (.lst (rs ds)) ∧ TAs H' ds ((term.take j).map fun t => pwr t m)) ⟨same_upd nD, [], upd_same, .nil⟩ (fun j H' _ h => SqL.of (h.1 _ _ hus2)) (fun j x H' hx h => ?_) (fun H' h => ?_)
        · obtain ⟨smj, ds, hD, hds⟩ := h
          obtain ⟨ta, hta, rfl⟩ := rs_get hx
          obtain ⟨t, ht, hTt⟩ := hUs.get hta
          have htm : t ∈ term := List.mem_of_getElem? ht
          refine ⟨rfl, ?_⟩
          refine ⟨.ref ta, rfl, nv m, rfl, ta, t, n, m, rfl, (hTt.same sm2).same smj, G.isP t ((hsub term hmem).1 t htm), by have := hL.n16; omega, by omega, fun H3 q3 s3 n3 h3 => ?_⟩
          have hD3 := s3 _ _ hD
          refine ⟨_, hD3, ?_, same_put (smj.trans s3) nD, ds ++ [q3], ?_, ?_⟩
          · have e := hds.len
            rw [List.length_map, List.length_take] at e
            rw [rs_len]
            exact few (by omega)
          · rw [upd_same, rs_snoc]
          · rw [take_succ ht, List.map_append]
            exact ((hds.same s3).put hD3 fun _ z => by cases z).snoc (h3.ta.put hD3 fun _ z => by cases z)
        · obtain ⟨smj, ds, hD, hds⟩ := h
          rw [rs_len, hUs.len, List.take_length] at hds
          have hg3 := smj _ _ hg2
          have hlg : gs.length ≤ 600 := by
            have e := hgs.len
            have := powG_len G p v (terms.take i) 1 fun T hT => hsub T (List.mem_of_mem_take hT)
            rw [List.length_take] at this
            omega
          refine ⟨g, D, rs gs, rs ds, rfl, rfl, hg3, hD, ?_, ?_⟩
          · have e := hds.len
            rw [List.length_map] at e
            rw [rs_len, rs_len]
            exact fewe (by omega)
          · refine ⟨_, _, _, gs ++ ds, rfl, same_put (sm2.trans smj) ng, ?_, ?_⟩
            · rw [upd_same]; unfold rs; rw [List.map_append]
            · rw [take_succ hterm, powG_snoc, List.length_take, show 1 + min i terms.length = i + 1 by omega, hm9]
              exact ((hgs2.same smj).put hg3 fun _ z => by cases z).append (hds.put hg3 fun _ z => by cases z)
    · obtain ⟨y5, y6, y7, gs, rfl, sm, hg, hgs⟩ := h
      rw [rs_len, hln, List.take_length] at hgs
      refine ⟨.ref a, rfl, a, rs as, 0, .ref a0, rfl, rfl, SqT.of (sm _ _ ha), h0, a0, tv t0, rfl, .inr (sqA (hA0.same sm)), ?_⟩
      have hsubP := powG_sub G p v terms 1 fun T hT => (hsub T hT).1
      refine ⟨.ref g, rfl, ?_⟩
      have key : rSetF K P w [.ref g] H' fun x H1 => rSortedT K P w [x] H1 fun y H2 => spSpan [nv (tv t0).length, y] H2 Q E0 :=
        read_setsort hg hgs (G.allP hsubP) hL.n1 hL.n16 hsubP G.few fun H2 p2 sm2 np2 hp2 =>
          ⟨n, p2, _, W, by rw [tv_len, hl0], .inl hp2, G.allP (sub_setS hL.n16 G hsubP), hL.n1, hL.n16, G.box (sub_setS hL.n16 G hsubP), fun H3 p3 sm3 np3 hp3 => q H3 p3 ((sm.trans sm2).trans sm3) ((sm.trans sm2).free np3) hp3⟩
      exact key
end
end Lk
set_option Elab.async false
set_option linter.all false
set_option maxRecDepth 100000
namespace Lk
open PySem PySem.Spec PyProof.Rows L2 GxR
theorem rs_inj : ∀ {as bs : List Addr}, rs as = rs bs → as = bs
  | [], [], _ => rfl
  | [], _ :: _, h => by cases h
  | _ :: _, [], h => by cases h
  | a :: as, b :: bs, h => by
    have h1 := List.cons.inj h
    have h2 : a = b := V.ref.inj h1.1
    rw [h2, rs_inj h1.2]
theorem LLA.ats {H : Hp} {l x : Addr} {tss : List (List Tn)} {o o' : HO} (h : LLA H l tss) (hx : H x = some o) (no : Unit → ¬ IsTp o) (ne : ∀ as, H l = some (.lst (rs as)) → l ≠ x ∧ ∀ b ∈ as, b ≠ x) : LLA (upd H x o') l tss :=
  let ⟨as, h1, h2⟩ := h
  ⟨as, by rw [upd_ne (ne as h1).1]; exact h1, h2.put hx no (ne as h1).2⟩
section
variable {P : Program} {w : World} {K : PySem.W.Frag} {mg : Str → Option Value} {base : Heap}
def spWof : Sp := fun vs H Q _ => ∃ (a : Addr) (n p : Nat) (lock W : List Tn) (wt : List (List Tn)), vs = [.ref a] ∧ LockA H a n lock ∧ Grp n W ∧ Sub lock W ∧ spn n lock = W ∧ primeF W.length = some p ∧ PrOk p ∧ (lower n W).length ≤ 9 ∧ wgh n p (lower n W) 39 1 = some wt ∧
  Ret H Q fun H' q => LLA H' q wt
theorem ok_wof {f : Addr} {fd : FuncData} {k : Nat} (F : Fun K "weighed_of" "weighed_of" sWof f fd) (cP : Cal P w K mg base k "prime_of" spPrime) (cL : Cal P w K mg base k "lower_of" spLower) (cT : Cal P w K mg base k "term_of" spTerm) (ml : mg "len" = none) :
    FnOk P w K mg base CX0 (k + 1) f fd ["lock"] spWof := by
  refine F.ok scWof (fun vs H Q E h => ?_) (fun cdv A outer s H vs Q E hr h => ?_)
  · obtain ⟨a, n, p, lock, W, wt, rfl, _⟩ := h
    rfl
  · obtain ⟨a, n, p, lock, W, wt, rfl, hL, G, hs, hW, hpf, hpr, hnine, hwt, q⟩ := h
    refine ⟨_, pss_cons (ps_par3 (i := 1) (j := 2) (l := 3) (by rfl) scWof.nd rfl rfl rfl (by decide) (by decide) (by decide) rfl rfl rfl
        (pa_cons (pe_c cP hr (Nat.le_refl _) (by rfl) (pa_cons (pv 0) pa_nil)) (pa_cons (pe_c cL hr (Nat.le_refl _) (by rfl) (pa_cons (pv 0) pa_nil)) (pa_cons (pe_lst pa_nil) pa_nil))) (by rfl))
      (pss_one (ps_while PassesOwn.never (pt_val pe_bl)
        (pss_cons (ps_set (i := 4) scWof.nd rfl (.inl rfl) (pe_c cT hr (Nat.le_refl _) (by rfl) (pa_cons (pv 0) (pa_cons (pv 1) (pa_cons (pv 2) (pa_cons (pe_op op_add (pe_callB call_len_seq (by rfl) ml PySem.boot_len (pa_cons (pv 3) pa_nil)) pe_int) pa_nil))))))
        (pss_cons (ps_if (pt_cmpR op_eq (pe_callB call_len_seq (by rfl) ml PySem.boot_len (pa_cons (pv 4) pa_nil)) pe_int (nomark _)) (pss_one (ps_ret (pv 3))) pss_nil)
        (pss_one (ps_expr (pe_bm PySem.F.plainAttrs_list PySem.F.slot_list_append PySem.F.type_list_append mt_append (pv 3) (pa_cons (pv 4) pa_nil)))))))), ?_⟩
    have hlo := lower_ok hL.n16 G
    have hlow : ∀ T ∈ lower n W, Sub T W := fun T hT => (hlo T hT).1
    have hwk := wgh_ok (n := n) hL.n16 G (p := p) hlow
    refine ⟨.ref a, rfl, a, n, lock, W, rfl, hL, G.box hs, hW, fun H1 s1 => ?_⟩
    rw [hpf]
    refine ⟨.ref a, rfl, a, n, lock, W, rfl, hL.same s1, G, hs, hW, fun H2 lw s2 nlw hlw => ?_⟩
    refine ⟨Nat.zero_le _, fun fa nfa => ⟨nv p, .ref lw, .ref fa, rfl, ?_⟩⟩
    have sA := same_put (o := .lst []) (s1.trans s2) ((s1.trans s2).free nfa)
    have hlwA := hlw.same (same_upd (o := .lst []) nfa)
    refine ⟨fun m σ Hc => ∃ (pre rest : List (List Tn)) (fs : List Addr) (y4 : Option V), σ = [some (.ref a), some (nv p), some (.ref lw), some (.ref fa), y4] ∧ wt = pre ++ rest ∧ wgh n p (lower n W) m (pre.length + 1) = some rest ∧ m + pre.length = 39 ∧ Same H Hc ∧ LLA Hc lw (lower n W) ∧ (∀ as, Hc lw = some (.lst (rs as)) → lw ≠ fa ∧ ∀ b ∈ as, b ≠ fa) ∧ Hc fa = some (.lst (rs fs)) ∧ LAs Hc fs pre ∧ (∀ b ∈ fs, b ≠ fa),
      ⟨39, [], wt, [], none, rfl, rfl, hwt, rfl, sA, hlwA, ?_, upd_same, .nil, fun b hb => absurd hb List.not_mem_nil⟩, fun m σ Hc hWh => ?_⟩
    · intro as h
      have hne : lw ≠ fa := fun e => by
        obtain ⟨_, z, _⟩ := hlw
        rw [e, nfa] at z
        cases z
      refine ⟨hne, fun b hb e => ?_⟩
      obtain ⟨as', z1, z2⟩ := hlw
      rw [upd_ne hne, z1] at h
      have e9 : rs as' = rs as := by injection h with h; injection h with h
      have e10 : as' = as := rs_inj e9
      rw [e10] at z2
      obtain ⟨i, hi⟩ := List.getElem?_of_mem hb
      obtain ⟨ts, _, ⟨_, z3, _⟩⟩ := z2.get hi
      rw [e, nfa] at z3
      cases z3
    · obtain ⟨pre, rest, fs, y4, rfl, eW, hw9, hm, sc, hlwc, hne, hfa, hfs, hnf⟩ := hWh
      refine ⟨true, rfl, iteT ?_⟩
      cases m with
      | zero => cases hw9
      | succ m =>
        refine ⟨fun σ Hc => ∃ (pre rest : List (List Tn)) (fs : List Addr) (y4 : Option V), σ = [some (.ref a), some (nv p), some (.ref lw), some (.ref fa), y4] ∧ wt = pre ++ rest ∧ wgh n p (lower n W) m (pre.length + 1) = some rest ∧ m + pre.length = 39 ∧ Same H Hc ∧ LLA Hc lw (lower n W) ∧ (∀ as, Hc lw = some (.lst (rs as)) → lw ≠ fa ∧ ∀ b ∈ as, b ≠ fa) ∧ Hc fa = some (.lst (rs fs)) ∧ LAs Hc fs pre ∧ (∀ b ∈ fs, b ≠ fa),
          fun σ' H' h' => ⟨m, Nat.lt_succ_self _, h'⟩, ?_⟩
        have efs : fs.length = pre.length := hfs.len
        refine ⟨.ref a, rfl, nv p, rfl, .ref lw, rfl, .ref fa, rfl, fa, rs fs, rfl, .inl (SqL.of hfa), (fs.length : Int), 1, by rw [rs_len], rfl, ?_⟩
        refine ⟨a, lw, n, p, pre.length + 1, lock, W, lower n W, by rw [efs]; rfl, hL.same sc, hlwc, G, hlo, by omega, hpr, by omega, fun H3 t3 s3 n3 h3 => ?_⟩
        have hfa3 := s3 _ _ hfa
        obtain ⟨ts, ht1, ht2⟩ := id h3
        refine ⟨.ref t3, rfl, t3, rs ts, rfl, .inl (SqL.of ht1), rfl, _, rfl, ?_⟩
        rw [show decide (V.int ((rs ts).length : Int) = V.int 1) = decide ((rs ts).length = 1) from nv_eq _ 1, rs_len, ht2.len]
        by_cases hz : (trm n p (lower n W) (pre.length + 1)).length = 1
        · rw [decide_eq_true hz]
          have e9 : rest = [] := by
            rw [wgh, if_pos hz] at hw9
            exact (Option.some.inj hw9).symm
          refine iteT ⟨.ref fa, rfl, q H3 fa (sc.trans s3) ?_ ⟨fs, hfa3, ?_⟩⟩
          · exact (s1.trans s2).free nfa
          · rw [eW, e9, List.append_nil]; exact hfs.same s3
        · rw [decide_eq_false hz]
          rw [wgh, if_neg hz] at hw9
          cases e2 : wgh n p (lower n W) m (pre.length + 1 + 1) with
          | none => rw [e2] at hw9; cases hw9
          | some r' =>
            rw [e2] at hw9
            have hr' := Option.some.inj hw9
            have t3fa : t3 ≠ fa := fun e => by rw [e, hfa] at n3; cases n3
            refine iteF ⟨.ref fa, rfl, .inl ⟨rfl, _, SqL.of hfa3⟩, .ref t3, rfl, fa, rs fs, .ref t3, rfl, rfl, hfa3, ?_, ?_⟩
            · rw [rs_len]; exact few (by omega)
            · have hlw3 := hlwc.same s3
              have hne3 : ∀ as, H3 lw = some (.lst (rs as)) → lw ≠ fa ∧ ∀ b ∈ as, b ≠ fa := fun as h => by
                obtain ⟨as', z1, _⟩ := hlwc
                have z2 := s3 _ _ z1
                rw [h] at z2
                have e9 : rs as = rs as' := by injection z2 with z2; injection z2 with z2
                have e10 : as = as' := rs_inj e9
                rw [e10]
                exact hne as' z1
              refine ⟨pre ++ [trm n p (lower n W) (pre.length + 1)], r', fs ++ [t3], some (.ref t3), rfl, ?_, ?_, ?_, ?_, ?_, ?_, ?_, ?_, ?_⟩
              · rw [eW, ← hr']; simp
              · rw [List.length_append]; exact e2
              · rw [List.length_append, List.length_singleton]; omega
              · exact same_put (sc.trans s3) ((s1.trans s2).free nfa)
              · exact hlw3.ats hfa3 (fun _ z => by cases z) hne3
              · intro as h
                obtain ⟨as0, z1, _⟩ := id hlw3
                rw [upd_ne (hne3 as0 z1).1] at h
                exact hne3 as h
              · rw [upd_same, rs_snoc]
              · exact ((hfs.same s3).put hfa3 (fun _ z => by cases z) hnf).snoc (h3.put hfa3 (fun _ z => by cases z) t3fa)
              · intro b hb
                rcases List.mem_append.mp hb with z | z
                · exact hnf b z
                · rw [List.mem_singleton.mp z]; exact t3fa
end
end Lk
set_option Elab.async false
set_option linter.all false
set_option maxRecDepth 100000
namespace Lk
open PySem PySem.Spec PyProof.Rows L2 GxR
abbrev sWed : Stmt := topS 31
abbrev sSizes : Stmt := topS 32
abbrev sTold : Stmt := topS 33
theorem scWed : FnScope ["lock", "term"] ["lock"] (defScope sWed) := ⟨rfl, rfl, rfl, by decide +kernel, rfl, by decide +kernel, by decide +kernel⟩
theorem scSizes : FnScope ["lock", "prime", "terms", "found", "one", "other", "many", "count"] ["lock"] (defScope sSizes) := ⟨rfl, rfl, rfl, by decide +kernel, rfl, by decide +kernel, by decide +kernel⟩
theorem scTold : FnScope ["lock", "prime", "place", "count"] ["lock"] (defScope sTold) := ⟨rfl, rfl, rfl, by decide +kernel, rfl, by decide +kernel, by decide +kernel⟩
/-! tuples of tuples -/
inductive UAs (H : Hp) : List Addr → List (List Tn) → Prop
  | nil : UAs H [] []
  | cons {a : Addr} {ts : List Tn} {as : List Addr} {tss : List (List Tn)} : UA H a ts → UAs H as tss → UAs H (a :: as) (ts :: tss)
def UUA (H : Hp) (a : Addr) (tss : List (List Tn)) : Prop := ∃ as, H a = some (.tup (rs as)) ∧ UAs H as tss
section
variable {Pt : Addr} {H H' : Hp} {a b x : Addr} {as bs : List Addr} {ts : List Tn} {tss uss : List (List Tn)} {o o' : HO}
theorem UAs.same (s : Same H H') (h : UAs H as tss) : UAs H' as tss := by
  induction h with
  | nil => exact .nil
  | cons h _ ih => exact .cons (h.same s) ih
theorem UUA.same (s : Same H H') (h : UUA H a tss) : UUA H' a tss := let ⟨as, h1, h2⟩ := h; ⟨as, s _ _ h1, h2.same s⟩
theorem UAs.len (h : UAs H as tss) : as.length = tss.length := by
  induction h with
  | nil => rfl
  | cons _ _ ih => rw [List.length_cons, List.length_cons, ih]
theorem UAs.append (h : UAs H as tss) (h' : UAs H bs uss) : UAs H (as ++ bs) (tss ++ uss) := by
  induction h with
  | nil => exact h'
  | cons h _ ih => exact .cons h ih
theorem UAs.snoc (h : UAs H as tss) (h' : UA H a ts) : UAs H (as ++ [a]) (tss ++ [ts]) := h.append (.cons h' .nil)
theorem UA.put (h : UA H a ts) (hx : H x = some o) (no : Unit → ¬ IsTp o) : UA (upd H x o') a ts :=
  let ⟨as, h1, h2⟩ := h
  ⟨as, by rw [upd_ne (ne_of h1 hx fun e => no () (by rw [← e]; trivial))]; exact h1, h2.put hx no⟩
theorem UAs.put (h : UAs H as tss) (hx : H x = some o) (no : Unit → ¬ IsTp o) : UAs (upd H x o') as tss := by
  induction h with
  | nil => exact .nil
  | cons h _ ih => exact .cons (h.put hx no) ih
theorem SameT.free (s : SameT Pt H H') (h : H' a = none) : H a = none := by
  cases e : H a with
  | none => rfl
  | some o =>
    by_cases z : a = Pt
    · obtain ⟨ps, h1, _⟩ := s.tab
      rw [← z, h] at h1
      cases h1
    · have := s.keep a o z e
      rw [h] at this
      cases this
end
section
variable {P : Program} {w : World} {K : PySem.W.Frag} {mg : Str → Option Value} {base : Heap}
/-- what the callers of need_prime_lock know of a lock -/
structure LockP (H : Hp) (a : Addr) (n p : Nat) (lock W : List Tn) (wt : List (List Tn)) : Prop where
  lk : LockA H a n lock
  n2 : 2 ≤ n
  n9 : n ≤ 9
  l4 : lock.length ≤ 4
  grp : Grp n W
  sub : Sub lock W
  span : spn n lock = W
  pc : PrimeCase n lock W p wt
theorem LockP.same {H H' : Hp} {a : Addr} {n p : Nat} {lock W : List Tn} {wt : List (List Tn)} (s : Same H H') (h : LockP H a n p lock W wt) : LockP H' a n p lock W wt := ⟨h.lk.same s, h.n2, h.n9, h.l4, h.grp, h.sub, h.span, h.pc⟩
theorem LockP.sameT {Pt : Addr} {H H' : Hp} {a : Addr} {n p : Nat} {lock W : List Tn} {wt : List (List Tn)} (s : SameT Pt H H') (hT : TabG H Pt) (h : LockP H a n p lock W wt) : LockP H' a n p lock W wt := ⟨s.lock hT h.lk, h.n2, h.n9, h.l4, h.grp, h.sub, h.span, h.pc⟩
theorem LockP.wt {H : Hp} {a : Addr} {n p : Nat} {lock W : List Tn} {wt : List (List Tn)} (h : LockP H a n p lock W wt) : ∀ T ∈ wt, Sub T W ∧ Srt T :=
  wgh_ok h.lk.n16 h.grp (fun T hT => (lower_ok h.lk.n16 h.grp T hT).1) 39 1 wt h.pc.hwt
theorem wgh_len {n p : Nat} {terms : List (List Tn)} : ∀ (k w : Nat) (wt : List (List Tn)), wgh n p terms k w = some wt → wt.length ≤ k
  | 0, _, _, e => by cases e
  | k + 1, w, wt, e => by
    unfold wgh at e
    split at e
    · cases e; exact Nat.zero_le _
    · cases e2 : wgh n p terms k (w + 1) with
      | none => rw [e2] at e; cases e
      | some wt' =>
        rw [e2] at e
        cases e
        exact Nat.succ_le_succ (wgh_len k (w + 1) wt' e2)
theorem LockP.wtl {H : Hp} {a : Addr} {n p : Nat} {lock W : List Tn} {wt : List (List Tn)} (h : LockP H a n p lock W wt) : wt.length ≤ 39 := wgh_len 39 1 wt h.pc.hwt
def spWed (Pt : Addr) : Sp := fun vs H Q _ => ∃ (a : Addr) (n p : Nat) (lock W : List Tn) (wt : List (List Tn)), vs = [.ref a] ∧ LockP H a n p lock W wt ∧ TabG H Pt ∧ RetT Pt H Q fun H' q => UUA H' q wt
theorem ok_wed {f Pt C : Addr} {fd : FuncData} {k : Nat} (F : Fun K "weighed" "weighed" sWed f fd) (cN : CalX P w K mg base k "need_prime_lock" (spNeedP Pt C)) (cW : Cal P w K mg base k "weighed_of" spWof) (mt : mg "tuple" = none) :
    FnOk P w K mg base CX0 (k + 1) f fd ["lock"] (spWed Pt) := by
  refine F.ok scWed (fun vs H Q E h => ?_) (fun cdv A outer s H vs Q E hr h => ?_)
  · obtain ⟨a, n, p, lock, W, wt, rfl, _⟩ := h
    rfl
  · obtain ⟨a, n, p, lock, W, wt, rfl, hL, hTb, q⟩ := h
    refine ⟨_, pss_cons (ps_expr (pe_cx cN hr (Nat.le_refl _) (by rfl) (pa_cons (pv 0) pa_nil)))
      (pss_one (ps_ret (pe_tupleOf (by rfl) mt
        (pe_lc (own := [("term", 1)]) (g := gName 1) (tt := tYes) (te := tThen (tVar 1) (kTup K)) rfl scWed.nd (pi_list (pe_c cW hr (Nat.le_refl _) (by rfl) (pa_cons (pv 0) pa_nil))) (blkOk_by (N := ["lock", "term"]) (sc := defScope sWed) (by decide +kernel))
            (fun _ _ _ _ _ => pg_name (i := 1) scWed.nd rfl (Or.inl rfl)) (fun _ _ _ _ _ => pts_nil) (fun _ _ _ _ _ => pe_tupleOf (by rfl) mt (pv 1)))))), ?_⟩
    refine ⟨.ref a, rfl, a, n, lock, W, rfl, hL.lk, hL.n2, hL.n9, hL.l4, hL.grp.box hL.sub, hL.span, hTb, fun H1 s1 => ?_⟩
    rw [hL.pc.pr]
    have hL1 := hL.sameT s1 hTb
    refine ⟨.ref a, rfl, a, n, p, lock, W, wt, rfl, hL1.lk, hL.grp, hL.sub, hL.span, hL.pc.pr, hL.pc.ok, hL.pc.nine, hL.pc.hwt, fun H2 l s2 nl hl => ?_⟩
    obtain ⟨ls, hl1, hl2⟩ := hl
    refine ⟨l, rfl, ⟨_, SqL.of hl1⟩, fun D nD => ?_⟩
    refine lc_list (xs := rs ls) (fun j H' => Same H2 H' ∧ ∃ ds, H' D = some (.lst (rs ds)) ∧ UAs H' ds (wt.take j)) ⟨same_upd nD, [], upd_same, .nil⟩ (fun j H' _ h => SqL.of (h.1 _ _ hl1)) (fun j x H' hx h => ?_) (fun H' h => ?_)
    · obtain ⟨smj, ds, hD, hds⟩ := h
      obtain ⟨ta, hta, rfl⟩ := rs_get hx
      obtain ⟨T, hT, us, hu1, hu2⟩ := hl2.get hta
      refine ⟨rfl, ?_⟩
      refine ⟨.ref ta, rfl, .inl ⟨ta, rs us, rfl, SqL.of (smj _ _ hu1), fun q3 n3 => ?_⟩⟩
      have s3 := same_upd (o := .tup (rs us)) n3
      have hD3 := s3 _ _ hD
      refine ⟨_, hD3, ?_, same_put (smj.trans s3) nD, ds ++ [q3], ?_, ?_⟩
      · have e := hds.len
        have := hL.wtl
        rw [List.length_take] at e
        rw [rs_len]
        exact few (by omega)
      · rw [upd_same, rs_snoc]
      · rw [take_succ hT]
        have hnew : UA (upd H' q3 (.tup (rs us))) q3 T := ⟨us, upd_same, (hu2.same smj).same s3⟩
        exact ((hds.same s3).put hD3 fun _ z => by cases z).snoc (hnew.put hD3 fun _ z => by cases z)
    · obtain ⟨smj, ds, hD, hds⟩ := h
      rw [rs_len, hl2.len, List.take_length] at hds
      refine .inl ⟨D, rs ds, rfl, SqL.of hD, fun q3 n3 => ?_⟩
      have st := (s1.same s2).same smj
      refine q _ q3 (st.put1 n3) (st.free n3) ⟨ds, upd_same, hds.same (same_upd n3)⟩
end
end Lk
set_option Elab.async false
set_option linter.all false
set_option maxRecDepth 100000
namespace Lk
open PySem PySem.Spec PyProof.Rows L2 GxR
theorem szs_get {p : Nat} : ∀ (terms : List (List Tn)) (i : Nat) (one other : List Tn), terms[i]? = some one → terms[i + 1]? = some other → (szs p terms)[i]? = some (lgp p 64 (one.length / other.length))
  | [], _, _, _, h, _ => by cases h
  | [_], i, _, _, _, h => by cases i <;> cases h
  | a :: b :: r, 0, one, other, h, h2 => by
    cases h; cases h2; rfl
  | a :: b :: r, i + 1, one, other, h, h2 => szs_get (b :: r) i one other h h2
theorem szs_len {p : Nat} : ∀ (terms : List (List Tn)), (szs p terms).length = terms.length - 1
  | [] => rfl
  | [_] => rfl
  | _ :: b :: r => by rw [szs, List.length_cons, szs_len (b :: r), List.length_cons, List.length_cons, List.length_cons]; omega
theorem trm_ne {n : Nat} {W : List Tn} (hn : n ≤ 16) (G : Grp n W) (p : Nat) {terms : List (List Tn)} (w : Nat) (h : ∀ T ∈ terms, Sub T W) : 0 < (trm n p terms w).length := by
  have h1 := sub_setS hn G (powG_sub G p w terms 1 h)
  exact List.length_pos_of_mem (((G.span hn h1).mem (stl n)).mpr .nil)
theorem wgh_ne {n : Nat} {W : List Tn} (hn : n ≤ 16) (G : Grp n W) {p : Nat} {terms : List (List Tn)} (h : ∀ T ∈ terms, Sub T W) : ∀ (k w : Nat) (wt : List (List Tn)), wgh n p terms k w = some wt → ∀ T ∈ wt, 0 < T.length
  | 0, _, _, e => by cases e
  | k + 1, w, wt, e => by
    unfold wgh at e
    split at e
    · cases e; exact fun T hT => absurd hT List.not_mem_nil
    · cases e2 : wgh n p terms k (w + 1) with
      | none => rw [e2] at e; cases e
      | some wt' =>
        rw [e2] at e
        cases e
        intro T hT
        rcases List.mem_cons.mp hT with z | z
        · rw [z]; exact trm_ne hn G p w h
        · exact wgh_ne hn G h k (w + 1) wt' e2 T z
theorem LockP.terms {H : Hp} {a : Addr} {n p : Nat} {lock W : List Tn} {wt : List (List Tn)} (h : LockP H a n p lock W wt) : ∀ T ∈ wt ++ [[stl n]], Sub T W ∧ Srt T ∧ 0 < T.length ∧ T.length ≤ 60 := fun T hT => by
  have h1 := terms_ok (n := n) h.lk.n16 h.grp h.wt T hT
  have h2 := Nat.le_trans (sub_len h1.1 h1.2) h.grp.few
  refine ⟨h1.1, h1.2, ?_, h2⟩
  rcases List.mem_append.mp hT with z | z
  · exact wgh_ne h.lk.n16 h.grp (fun T hT => (lower_ok h.lk.n16 h.grp T hT).1) 39 1 wt h.pc.hwt T z
  · rw [List.mem_singleton.mp z]; exact Nat.zero_lt_one
theorem cut_tail (xs : List V) : cutV xs (some 1) none = xs.drop 1 := by
  cases xs with
  | nil => rfl
  | cons x xs =>
    have h1 : HT.sIx (x :: xs).length 0 (some 1) = 1 := by
      have := HT.sIx_nat (x :: xs).length 0 1
      rw [List.length_cons] at *
      exact this.trans (by omega)
    unfold cutV
    rw [h1, HT.sIx_none, List.drop_succ_cons, List.drop_zero, List.take_of_length_le (by rw [List.length_cons]; omega)]
section
variable {P : Program} {w : World} {K : PySem.W.Frag} {mg : Str → Option Value} {base : Heap}
def spSizes : Sp := fun vs H Q _ => ∃ (a : Addr) (n p : Nat) (lock W : List Tn) (wt : List (List Tn)), vs = [.ref a] ∧ LockP H a n p lock W wt ∧ Ret H Q fun H' q => H' q = some (.lst (tv (szs p (wt ++ [[stl n]]))))
theorem ok_sizes {f : Addr} {fd : FuncData} {k : Nat} (F : Fun K "sizes_of" "sizes_of" sSizes f fd) (cP : Cal P w K mg base k "prime_of" spPrime) (cW : Cal P w K mg base k "weighed_of" spWof) (cS : Cal P w K mg base k "still" spStill) (ml : mg "len" = none) (mz : mg "zip" = none) :
    FnOk P w K mg base CX0 (k + 1) f fd ["lock"] spSizes := by
  refine F.ok scSizes (fun vs H Q E h => ?_) (fun cdv A outer s H vs Q E hr h => ?_)
  · obtain ⟨a, n, p, lock, W, wt, rfl, _⟩ := h
    rfl
  · obtain ⟨a, n, p, lock, W, wt, rfl, hL, q⟩ := h
    obtain ⟨as, a0, t0, ha, hT, h0, hA0, hl0⟩ := hL.lk.fst
    refine ⟨_, pss_cons (ps_set (i := 1) scSizes.nd rfl (.inl rfl) (pe_c cP hr (Nat.le_refl _) (by rfl) (pa_cons (pv 0) pa_nil)))
      (pss_cons (ps_set (i := 2) scSizes.nd rfl (.inl rfl) (pe_op op_cat (pe_c cW hr (Nat.le_refl _) (by rfl) (pa_cons (pv 0) pa_nil))
        (pe_lst (pa_cons (pe_lst (pa_cons (pe_c cS hr (Nat.le_refl _) (by rfl) (pa_cons (pe_callB call_len_seq (by rfl) ml PySem.boot_len (pa_cons (pe_ix ix_tup (pv 0) pe_int (fun _ _ => rfl)) pa_nil)) pa_nil)) pa_nil)) pa_nil))))
      (pss_cons (ps_set (i := 3) scSizes.nd rfl (.inl rfl) (pe_lst pa_nil))
      (pss_cons (ps_for PassesOwn.never rfl (pi_zip (by rfl) mz (pa_cons (pv 2) (pa_cons (pe_slice sl_list (pv 2) (po_some pe_int) po_none) pa_nil))) (pg_tup rfl (pgs_cons (pg_name (i := 4) scSizes.nd rfl (.inl rfl)) (pgs_cons (pg_name (i := 5) scSizes.nd rfl (.inl rfl)) pgs_nil)))
        (pss_cons (ps_par (i := 6) (j := 7) (by rfl) scSizes.nd rfl rfl (by decide) rfl rfl (pa_cons (pe_op op_fdivW (pe_callB call_len_seq (by rfl) ml PySem.boot_len (pa_cons (pv 4) pa_nil)) (pe_callB call_len_seq (by rfl) ml PySem.boot_len (pa_cons (pv 5) pa_nil))) (pa_cons pe_int pa_nil)) (by rfl))
        (pss_cons (ps_while PassesOwn.never (pt_cmpR op_gt (pv 6) pe_int (nomark _)) (pss_cons (ps_aug (i := 6) scSizes.nd rfl (.inl rfl) (pv 1) iop_fdivW) (pss_one (ps_aug (i := 7) scSizes.nd rfl (.inl rfl) pe_int ip_add))))
        (pss_one (ps_expr (pe_bm PySem.F.plainAttrs_list PySem.F.slot_list_append PySem.F.type_list_append mt_append (pv 3) (pa_cons (pv 7) pa_nil)))))))
      (pss_one (ps_ret (pv 3)))))), ?_⟩
    refine ⟨.ref a, rfl, a, n, lock, W, rfl, hL.lk, hL.grp.box hL.sub, hL.span, fun H1 s1 => ?_⟩
    rw [hL.pc.pr]
    have L1 := hL.same s1
    refine ⟨.ref a, rfl, a, n, p, lock, W, wt, rfl, L1.lk, hL.grp, hL.sub, hL.span, hL.pc.pr, hL.pc.ok, hL.pc.nine, hL.pc.hwt, fun H2 l s2 nl hl => ?_⟩
    have s12 := s1.trans s2
    refine ⟨.ref a, rfl, a, rs as, 0, .ref a0, rfl, rfl, SqT.of (s12 _ _ ha), h0, a0, tv t0, rfl, .inr (sqA (hA0.same s12)), n, by rw [tv_len, hl0]; rfl, by have := hL.lk.n16; omega, fun H3 st s3 nst hst => ?_⟩
    refine ⟨fewe (by simp), fun p2 np2 => ⟨fewe (by simp), fun p3 np3 => ?_⟩⟩
    have s13 := s12.trans s3
    have sp2 := same_upd (o := .lst [.ref st]) np2
    have sp3 := same_upd (o := .lst [.ref p2]) np3
    obtain ⟨ls, hl1, hl2⟩ := hl
    have hl3 := sp3 _ _ (sp2 _ _ (s3 _ _ hl1))
    have hl4 : LAs (upd (upd H3 p2 (.lst [.ref st])) p3 (.lst [.ref p2])) (ls ++ [p2]) (wt ++ [[stl n]]) := by
      refine LAs.snoc (((hl2.same s3).same sp2).same sp3) ⟨[st], sp3 _ _ upd_same, .cons ((hst.same sp2).same sp3) .nil⟩
    have s15 := (s13.trans sp2).trans sp3
    have hp3 : (upd (upd H3 p2 (.lst [.ref st])) p3 (.lst [.ref p2])) p3 = some (.lst (rs [p2])) := upd_same
    generalize (upd (upd H3 p2 (.lst [.ref st])) p3 (.lst [.ref p2])) = H5 at *
    have hlen := hL.wtl
    refine ⟨l, p3, rs ls, rs [p2], rfl, rfl, hl3, hp3, ?_, fun tA nt => ?_⟩
    · rw [rs_len, hl2.len]; exact fewe (by simp [rs]; omega)
    have sA := same_upd (o := .lst (rs ls ++ rs [p2])) nt
    have htA : (upd H5 tA (.lst (rs ls ++ rs [p2]))) tA = some (.lst (rs (ls ++ [p2]))) := by rw [upd_same]; unfold rs; rw [List.map_append]
    have hTs := hl4.same sA
    have s16 := s15.trans sA
    generalize (upd H5 tA (.lst (rs ls ++ rs [p2]))) = H6 at *
    clear hl4
    refine ⟨Nat.zero_le _, fun fa nfa => ?_⟩
    have sF := same_upd (o := .lst []) nfa
    have s17 := s16.trans sF
    have htA7 := sF _ _ htA
    have hTs7 := hTs.same sF
    refine ⟨.ref tA, rfl, .ref tA, rfl, 1, rfl, tA, rs (ls ++ [p2]), rfl, SqL.of htA7, fun sl nsl => ?_⟩
    have sS := same_upd (o := .lst (cutV (rs (ls ++ [p2])) (some 1) none)) nsl
    have hsl : (upd (upd H6 fa (.lst [])) sl (.lst (cutV (rs (ls ++ [p2])) (some 1) none))) sl = some (.lst ((rs (ls ++ [p2])).drop 1)) := by rw [upd_same, cut_tail]
    have hfa : (upd (upd H6 fa (.lst [])) sl (.lst (cutV (rs (ls ++ [p2])) (some 1) none))) fa = some (.lst (tv [])) := sS _ _ upd_same
    have s18 := s17.trans sS
    have htA8 := sS _ _ htA7
    have hTs8 := hTs7.same sS
    have ne1 : tA ≠ fa := ne_of_none htA nfa
    have ne2 : sl ≠ fa := fun e => by
      have : (upd H6 fa (.lst [])) fa = some (.lst []) := upd_same
      rw [e, this] at nsl
      cases nsl
    have nfaH : H fa = none := s16.free nfa
    generalize (upd (upd H6 fa (.lst [])) sl (.lst (cutV (rs (ls ++ [p2])) (some 1) none))) = H8 at *
    have hT := hL.terms
    generalize hts : wt ++ [[stl n]] = terms at *
    have hlt : terms.length ≤ 40 := by rw [← hts, List.length_append, List.length_singleton]; omega
    generalize ls ++ [p2] = rsA at *
    have eL : rsA.length = terms.length := hTs8.len
    have hp3' : p ≤ 3 ∧ 2 ≤ p := by rcases hL.pc.ok with z | z <;> omega
    refine ⟨tA, sl, rs rsA, (rs rsA).drop 1, rfl, SqL.of htA8, SqL.of hsl, for_it (walk_zip (xs := rs rsA) (ys := (rs rsA).drop 1) (n := terms.length - 1) (by rw [List.length_drop, rs_len, eL]; omega))
      (fun i σ H' => ∃ y4 y5 y6 y7, σ = [some (.ref a), some (nv p), some (.ref tA), some (.ref fa), y4, y5, y6, y7] ∧ Same H H' ∧ (∀ b o, b ≠ fa → H8 b = some o → H' b = some o) ∧ H' fa = some (.lst (tv ((szs p terms).take i)))) ⟨_, _, _, _, rfl, s18, fun b o _ h => h, hfa⟩
      (fun i σ H' _ h => ?_) (fun i x σ H' H9 hi h y => ?_) (fun σ H' h => ?_)⟩
    · obtain ⟨_, _, _, _, _, _, kp, _⟩ := h
      exact ⟨SqL.of (kp _ _ ne1 htA8), SqL.of (kp _ _ ne2 hsl)⟩
    · obtain ⟨y4, y5, y6, y7, rfl, sm, kp, hf⟩ := h
      obtain ⟨T, x1, x2, rfl, nT, rfl, e1, e2⟩ := y
      obtain ⟨b1, hb1, rfl⟩ := rs_get e1
      have e2 : ((rs rsA).drop 1)[i]? = some x2 := e2
      rw [List.getElem?_drop, Nat.add_comm 1 i] at e2
      obtain ⟨b2, hb2, rfl⟩ := rs_get e2
      obtain ⟨one, ho1, us1, hu1, hu2⟩ := hTs8.get hb1
      obtain ⟨other, ho2, us3, hu3, hu4⟩ := hTs8.get hb2
      have sT := same_upd (o := .tup [.ref b1, .ref b2]) nT
      have tl1 := hT one (List.mem_of_getElem? ho1)
      have tl2 := hT other (List.mem_of_getElem? ho2)
      have nb1 : b1 ≠ fa := fun e => by rw [e, hfa] at hu1; injection hu1 with z; injection z with z; have := congrArg List.length z; rw [rs_len, hu2.len] at this; exact absurd this (by simp [tv]; omega)
      have nb2 : b2 ≠ fa := fun e => by rw [e, hfa] at hu3; injection hu3 with z; injection z with z; have := congrArg List.length z; rw [rs_len, hu4.len] at this; exact absurd this (by simp [tv]; omega)
      have g1 := sT _ _ (kp _ _ nb1 hu1)
      have g3 := sT _ _ (kp _ _ nb2 hu3)
      have sm2 := sm.trans sT
      have kp2 : ∀ b o, b ≠ fa → H8 b = some o → (upd H' T (.tup [.ref b1, .ref b2])) b = some o := fun b o h e => sT _ _ (kp b o h e)
      have hf2 := sT _ _ hf
      have hTu : (upd H' T (.tup [.ref b1, .ref b2])) T = some (.tup [.ref b1, .ref b2]) := upd_same
      generalize (upd H' T (.tup [.ref b1, .ref b2])) = H10 at *
      refine ⟨T, [.ref b1, .ref b2], rfl, SqT.of hTu, rfl, .ref b1, [.ref b2], rfl, .ref b2, [], rfl, rfl, ?_⟩
      refine ⟨.ref b1, rfl, b1, rs us1, rfl, .inl (SqL.of g1), .ref b2, rfl, b2, rs us3, rfl, .inl (SqL.of g3), (one.length : Int), (other.length : Int), by rw [rs_len, hu2.len], by rw [rs_len, hu4.len], divW tl2.2.2.1 (by omega) _, nv (one.length / other.length), nv 0, ?_, ?_⟩
      · show [V.int ((one.length : Int) / (other.length : Int)), V.int 0] = _
        rw [← Int.natCast_ediv]; rfl
      refine ⟨fun k σ H'' => ∃ m c : Nat, σ = [some (.ref a), some (nv p), some (.ref tA), some (.ref fa), some (.ref b1), some (.ref b2), some (nv m), some (nv c)] ∧ H10 = H'' ∧ c + lgp p k m = lgp p 64 (one.length / other.length) ∧ m ≤ k ∧ m ≤ 60 ∧ c + k ≤ 64,
        ⟨64, one.length / other.length, 0, rfl, rfl, Nat.zero_add _, ?_, ?_, by omega⟩, fun k σ H'' hW => ?_⟩
      · have := Nat.div_le_self one.length other.length; omega
      · have := Nat.div_le_self one.length other.length; omega
      obtain ⟨m, c, rfl, rfl, hc, hmk, hm60, hck⟩ := hW
      refine ⟨nv m, rfl, (m : Int), 1, rfl, rfl, _, rfl, ?_⟩
      by_cases hz : 1 < m
      · rw [show decide ((m : Int) > 1) = true from decide_eq_true (by omega)]
        cases k with
        | zero => omega
        | succ k =>
          refine iteT ⟨fun σ H'' => ∃ m c : Nat, σ = [some (.ref a), some (nv p), some (.ref tA), some (.ref fa), some (.ref b1), some (.ref b2), some (nv m), some (nv c)] ∧ H10 = H'' ∧ c + lgp p k m = lgp p 64 (one.length / other.length) ∧ m ≤ k ∧ m ≤ 60 ∧ c + k ≤ 64,
            fun σ' H' h' => ⟨k, Nat.lt_succ_self _, h'⟩, ?_⟩
          have hlt2 : m / p < m := Nat.div_lt_self (by omega) (by omega)
          refine ⟨nv m, rfl, nv p, rfl, (m : Int), (p : Int), rfl, rfl, divW (by omega) (by omega) _, nv c, rfl, (c : Int), 1, rfl, rfl, m / p, c + 1, ?_, rfl, ?_, by omega, by omega, by omega⟩
          · show [some (.ref a), some (nv p), some (.ref tA), some (.ref fa), some (.ref b1), some (.ref b2), some (V.int ((m : Int) / (p : Int))), some (nv (c + 1))] = _
            rw [← Int.natCast_ediv]; rfl
          · rw [← hc, lgp, if_pos hz]; omega
      · rw [show decide ((m : Int) > 1) = false from decide_eq_false (by omega)]
        have e9 : lgp p k m = 0 := by cases k with
          | zero => rfl
          | succ k => rw [lgp, if_neg hz]
        rw [e9] at hc
        refine iteF ⟨.ref fa, rfl, .inl ⟨rfl, _, SqL.of hf2⟩, nv c, rfl, fa, _, nv c, rfl, rfl, hf2, ?_, ?_⟩
        · rw [tv_len, List.length_take]; exact few (by omega)
        · refine ⟨_, _, _, _, rfl, same_put sm2 nfaH, fun b o h e => by rw [upd_ne h]; exact kp2 b o h e, ?_⟩
          rw [upd_same, tv_snoc, take_succ (szs_get terms i one other ho1 ho2), ← hc, Nat.add_zero]
    · obtain ⟨y4, y5, y6, y7, rfl, sm, kp, hf⟩ := h
      rw [← szs_len (p := p) terms, List.take_length] at hf
      exact ⟨.ref fa, rfl, q H' fa sm nfaH hf⟩
end
end Lk
set_option Elab.async false
set_option linter.all false
set_option maxRecDepth 100000
namespace Lk
open PySem PySem.Spec PyProof.Rows L2 GxR
theorem mulW2 {i j : Nat} (hi : i ≤ 400000) (hj : j ≤ 400000) : CMulW (i : Int) (j : Int) := by
  have h1 := log2_le i
  have h2 := log2_le j
  show ((i : Int)).natAbs.log2 + ((j : Int)).natAbs.log2 < 1000000
  rw [Int.natAbs_natCast, Int.natAbs_natCast]
  omega
def wl : Nat → List Nat → List Nat
  | _, [] => []
  | j, c :: r => j * c :: wl (j + 1) r
theorem wl_sum : ∀ (r : List Nat) (j : Nat), (wl j r).sum = wsum j r
  | [], _ => rfl
  | c :: r, j => by rw [wl, wsum, List.sum_cons, wl_sum r (j + 1)]
theorem wl_get : ∀ (r : List Nat) (j i c : Nat), r[i]? = some c → (wl j r)[i]? = some ((j + i) * c)
  | [], _, _, _, h => by cases h
  | _ :: _, j, 0, _, h => by cases h; rfl
  | _ :: r, j, i + 1, c, h => by
    have := wl_get r (j + 1) i c h
    rw [show j + 1 + i = j + (i + 1) by omega] at this
    exact this
theorem wl_len : ∀ (r : List Nat) (j : Nat), (wl j r).length = r.length
  | [], _ => rfl
  | c :: r, j => by rw [wl, List.length_cons, wl_len r (j + 1), List.length_cons]
theorem ti_sum : ∀ t : List Nat, (ti t).sum = ((t.sum : Nat) : Int)
  | [] => rfl
  | x :: t => by
    show (x : Int) + (ti t).sum = _
    rw [ti_sum t, List.sum_cons, Int.natCast_add]
theorem lgp_le (p : Nat) : ∀ k m, lgp p k m ≤ k
  | 0, _ => Nat.le_refl _
  | k + 1, m => by
    unfold lgp
    split
    · exact Nat.succ_le_succ (lgp_le p k _)
    · exact Nat.zero_le _
theorem szs_le {p : Nat} : ∀ (terms : List (List Tn)), ∀ c ∈ szs p terms, c ≤ 64
  | [], c, h => by cases h
  | [_], c, h => by cases h
  | a :: b :: r, c, h => by
    rw [szs] at h
    rcases List.mem_cons.mp h with z | z
    · rw [z]; exact lgp_le p 64 _
    · exact szs_le (b :: r) c z
theorem wsum_le : ∀ (r : List Nat) (j : Nat), (∀ c ∈ r, c ≤ 64) → wsum j r ≤ r.length * ((j + r.length) * 64)
  | [], _, _ => Nat.zero_le _
  | c :: r, j, h => by
    have h1 := wsum_le r (j + 1) fun x hx => h x (List.mem_cons_of_mem _ hx)
    have h2 : j * c ≤ (j + (r.length + 1)) * 64 := Nat.mul_le_mul (by omega) (h c List.mem_cons_self)
    rw [wsum, List.length_cons, Nat.succ_mul]
    rw [show j + 1 + r.length = j + (r.length + 1) by omega] at h1
    omega
section
variable {P : Program} {w : World} {K : PySem.W.Frag} {mg : Str → Option Value} {base : Heap}
def spTold (Pt C : Addr) : Sp := fun vs H Q E => ∃ (a : Addr) (n : Nat) (lock W : List Tn), vs = [.ref a] ∧ LockA H a n lock ∧ 2 ≤ n ∧ n ≤ 9 ∧ lock.length ≤ 4 ∧ Grp n W ∧ Sub lock W ∧ spn n lock = W ∧ TabG H Pt ∧
  ((primeF W.length = none ∧ ∀ H', SameT Pt H H' → E (.ref C) none H') ∨ ∃ p wt, PrimeCase n lock W p wt ∧ ∀ H', SameT Pt H H' → Q (nv (toldF p (wt ++ [[stl n]]))) H')
theorem ok_told {f Pt C : Addr} {fd : FuncData} {k : Nat} (F : Fun K "told_number" "told_number" sTold f fd) (cN : CalX P w K mg base k "need_prime_lock" (spNeedP Pt C)) (cS : Cal P w K mg base k "sizes_of" spSizes) (me : mg "enumerate" = none) (ms : mg "sum" = none) :
    FnOk P w K mg base (L2.CX P w) (k + 1) f fd ["lock"] (spTold Pt C) := by
  refine F.okX scTold (fun vs H Q E h => ?_) (fun cdv A outer s H vs Q E hr h => ?_)
  · obtain ⟨a, n, lock, W, rfl, _⟩ := h
    rfl
  · obtain ⟨a, n, lock, W, rfl, hL, hn2, hn9, hl4, G, hs, hW, hTb, q⟩ := h
    refine ⟨_, pss_cons (ps_set (i := 1) scTold.nd rfl (.inl rfl) (pe_cxW (W := fun cls d _ H => E cls d H) cN hr (Nat.le_refl _) (by rfl) (takes_of rfl rfl rfl rfl) (pa_cons (pv 0) pa_nil)))
      (pss_one (ps_ret (pe_op op_mulW (pe_op op_sub (pv 1) pe_int) (pe_callB (cr_sum rfl) (by rfl) ms (by decide +kernel) (pa_cons
        (pe_lc (own := [("place", 2), ("count", 3)]) (g := gTup K 2 (gCons (gName 2) (gCons (gName 3) gNil))) (tt := tYes) (te := tOp (rI CMulW fun i j => .int (i * j)) (tOp (rI0 fun i j => .int (i + j)) (tVar 2) (tC (.int 1))) (tVar 3)) rfl scTold.nd (pi_enum (by rfl) me (pa_cons (pe_c cS hr (Nat.le_refl _) (by rfl) (pa_cons (pv 0) pa_nil)) pa_nil)) (blkOk_by (N := ["lock", "prime", "place", "count"]) (sc := defScope sTold) (by decide +kernel))
            (fun _ _ _ _ _ => pg_tup rfl (pgs_cons (pg_name (i := 2) scTold.nd rfl (Or.inl rfl)) (pgs_cons (pg_name (i := 3) scTold.nd rfl (Or.inl rfl)) pgs_nil))) (fun _ _ _ _ _ => pts_nil) (fun _ _ _ _ _ => pe_op op_mulW (pe_op op_add (pv 2) pe_int) (pv 3))) pa_nil))))), ?_⟩
    refine ⟨.ref a, rfl, a, n, lock, W, rfl, hL, hn2, hn9, hl4, G.box hs, hW, hTb, fun H1 s1 => ?_⟩
    rcases q with ⟨h1, q⟩ | ⟨p, wt, pc, q⟩
    · rw [h1]
      exact q H1 s1
    · rw [pc.pr]
      have LP : LockP H a n p lock W wt := ⟨hL, hn2, hn9, hl4, G, hs, hW, pc⟩
      have LP1 := LP.sameT s1 hTb
      have hp3 : p ≤ 3 ∧ 2 ≤ p := by rcases pc.ok with z | z <;> omega
      refine ⟨nv p, rfl, (p : Int), 1, rfl, rfl, .ref a, rfl, a, n, p, lock, W, wt, rfl, LP1, fun H2 l s2 nl hl => ?_⟩
      have q := fun H' (s' : Same H2 H') => q H' ((s1.same s2).same s')
      generalize hcs : szs p (wt ++ [[stl n]]) = cs at *
      have hcl : cs.length ≤ 40 := by
        have := LP.wtl
        rw [← hcs, szs_len, List.length_append, List.length_singleton]
        omega
      have hc64 : ∀ c ∈ cs, c ≤ 64 := by rw [← hcs]; exact szs_le _
      refine ⟨l, tv cs, rfl, SqL.of hl, fun D nD => ?_⟩
      refine lc_it (walk_enum (xs := tv cs)) (fun i H' => Same H2 H' ∧ H' D = some (.lst (tv ((wl 1 cs).take i)))) ⟨same_upd nD, upd_same⟩ (fun i H' _ h => SqL.of (h.1 _ _ hl)) (fun i x H' H3 hi h y => ?_) (fun H' h => ?_)
      · obtain ⟨sm, hD⟩ := h
        obtain ⟨T, x1, x2, rfl, nT, rfl, e1, e2⟩ := y
        obtain rfl := Option.some.inj e1
        obtain ⟨c, hc, rfl⟩ := tv_get e2
        have hcm := hc64 c (List.mem_of_getElem? hc)
        have hi2 := get_lt hc
        have sT := same_upd (o := .tup [V.int (i : Nat), nv c]) nT
        refine ⟨T, [V.int (i : Nat), nv c], rfl, SqT.of upd_same, rfl, V.int (i : Nat), [nv c], rfl, nv c, [], rfl, rfl, rfl, ?_⟩
        refine ⟨nv i, rfl, (i : Int), 1, rfl, rfl, nv c, rfl, ((i + 1 : Nat) : Int), (c : Int), rfl, rfl, mulW (by omega) (by omega), _, sT _ _ hD, ?_, ?_, ?_⟩
        · rw [tv_len, List.length_take]; exact few (by omega)
        · exact same_put (sm.trans sT) nD
        · rw [upd_same, take_succ (wl_get cs 1 i c hc), ← tv_snoc, Nat.add_comm 1 i]
          rfl
      · obtain ⟨sm, hD⟩ := h
        rw [tv_len, ← wl_len cs 1, List.take_length] at hD
        refine ⟨D, ti (wl 1 cs), rfl, by rw [ti_tv]; exact SqL.of hD, ?_⟩
        rw [ti_sum, wl_sum]
        have hb := wsum_le cs 1 hc64
        have hb2 : cs.length * ((1 + cs.length) * 64) ≤ 40 * (41 * 64) := Nat.mul_le_mul hcl (Nat.mul_le_mul (by omega) (Nat.le_refl _))
        refine ⟨((p - 1 : Nat) : Int), ((wsum 1 cs : Nat) : Int), ?_, rfl, mulW2 (by omega) (by omega), ?_⟩
        · show V.int ((p : Int) - 1) = V.int _
          congr 1; omega
        · have := q H' sm
          unfold toldF at this
          rw [hcs] at this
          show Q (V.int (((p - 1 : Nat) : Int) * ((wsum 1 cs : Nat) : Int))) H'
          rw [← Int.natCast_mul]
          exact this
end
end Lk
set_option Elab.async false
set_option linter.all false
set_option maxRecDepth 100000
namespace Lk
open PySem PySem.Spec PyProof.Rows L2 GxR
/-! commutators: what their table keeps -/
structure CO (W lock : List Tn) (k : Nat) (d : List (Tn × List Tn)) : Prop where
  ok : ComOk W lock d
  nd : (d.map (·.1)).Nodup
  len : ∀ p ∈ d, p.2.length = k
theorem CO.few {n : Nat} {W lock : List Tn} {k : Nat} {d : List (Tn × List Tn)} (G : Grp n W) (c : CO W lock k d) : d.length ≤ 60 := by
  have := pigeon (d.map (·.1)) W c.nd fun t ht => by
    obtain ⟨p, hp, e⟩ := List.mem_map.mp ht
    rw [← e]; exact (c.ok p hp).1
  rw [List.length_map] at this
  exact Nat.le_trans this G.few
theorem CO.nil {W lock : List Tn} {k : Nat} : CO W lock k [] := ⟨fun p hp => absurd hp List.not_mem_nil, List.nodup_nil, fun p hp => absurd hp List.not_mem_nil⟩
theorem setD_in {k : Tn} {v : List Tn} {d : List (Tn × List Tn)} (h : k ∈ d.map (·.1)) : setD k v d = d := by
  unfold setD; rw [if_pos (List.contains_iff_mem.mpr h)]
theorem setD_out {k : Tn} {v : List Tn} {d : List (Tn × List Tn)} (h : k ∉ d.map (·.1)) : setD k v d = d ++ [(k, v)] := by
  unfold setD; rw [if_neg fun z => h (List.contains_iff_mem.mp z)]
theorem CO.set {W lock : List Tn} {k : Nat} {d : List (Tn × List Tn)} {t : Tn} {v : List Tn} (c : CO W lock k d) (ht : t ∈ W) (hv : Sub v lock) (hl : v.length = k) (hk : 1 ≤ k) : CO W lock k (setD t v d) := by
  have hne : v ≠ [] := fun e => by rw [e] at hl; simp at hl; omega
  refine ⟨comOk_setD c.ok ht hv hne, ?_, ?_⟩
  · by_cases h : t ∈ d.map (·.1)
    · rw [setD_in h]; exact c.nd
    · rw [setD_out h, List.map_append]
      exact List.nodup_append.mpr ⟨c.nd, List.pairwise_singleton _ _, fun a ha b hb => by
        rw [List.map_singleton, List.mem_singleton] at hb
        rw [hb]
        exact fun e => h (by have e : a = t := e; rw [← e]; exact ha)⟩
  · by_cases h : t ∈ d.map (·.1)
    · rw [setD_in h]; exact c.len
    · rw [setD_out h]
      intro p hp
      rcases List.mem_append.mp hp with z | z
      · exact c.len p z
      · rw [List.mem_singleton.mp z]; exact hl
theorem co_fold1 {W lock : List Tn} (hs : Sub lock W) : ∀ (l : List Tn) (d : List (Tn × List Tn)), Sub l lock → CO W lock 1 d → CO W lock 1 (l.foldl (fun d t => setD t [t] d) d)
  | [], _, _, c => c
  | t :: r, d, hl, c => by
    have ht := hl t List.mem_cons_self
    exact co_fold1 hs r _ (fun x hx => hl x (List.mem_cons_of_mem _ hx)) (c.set (hs t ht) (fun x hx => by rw [List.mem_singleton.mp hx]; exact ht) rfl (Nat.le_refl _))
theorem co_row {n : Nat} {W lock : List Tn} (G : Grp n W) (hs : Sub lock W) {k : Nat} {tg : Tn × List Tn} (h1 : tg.1 ∈ W) (h2 : Sub tg.2 lock) (h3 : tg.2.length = k) : ∀ (l : List Tn) (e : List (Tn × List Tn)), Sub l lock → CO W lock (k + 1) e → CO W lock (k + 1) (l.foldl (fun e o => setD (swp tg.1 o) (tg.2 ++ [o]) e) e)
  | [], _, _, c => c
  | o :: r, e, hl, c => by
    have ho := hl o List.mem_cons_self
    refine co_row G hs h1 h2 h3 r _ (fun x hx => hl x (List.mem_cons_of_mem _ hx)) (c.set (G.swp h1 (hs o ho)) (fun x hx => ?_) (by rw [List.length_append, h3]; rfl) (by omega))
    rcases List.mem_append.mp hx with z | z
    · exact h2 x z
    · rw [List.mem_singleton.mp z]; exact ho
theorem co_step {n : Nat} {W lock : List Tn} (G : Grp n W) (hs : Sub lock W) {k : Nat} : ∀ (d e : List (Tn × List Tn)), CO W lock k d → CO W lock (k + 1) e → CO W lock (k + 1) (d.foldl (fun e tg => comR lock tg e) e)
  | [], _, _, c => c
  | tg :: r, e, hd, c => by
    have h := hd.ok tg List.mem_cons_self
    exact co_step G hs r _ ⟨fun p hp => hd.ok p (List.mem_cons_of_mem _ hp), (List.nodup_cons.mp hd.nd).2, fun p hp => hd.len p (List.mem_cons_of_mem _ hp)⟩ (co_row G hs h.1 h.2.1 (hd.len tg List.mem_cons_self) lock e (fun x hx => hx) c)
theorem co_com {n : Nat} {W lock : List Tn} (G : Grp n W) (hs : Sub lock W) : ∀ k, CO W lock (k + 1) (com lock k)
  | 0 => co_fold1 hs lock [] (fun x hx => hx) .nil
  | k + 1 => co_step G hs _ [] (co_com G hs k) .nil
/-! their table in the heap -/
inductive GAs (H : Hp) : List FE → List (Tn × List Tn) → Prop
  | nil : GAs H [] []
  | cons {t : Tn} {g : List Tn} {q a : Addr} {kvs : List FE} {d : List (Tn × List Tn)} : TA H q t → UZ H a g → GAs H kvs d → GAs H ((tk t, q, a) :: kvs) ((t, g) :: d)
section
variable {H H' : Hp} {x a q : Addr} {o o' : HO} {kvs kvs' : List FE} {d d' : List (Tn × List Tn)} {t : Tn} {g : List Tn}
theorem GAs.same (s : Same H H') (h : GAs H kvs d) : GAs H' kvs d := by
  induction h with
  | nil => exact .nil
  | cons h1 h _ ih => exact .cons (h1.same s) (h.same s) ih
theorem GAs.put (h : GAs H kvs d) (hx : H x = some o) (no : Unit → ¬ IsTp o) : GAs (upd H x o') kvs d := by
  induction h with
  | nil => exact .nil
  | cons h1 h _ ih => exact .cons (h1.put hx no) (h.put hx no) ih
theorem GAs.len (h : GAs H kvs d) : kvs.length = d.length := by
  induction h with
  | nil => rfl
  | cons _ _ _ ih => rw [List.length_cons, List.length_cons, ih]
theorem TA.keyR {K : PySem.W.Frag} {H : Hp} {q : Addr} {t : Tn} (h : TA H q t) : SqT K H q ((tk t).map kV) := by rw [tk_tv]; exact h.sq
theorem GAs.keys {K : PySem.W.Frag} (h : GAs H kvs d) : KeysF K H kvs := by
  induction h with
  | nil => exact fun x hx => absurd hx List.not_mem_nil
  | cons h1 h _ ih =>
    intro x hx
    rcases List.mem_cons.mp hx with z | z
    · rw [z]; exact h1.keyR
    · exact ih x z
theorem GAs.has (h : GAs H kvs d) : tk t ∈ kvs.map (·.1) ↔ t ∈ d.map (·.1) := by
  induction h with
  | nil => exact ⟨fun h => absurd h List.not_mem_nil, fun h => absurd h List.not_mem_nil⟩
  | @cons u _ _ _ _ _ _ _ _ ih =>
    rw [List.map_cons, List.map_cons, List.mem_cons, List.mem_cons, ih]
    exact or_congr ⟨fun e => tk_inj e, fun e => congrArg tk e⟩ Iff.rfl
theorem GAs.append (h : GAs H kvs d) (h' : GAs H kvs' d') : GAs H (kvs ++ kvs') (d ++ d') := by
  induction h with
  | nil => exact h'
  | cons h1 h _ ih => exact .cons h1 h ih
theorem GAs.snoc (h : GAs H kvs d) (hq : TA H q t) (h' : UZ H a g) : GAs H (kvs ++ [(tk t, q, a)]) (d ++ [(t, g)]) := h.append (.cons hq h' .nil)
theorem GAs.get (h : GAs H kvs d) {i : Nat} {k : List L2.Key} {q c : Addr} (e : kvs[i]? = some (k, q, c)) : ∃ t g, d[i]? = some (t, g) ∧ k = tk t ∧ TA H q t ∧ UZ H c g := by
  induction h generalizing i with
  | nil => simp at e
  | @cons t g q' a _ _ h1 h _ ih =>
    cases i with
    | zero =>
      simp at e
      obtain ⟨rfl, rfl, rfl⟩ := e
      exact ⟨t, g, rfl, rfl, h1, h⟩
    | succ i => exact ih (by simpa using e)
end
/-- a list of pairs (given, turn) -/
inductive PAs (H : Hp) : List Addr → List (Tn × List Tn) → Prop
  | nil : PAs H [] []
  | cons {p ga ta : Addr} {t : Tn} {g : List Tn} {as : List Addr} {d : List (Tn × List Tn)} : H p = some (.tup [.ref ga, .ref ta]) → UZ H ga g → TA H ta t → PAs H as d → PAs H (p :: as) ((t, g) :: d)
def PL (H : Hp) (a : Addr) (d : List (Tn × List Tn)) : Prop := ∃ as, H a = some (.lst (rs as)) ∧ PAs H as d
section
variable {H H' : Hp} {x a p ga ta : Addr} {o o' : HO} {as bs : List Addr} {d d' : List (Tn × List Tn)} {t : Tn} {g : List Tn}
theorem PAs.same (s : Same H H') (h : PAs H as d) : PAs H' as d := by
  induction h with
  | nil => exact .nil
  | cons h1 h2 h3 _ ih => exact .cons (s _ _ h1) (h2.same s) (h3.same s) ih
theorem PL.same (s : Same H H') (h : PL H a d) : PL H' a d := let ⟨as, h1, h2⟩ := h; ⟨as, s _ _ h1, h2.same s⟩
theorem PAs.put (h : PAs H as d) (hx : H x = some o) (no : Unit → ¬ IsTp o) : PAs (upd H x o') as d := by
  induction h with
  | nil => exact .nil
  | cons h1 h2 h3 _ ih => exact .cons (by rw [upd_ne (ne_of h1 hx fun e => no () (by rw [← e]; trivial))]; exact h1) (h2.put hx no) (h3.put hx no) ih
theorem PAs.len (h : PAs H as d) : as.length = d.length := by
  induction h with
  | nil => rfl
  | cons _ _ _ _ ih => rw [List.length_cons, List.length_cons, ih]
theorem PAs.append (h : PAs H as d) (h' : PAs H bs d') : PAs H (as ++ bs) (d ++ d') := by
  induction h with
  | nil => exact h'
  | cons h1 h2 h3 _ ih => exact .cons h1 h2 h3 ih
theorem PAs.snoc (h : PAs H as d) (h1 : H p = some (.tup [.ref ga, .ref ta])) (h2 : UZ H ga g) (h3 : TA H ta t) : PAs H (as ++ [p]) (d ++ [(t, g)]) := h.append (.cons h1 h2 h3 .nil)
theorem PAs.get (h : PAs H as d) {i : Nat} (e : as[i]? = some p) : ∃ t g ga ta, d[i]? = some (t, g) ∧ H p = some (.tup [.ref ga, .ref ta]) ∧ UZ H ga g ∧ TA H ta t := by
  induction h generalizing i with
  | nil => simp at e
  | cons h1 h2 h3 _ ih =>
    cases i with
    | zero => simp at e; subst e; exact ⟨_, _, _, _, rfl, h1, h2, h3⟩
    | succ i => exact ih (by simpa using e)
end
abbrev sCom : Stmt := topS 34
theorem scCom : FnScope ["lock", "length", "found", "turn", "step", "later", "given", "other"] ["lock", "length"] (defScope sCom) := ⟨rfl, rfl, rfl, by decide +kernel, rfl, by decide +kernel, by decide +kernel⟩
end Lk
set_option Elab.async false
set_option linter.all false
set_option maxRecDepth 100000
namespace Lk
open PySem PySem.Spec PyProof.Rows L2 GxR
section
variable {P : Program} {w : World} {K : PySem.W.Frag} {mg : Str → Option Value} {base : Heap}
def spCom : Sp := fun vs H Q _ => ∃ (a : Addr) (n L : Nat) (lock W : List Tn), vs = [.ref a, nv (L + 1)] ∧ LockA H a n lock ∧ Grp n W ∧ Sub lock W ∧ L ≤ 100 ∧ Ret H Q fun H' q => PL H' q (com lock L)
theorem ok_com {f : Addr} {fd : FuncData} {k : Nat} (F : Fun K "commutators" "commutators" sCom f fd) (cW : Cal P w K mg base k "swap_of" spSwap) (mr : mg "range" = none) :
    FnOk P w K mg base CX0 (k + 1) f fd ["lock", "length"] spCom := by
  refine F.ok scCom (fun vs H Q E h => ?_) (fun cdv A outer s H vs Q E hr h => ?_)
  · obtain ⟨a, n, L, lock, W, rfl, _⟩ := h
    rfl
  · obtain ⟨a, n, L, lock, W, rfl, hL, G, hs, hL100, q⟩ := h
    have hu : A.units + 3 + 1 < cLine := by have := hr.un; have e : (A.deeper (envOfC "commutators" (defScope sCom) s.heap.objs.size f cdv)).units = A.units + 3 := rfl; omega
    obtain ⟨as, ha, hT⟩ := hL.at_
    refine ⟨_, pss_cons (ps_set (i := 2) scCom.nd rfl (.inl rfl) (pe_dnewP P w rfl rfl))
      (pss_cons (ps_for PassesOwn.never rfl (pi_tup (pv 0)) (pg_name (i := 3) scCom.nd rfl (.inl rfl)) (pss_one (ps_expr (pe_dsetdP K P w rfl rfl rfl hu (pv 2) (pv 3) (pe_tup (pa_cons (pv 3) pa_nil)) ⟨rfl, rfl, rfl, rfl⟩))))
      (pss_cons (ps_for PassesOwn.never rfl (pi_range1 rfl mr (pa_cons (pe_op op_sub (pv 1) pe_int) pa_nil)) (pg_name (i := 4) scCom.nd rfl (.inl rfl))
        (pss_cons (ps_set (i := 5) scCom.nd rfl (.inl rfl) (pe_dnewP P w rfl rfl))
        (pss_cons (ps_lock (ps_for PassesOwn.never rfl (pi_itemsP P w rfl rfl (pv 2)) (pg_tup rfl (pgs_cons (pg_name (i := 3) scCom.nd rfl (.inl rfl)) (pgs_cons (pg_name (i := 6) scCom.nd rfl (.inl rfl)) pgs_nil)))
          (pss_one (ps_for PassesOwn.never rfl (pi_tup (pv 0)) (pg_name (i := 7) scCom.nd rfl (.inl rfl))
            (pss_one (ps_expr (pe_dsetdP K P w rfl rfl rfl hu (pv 5) (pe_c cW hr (Nat.le_refl _) (by rfl) (pa_cons (pv 3) (pa_cons (pv 7) pa_nil))) (pe_op op_catT (pv 6) (pe_tup (pa_cons (pv 7) pa_nil))) ⟨rfl, rfl, rfl, rfl⟩)))))))
        (pss_one (ps_set (i := 2) scCom.nd rfl (.inl rfl) (pv 5))))))
      (pss_one (ps_ret (pe_lock (pe_lc (own := [("turn", 3), ("given", 6)]) (g := gTup K 2 (gCons (gName 3) (gCons (gName 6) gNil))) (tt := tYes) (te := tTup (tCons (tVar 6) (tCons (tVar 3) tNil))) rfl scCom.nd (pi_itemsP P w rfl rfl (pv 2)) (blkOk_by (N := ["lock", "length", "found", "turn", "step", "later", "given", "other"]) (sc := defScope sCom) (by decide +kernel))
            (fun _ _ _ _ _ => pg_tup rfl (pgs_cons (pg_name (i := 3) scCom.nd rfl (Or.inl rfl)) (pgs_cons (pg_name (i := 6) scCom.nd rfl (Or.inl rfl)) pgs_nil))) (fun _ _ _ _ _ => pts_nil) (fun _ _ _ _ _ => pe_tup (pa_cons (pv 6) (pa_cons (pv 3) pa_nil)))))))))
      , ?_⟩
    have hn60 : n ≤ 60 := by have := hL.n16; omega
    refine fun d0 nd0 => ?_
    refine ⟨.ref a, rfl, a, rfl, ⟨_, SqT.of (same_upd nd0 _ _ ha)⟩, for_tup (xs := rs as) (fun i σ H' => ∃ y3 y4 y5 y6 y7, σ = [some (.ref a), some (nv (L + 1)), some (.ref d0), y3, y4, y5, y6, y7] ∧ Same H H' ∧ ∃ kvs, H' d0 = some (DFO P w d0 kvs) ∧ GAs H' kvs ((lock.take i).foldl (fun d t => setD t [t] d) []))
      ⟨_, _, _, _, _, rfl, same_upd nd0, [], upd_same, .nil⟩ (fun i σ H' _ h => ?_) (fun i x σ H' hx h => ?_) (fun σ H' h => ?_)⟩
    · obtain ⟨_, _, _, _, _, _, sm, _⟩ := h
      exact SqT.of (sm _ _ ha)
    · obtain ⟨y3, y4, y5, y6, y7, rfl, sm, kvs, hd, hG⟩ := h
      obtain ⟨ta, hta, rfl⟩ := rs_get hx
      obtain ⟨t, ht, hTt⟩ := hT.get hta
      have htm : t ∈ lock := List.mem_of_getElem? ht
      have co := co_fold1 hs (lock.take i) [] (fun x hx => List.mem_of_mem_take hx) .nil
      have hfew := co.few G
      refine ⟨.ref d0, rfl, d0, rfl, ⟨kvs, hd⟩, .ref ta, rfl, .ref ta, rfl, fewe (by simp), fun p np => ?_⟩
      have sp := same_upd (o := .tup [.ref ta]) np
      have hU : UZ (upd H' p (.tup [.ref ta])) p [t] := ⟨[ta], upd_same, .cons ((hTt.same sm).same sp) .nil⟩
      refine ⟨kvs, tk t, ta, p, sp _ _ hd, rfl, rfl, (hG.same sp).keys, ((hTt.same sm).same sp).ta.keyR, by rw [hG.len]; exact few (by omega), fun hv c' => ?_, fun hv => ?_⟩
      · refine ⟨_, _, _, _, _, rfl, sm.trans sp, kvs, sp _ _ hd, ?_⟩
        rw [fold_take ht, setD_in (hG.has.mp hv)]
        exact hG.same sp
      · have hout : t ∉ ((lock.take i).foldl (fun d t => setD t [t] d) []).map (·.1) := fun hn => hv (hG.has.mpr hn)
        refine ⟨_, _, _, _, _, rfl, same_put (sm.trans sp) nd0, _, upd_same, ?_⟩
        rw [fold_take ht, setD_out hout]
        exact ((hG.same sp).put (sp _ _ hd) fun _ z => by cases z).snoc (((hTt.same sm).same sp).ta.put (sp _ _ hd) fun _ z => by cases z) (hU.put (sp _ _ hd) fun _ z => by cases z)
    · obtain ⟨y3, y4, y5, y6, y7, rfl, sm, kvs, hd, hG⟩ := h
      rw [rs_len, hT.len, List.take_length] at hG
      refine ⟨nv (L + 1), rfl, ((L + 1 : Nat) : Int), 1, rfl, rfl, (L : Int), by show [V.int (((L + 1 : Nat) : Int) - 1)] = [V.int (L : Int)]; rw [show (((L + 1 : Nat) : Int) - 1) = (L : Int) by omega], by omega, by omega, ?_⟩
      refine for_range (lo := 0) (n := ((L : Int)).toNat) (fun i σ H' => ∃ d y3 y4 y5 y6 y7, σ = [some (.ref a), some (nv (L + 1)), some (.ref d), y3, y4, y5, y6, y7] ∧ Same H H' ∧ H d = none ∧ ∃ kvs, H' d = some (DFO P w d kvs) ∧ GAs H' kvs (com lock i))
        ⟨_, _, _, _, _, _, rfl, sm, nd0, kvs, hd, hG⟩ (fun i σ H' hi h => ?_) (fun σ H' h => ?_)
      · clear hd hG sm kvs y3 y4 y5 y6 y7
        obtain ⟨d, y3, y4, y5, y6, y7, rfl, sm, nd, kvs, hd, hG⟩ := h
        have coi := co_com G hs i
        have hfewi := coi.few G
        have hi100 : i < 100 := by omega
        refine fun e ne => ?_
        have se := same_upd (o := DFO P w e []) ne
        have de : d ≠ e := ne_of_none hd ne
        have hd1 := se _ _ hd
        have he1 : (upd H' e (DFO P w e [])) e = some (DFO P w e []) := upd_same
        have hG1 := hG.same se
        have sm1 := sm.trans se
        have neH : H e = none := sm.free ne
        generalize upd H' e (DFO P w e []) = H1 at *
        refine ⟨d, DFO P w d kvs, hd1, trivial, fun od => ?_⟩
        have sm2 : Same H (upd H1 d (.frz od (DFO P w d kvs))) := same_put sm1 nd
        have hG2 : GAs (upd H1 d (.frz od (DFO P w d kvs))) kvs (com lock i) := hG1.put hd1 fun _ z => by cases z
        have he2 : (upd H1 d (.frz od (DFO P w d kvs))) e = some (DFO P w e []) := by rw [upd_ne de.symm]; exact he1
        refine ⟨.ref d, rfl, d, od, kvs, rfl, upd_same, for_it walk_itemsF (fun j σ H2 => ∃ y3 y6 y7, σ = [some (.ref a), some (nv (L + 1)), some (.ref d), y3, some (V.int (0 + (i : Int))), some (.ref e), y6, y7] ∧ Same H H2 ∧ H2 d = some (.frz od (DFO P w d kvs)) ∧ GAs H2 kvs (com lock i) ∧
            ∃ kv2, H2 e = some (DFO P w e kv2) ∧ GAs H2 kv2 (((com lock i).take j).foldl (fun e tg => comR lock tg e) []))
          ⟨_, _, _, rfl, sm2, upd_same, hG2, [], he2, .nil⟩ (fun j σ H2 _ h => ?_) (fun j x σ H2 H3 hj h y => ?_) (fun σ H2 h => ?_)⟩
        · obtain ⟨_, _, _, _, _, h2, _⟩ := h
          exact h2
        · obtain ⟨y3, y6, y7, rfl, sm3, hd3, hG3, kv2, he3, hE⟩ := h
          obtain ⟨T, kk, q1, ga, hkv, rfl, nT, rfl⟩ := y
          obtain ⟨t, g, htg, rfl, hq1, hga⟩ := hG3.get hkv
          have sT := same_upd (o := .tup [.ref q1, .ref ga]) nT
          have htgm : (t, g) ∈ com lock i := List.mem_of_getElem? htg
          obtain ⟨c1, c2, c3⟩ := coi.ok _ htgm
          have c4 := coi.len _ htgm
          refine ⟨T, [.ref q1, .ref ga], rfl, SqT.of upd_same, rfl, .ref q1, [.ref ga], rfl, .ref ga, [], rfl, rfl, ?_⟩
          have sm4 := sm3.trans sT
          have hd4 := sT _ _ hd3
          have he4 := sT _ _ he3
          have hG4 := hG3.same sT
          have hE4 := hE.same sT
          have hq4 := hq1.same sT
          have hga4 := hga.same sT
          generalize upd H2 T (.tup [.ref q1, .ref ga]) = H4 at *
          have coE := co_step G hs ((com lock i).take j) [] ⟨fun p hp => coi.ok p (List.mem_of_mem_take hp), by rw [List.map_take]; exact coi.nd.sublist (List.take_sublist _ _), fun p hp => coi.len p (List.mem_of_mem_take hp)⟩ .nil
          generalize hEd : ((com lock i).take j).foldl (fun e tg => comR lock tg e) [] = E0d at *
          refine ⟨.ref a, rfl, a, rfl, ⟨_, SqT.of (sm4 _ _ ha)⟩, for_tup (xs := rs as) (fun m σ H5 => ∃ y7, σ = [some (.ref a), some (nv (L + 1)), some (.ref d), some (.ref q1), some (V.int (0 + (i : Int))), some (.ref e), some (.ref ga), y7] ∧ Same H H5 ∧ H5 d = some (.frz od (DFO P w d kvs)) ∧ GAs H5 kvs (com lock i) ∧ TA H5 q1 t ∧ UZ H5 ga g ∧
              ∃ kv3, H5 e = some (DFO P w e kv3) ∧ GAs H5 kv3 ((lock.take m).foldl (fun e o => setD (swp t o) (g ++ [o]) e) E0d))
            ⟨_, rfl, sm4, hd4, hG4, hq4, hga4, kv2, he4, hE4⟩ (fun m σ H5 _ h => ?_) (fun m x σ H5 hx h => ?_) (fun σ H5 h => ?_)⟩
          · obtain ⟨_, _, s5, _⟩ := h
            exact SqT.of (s5 _ _ ha)
          · obtain ⟨y7, rfl, sm5, hd5, hG5, hq5, hga5, kv3, he5, hE5⟩ := h
            obtain ⟨oa, hoa, rfl⟩ := rs_get hx
            obtain ⟨o, ho, hO⟩ := hT.get hoa
            have hom : o ∈ lock := List.mem_of_getElem? ho
            have coR := co_row G hs (tg := (t, g)) c1 c2 c4 (lock.take m) E0d (fun x hx => List.mem_of_mem_take hx) coE
            have hfewR : ((lock.take m).foldl (fun e o => setD (swp t o) (g ++ [o]) e) E0d).length ≤ 60 := coR.few G
            refine ⟨.ref e, rfl, e, rfl, ⟨kv3, he5⟩, .ref q1, rfl, .ref oa, rfl, q1, oa, t, o, n, rfl, hq5, (hO.same sm5).ta, G.isP t c1, hL.pl o hom, hn60, fun H6 sp s6 n6 h6 => ?_⟩
            refine ⟨.ref ga, rfl, .ref oa, rfl, fewe (by simp), fun p5 n5 => ?_⟩
            obtain ⟨gs, hgs1, hgs2⟩ := id hga5
            have s7 := same_upd (o := .tup [.ref oa]) n5
            have glen : gs.length ≤ 101 := by rw [hgs2.len]; have : g.length = i + 1 := c4; omega
            refine ⟨ga, p5, rs gs, [.ref oa], rfl, rfl, SqT.of (s7 _ _ (s6 _ _ hgs1)), SqT.of upd_same, ?_, by rw [rs_len]; exact fewe (by simp; omega), (fun z => by cases z), fun _ p6 n6' => ?_⟩
            · intro z
              have e1 : gs = [] := List.map_eq_nil_iff.mp z
              have e2 := hgs2.len
              rw [e1] at e2
              have : g.length = i + 1 := c4
              simp at e2; omega
            · have s8 := same_upd (o := .tup (rs gs ++ [.ref oa])) n6'
              have s58 : Same H5 _ := (s6.trans s7).trans s8
              have hU : UZ (upd (upd H6 p5 (.tup [.ref oa])) p6 (.tup (rs gs ++ [.ref oa]))) p6 (g ++ [o]) := ⟨gs ++ [oa], by rw [upd_same, rs_snoc], (hgs2.same s58).snoc ((hO.same sm5).same s58)⟩
              have h68 : TA (upd (upd H6 p5 (.tup [.ref oa])) p6 (.tup (rs gs ++ [.ref oa]))) sp (swp t o) := (h6.ta.same s7).same s8
              have sm8 := sm5.trans s58
              have hd8 := s58 _ _ hd5
              have hG8 := hG5.same s58
              have hq8 := hq5.same s58
              have hga8 := hga5.same s58
              have he8 := s58 _ _ he5
              have hE8 := hE5.same s58
              generalize (upd (upd H6 p5 (.tup [.ref oa])) p6 (.tup (rs gs ++ [.ref oa]))) = H8 at *
              have noT : Unit → ¬ IsTp (DFO P w e kv3) := fun _ z => by cases z
              refine ⟨kv3, tk (swp t o), sp, p6, he8, rfl, rfl, hE8.keys, h68.keyR, by rw [hE5.len]; exact few (by omega), fun hv c' => ?_, fun hv => ?_⟩
              · refine ⟨_, rfl, sm8, hd8, hG8, hq8, hga8, kv3, he8, ?_⟩
                rw [fold_take ho, setD_in (hE5.has.mp hv)]
                exact hE8
              · have hout : swp t o ∉ ((lock.take m).foldl (fun e o => setD (swp t o) (g ++ [o]) e) E0d).map (·.1) := fun hn => hv (hE5.has.mpr hn)
                refine ⟨_, rfl, same_put sm8 neH, by rw [upd_ne de]; exact hd8, hG8.put he8 noT, hq8.put he8 noT, hga8.put he8 noT, _, upd_same, ?_⟩
                rw [fold_take ho, setD_out hout]
                exact (hE8.put he8 noT).snoc (h68.put he8 noT) (hU.put he8 noT)
          · obtain ⟨y7, rfl, sm5, hd5, hG5, hq5, hga5, kv3, he5, hE5⟩ := h
            rw [rs_len, hT.len, List.take_length] at hE5
            refine ⟨_, _, _, rfl, sm5, hd5, hG5, kv3, he5, ?_⟩
            rw [fold_take htg, hEd]
            exact hE5
        · obtain ⟨y3, y6, y7, rfl, sm3, hd3, hG3, kv2, he3, hE⟩ := h
          rw [hG3.len, List.take_length] at hE
          refine ⟨hd3, .ref e, rfl, e, _, _, _, _, _, rfl, same_put sm3 nd, neH, kv2, by rw [upd_ne de.symm]; exact he3, ?_⟩
          exact hE.put hd3 fun _ z => by cases z
      · clear hd hG sm kvs y3 y4 y5 y6 y7
        obtain ⟨d, y3, y4, y5, y6, y7, rfl, sm, nd, kvs, hd, hG⟩ := h
        have coi := co_com G hs L
        have hfewi := coi.few G
        rw [show ((L : Int)).toNat = L from rfl] at hG
        refine ⟨d, DFO P w d kvs, hd, trivial, fun od => ?_⟩
        have noT : Unit → ¬ IsTp (DFO P w d kvs) := fun _ z => by cases z
        have sm2 : Same H (upd H' d (.frz od (DFO P w d kvs))) := same_put sm nd
        have hG2 : GAs (upd H' d (.frz od (DFO P w d kvs))) kvs (com lock L) := hG.put hd noT
        have hd2 : (upd H' d (.frz od (DFO P w d kvs))) d = some (.frz od (DFO P w d kvs)) := upd_same
        generalize upd H' d (.frz od (DFO P w d kvs)) = H2 at *
        refine ⟨.ref d, rfl, d, od, kvs, rfl, hd2, fun D nD => ?_⟩
        have dD : d ≠ D := ne_of_none hd2 nD
        have nDH : H D = none := sm2.free nD
        refine lc_it walk_itemsF (fun i H3 => Same H H3 ∧ H3 d = some (.frz od (DFO P w d kvs)) ∧ GAs H3 kvs (com lock L) ∧ ∃ ps, H3 D = some (.lst (rs ps)) ∧ PAs H3 ps ((com lock L).take i)) ⟨same_put sm2 nDH, by rw [upd_ne dD]; exact hd2, hG2.same (same_upd nD), [], upd_same, .nil⟩ (fun i H3 _ h => h.2.1) (fun i x H3 H4 hi h y => ?_) (fun H3 h => ?_)
        · obtain ⟨sm3, hd3, hG3, ps, hD, hps⟩ := h
          obtain ⟨T, kk, q1, ga, hkv, rfl, nT, rfl⟩ := y
          obtain ⟨t, g, htg, rfl, hq1, hga⟩ := hG3.get hkv
          have sT := same_upd (o := .tup [.ref q1, .ref ga]) nT
          refine ⟨T, [.ref q1, .ref ga], rfl, SqT.of upd_same, rfl, .ref q1, [.ref ga], rfl, .ref ga, [], rfl, rfl, rfl, ?_⟩
          refine ⟨.ref ga, rfl, .ref q1, rfl, fewe (by simp), fun p np => ?_⟩
          have sp := same_upd (o := .tup [.ref ga, .ref q1]) np
          have s9 := sT.trans sp
          have hp9 : (upd (upd H3 T (.tup [.ref q1, .ref ga])) p (.tup [.ref ga, .ref q1])) p = some (.tup [.ref ga, .ref q1]) := upd_same
          have hD9 := s9 _ _ hD
          have sm9 := sm3.trans s9
          have hd9 := s9 _ _ hd3
          have hG9 := hG3.same s9
          have hps9 := hps.same s9
          have hq9 := hq1.same s9
          have hga9 := hga.same s9
          generalize (upd (upd H3 T (.tup [.ref q1, .ref ga])) p (.tup [.ref ga, .ref q1])) = H9 at *
          have noL : Unit → ¬ IsTp (.lst (rs ps)) := fun _ z => by cases z
          have psl : ps.length ≤ 60 := by rw [hps.len, List.length_take]; omega
          refine ⟨_, hD9, by rw [rs_len]; exact few (by omega), same_put sm9 nDH, by rw [upd_ne dD]; exact hd9, hG9.put hD9 noL, ps ++ [p], by rw [upd_same, rs_snoc], ?_⟩
          rw [take_succ htg]
          exact (hps9.put hD9 noL).snoc (by rw [upd_ne (ne_of hp9 hD9 fun z => by cases z)]; exact hp9) (hga9.put hD9 noL) (hq9.put hD9 noL)
        · obtain ⟨sm3, hd3, hG3, ps, hD, hps⟩ := h
          rw [hG3.len, List.take_length] at hps
          refine ⟨hd3, q _ D (same_put sm3 nd) nDH ⟨ps, by rw [upd_ne dD.symm]; exact hD, hps.put hd3 fun _ z => by cases z⟩⟩
end
end Lk
set_option Elab.async false
set_option linter.all false
set_option maxRecDepth 100000
namespace Lk
open PySem PySem.Spec PyProof.Rows L2 GxR
/-! chains: their powers are small -/
def ChB (p w : Nat) (chs : List Ch) : Prop := ∀ ch ∈ chs, p ^ ch.long ≤ p * ch.fin ∧ ch.fin ≤ w
theorem chB_snoc {p w : Nat} {chs : List Ch} {ch : Ch} (h : ChB p w chs) (h1 : p ^ ch.long ≤ p * ch.fin) (h2 : ch.fin ≤ w) : ChB p w (chs ++ [ch]) := fun x hx => by
  rcases List.mem_append.mp hx with z | z
  · exact h x z
  · rw [List.mem_singleton.mp z]; exact ⟨h1, h2⟩
theorem chB_fil1 {n p w : Nat} {term : List Tn} {sc : List Tn × List Ch} {ch : Ch} (h : ChB p w sc.2) (h1 : p ^ ch.long ≤ p * ch.fin) (h2 : ch.fin ≤ w) : ChB p w (fil1 n p w term sc ch).2 := by
  unfold fil1
  split
  · rename_i hc
    split
    · refine chB_snoc h ?_ (Nat.le_refl _)
      show p ^ (ch.long + 1) ≤ p * w
      rw [Nat.pow_succ, ← hc.1, ← Nat.mul_assoc]
      exact Nat.mul_le_mul_right _ h1
    · exact chB_snoc h h1 h2
  · exact chB_snoc h h1 h2
theorem chB_fil2 {n p w : Nat} {term : List Tn} {sc : List Tn × List Ch} {tg : Tn × List Tn} (hw : 1 ≤ w) (h : ChB p w sc.2) : ChB p w (fil2 n w term sc tg).2 := by
  unfold fil2
  split
  · split
    · refine chB_snoc h ?_ (Nat.le_refl _)
      show p ^ 1 ≤ p * w
      rw [Nat.pow_one]
      exact Nat.le_mul_of_pos_right p hw
    · exact h
  · exact h
theorem chB_fold1 {n p w : Nat} {term : List Tn} : ∀ (chs : List Ch) (sc : List Tn × List Ch), ChB p w chs → ChB p w sc.2 → ChB p w (chs.foldl (fil1 n p w term) sc).2
  | [], _, _, h => h
  | ch :: r, sc, hc, h => chB_fold1 r _ (fun x hx => hc x (List.mem_cons_of_mem _ hx)) (chB_fil1 h (hc ch List.mem_cons_self).1 (hc ch List.mem_cons_self).2)
theorem chB_fold2 {n p w : Nat} {term : List Tn} (hw : 1 ≤ w) : ∀ (d : List (Tn × List Tn)) (sc : List Tn × List Ch), ChB p w sc.2 → ChB p w (d.foldl (fil2 n w term) sc).2
  | [], _, h => h
  | tg :: r, sc, h => chB_fold2 hw r _ (chB_fil2 hw h)
theorem chB_fil {n p w : Nat} {lock term later : List Tn} {chs : List Ch} (hw : 1 ≤ w) (h : ChB p w chs) : ChB p w (fil n p lock w term later chs) :=
  chB_fold2 hw _ _ (chB_fold1 chs _ h fun x hx => absurd hx List.not_mem_nil)
theorem ChB.more {p w w' : Nat} {chs : List Ch} (h : ChB p w chs) (hw : w ≤ w') : ChB p w' chs := fun ch hc => ⟨(h ch hc).1, Nat.le_trans (h ch hc).2 hw⟩
theorem chB_chn {n p : Nat} {lock : List Tn} : ∀ (terms : List (List Tn)) (w : Nat) (chs : List Ch), 1 ≤ w → ChB p w chs → ChB p (w + terms.length) (chn n p lock w terms chs)
  | [], w, chs, _, h => h
  | [_], w, chs, _, h => h.more (by simp)
  | one :: other :: r, w, chs, hw, h => by
    unfold chn
    have := chB_chn (n := n) (lock := lock) (other :: r) (w + 1) _ (by omega) ((chB_fil (n := n) (lock := lock) (term := one) (later := other) hw h).more (Nat.le_succ w))
    exact this.more (by rw [List.length_cons, List.length_cons, List.length_cons]; omega)
/-- how long, how many -/
theorem fil1_len {n p w : Nat} {term : List Tn} {sc : List Tn × List Ch} {ch : Ch} : (fil1 n p w term sc ch).2.length = sc.2.length + 1 := by
  unfold fil1
  split
  · split <;> rw [List.length_append, List.length_singleton]
  · rw [List.length_append, List.length_singleton]
theorem fold1_len {n p w : Nat} {term : List Tn} : ∀ (chs : List Ch) (sc : List Tn × List Ch), (chs.foldl (fil1 n p w term) sc).2.length = sc.2.length + chs.length
  | [], _ => rfl
  | ch :: r, sc => by rw [List.foldl_cons, fold1_len r, fil1_len, List.length_cons]; omega
theorem fil2_len {n w : Nat} {term : List Tn} {sc : List Tn × List Ch} {tg : Tn × List Tn} : (fil2 n w term sc tg).2.length ≤ sc.2.length + 1 := by
  unfold fil2
  split
  · split
    · rw [List.length_append, List.length_singleton]; omega
    · omega
  · omega
theorem fold2_len {n w : Nat} {term : List Tn} : ∀ (d : List (Tn × List Tn)) (sc : List Tn × List Ch), (d.foldl (fil2 n w term) sc).2.length ≤ sc.2.length + d.length
  | [], _ => Nat.le_refl _
  | tg :: r, sc => by
    have h1 := fold2_len (n := n) (w := w) (term := term) r (fil2 n w term sc tg)
    have h2 := fil2_len (n := n) (w := w) (term := term) (sc := sc) (tg := tg)
    rw [List.foldl_cons, List.length_cons]; omega
theorem fil_len {n p w : Nat} {lock term later W : List Tn} {chs : List Ch} (G : Grp n W) (hs : Sub lock W) : (fil n p lock w term later chs).length ≤ chs.length + 60 := by
  have h1 := fold2_len (n := n) (w := w) (term := term) (com lock (w - 1)) (chs.foldl (fil1 n p w term) (later, []))
  have h2 := fold1_len (n := n) (p := p) (w := w) (term := term) chs (later, [])
  have h3 := (co_com G hs (w - 1)).few G
  unfold fil
  rw [h2, List.length_nil] at h1
  omega
/-! chains in the heap -/
def kG : L2.Key := .inr "given"
def kT : L2.Key := .inr "turn"
def kL : L2.Key := .inr "long"
def kE : L2.Key := .inr "end"
def chv (ga ta : Addr) (long fin : Nat) : List (L2.Key × V) := [(kG, .ref ga), (kT, .ref ta), (kL, nv long), (kE, nv fin)]
theorem chv_G (ga ta : Addr) (l e : Nat) : valV (chv ga ta l e) kG = some (.ref ga) := valV_pos rfl
theorem k_gt : ¬ kG = kT := by decide +kernel
theorem k_gl : ¬ kG = kL := by decide +kernel
theorem k_ge : ¬ kG = kE := by decide +kernel
theorem k_tl : ¬ kT = kL := by decide +kernel
theorem k_te : ¬ kT = kE := by decide +kernel
theorem k_le : ¬ kL = kE := by decide +kernel
theorem chv_T (ga ta : Addr) (l e : Nat) : valV (chv ga ta l e) kT = some (.ref ta) := (valV_neg k_gt).trans (valV_pos rfl)
theorem chv_L (ga ta : Addr) (l e : Nat) : valV (chv ga ta l e) kL = some (nv l) := (valV_neg k_gl).trans ((valV_neg k_tl).trans (valV_pos rfl))
theorem chv_E (ga ta : Addr) (l e : Nat) : valV (chv ga ta l e) kE = some (nv e) := (valV_neg k_ge).trans ((valV_neg k_te).trans ((valV_neg k_le).trans (valV_pos rfl)))
theorem chv_putL (ga ta : Addr) (l e m : Nat) : putK (chv ga ta l e) kL (nv m) = chv ga ta m e := rfl
theorem chv_putE (ga ta : Addr) (l e m : Nat) : putK (chv ga ta l e) kE (nv m) = chv ga ta l m := rfl
def ChA (H : Hp) (c : Addr) (ch : Ch) : Prop := ∃ ga ta, H c = some (.dK (chv ga ta ch.long ch.fin)) ∧ UZ H ga ch.given ∧ TA H ta ch.turn
inductive ChAs (H : Hp) : List Addr → List Ch → Prop
  | nil : ChAs H [] []
  | cons {c : Addr} {ch : Ch} {cs : List Addr} {chs : List Ch} : ChA H c ch → ChAs H cs chs → ChAs H (c :: cs) (ch :: chs)
section
variable {H H' : Hp} {x c : Addr} {o o' : HO} {cs ds : List Addr} {chs dhs : List Ch} {ch : Ch}
theorem ChA.same (s : Same H H') (h : ChA H c ch) : ChA H' c ch := let ⟨ga, ta, h1, h2, h3⟩ := h; ⟨ga, ta, s _ _ h1, h2.same s, h3.same s⟩
theorem ChAs.same (s : Same H H') (h : ChAs H cs chs) : ChAs H' cs chs := by
  induction h with
  | nil => exact .nil
  | cons h _ ih => exact .cons (h.same s) ih
theorem ChA.put (h : ChA H c ch) (hx : H x = some o) (no : Unit → ¬ IsTp o) (ne : c ≠ x) : ChA (upd H x o') c ch :=
  let ⟨ga, ta, h1, h2, h3⟩ := h
  ⟨ga, ta, by rw [upd_ne ne]; exact h1, h2.put hx no, h3.put hx no⟩
theorem ChAs.put (h : ChAs H cs chs) (hx : H x = some o) (no : Unit → ¬ IsTp o) (ne : x ∉ cs) : ChAs (upd H x o') cs chs := by
  induction h with
  | nil => exact .nil
  | cons h _ ih => exact .cons (h.put hx no fun e => ne (e ▸ List.mem_cons_self)) (ih fun m => ne (List.mem_cons_of_mem _ m))
theorem ChAs.len (h : ChAs H cs chs) : cs.length = chs.length := by
  induction h with
  | nil => rfl
  | cons _ _ ih => rw [List.length_cons, List.length_cons, ih]
theorem ChAs.append (h : ChAs H cs chs) (h' : ChAs H ds dhs) : ChAs H (cs ++ ds) (chs ++ dhs) := by
  induction h with
  | nil => exact h'
  | cons h _ ih => exact .cons h ih
theorem ChAs.at (h : ChAs H cs chs) {i : Nat} (e : cs[i]? = some c) : ∃ ch, chs[i]? = some ch ∧ ChA H c ch := by
  induction h generalizing i with
  | nil => simp at e
  | cons h _ ih =>
    cases i with
    | zero => simp at e; subst e; exact ⟨_, rfl, h⟩
    | succ i => exact ih (by simpa using e)
theorem ChAs.isD (h : ChAs H cs chs) (hc : c ∈ cs) : ∃ kvs, H c = some (.dK kvs) := by
  obtain ⟨i, hi⟩ := List.getElem?_of_mem hc
  obtain ⟨ch, _, ga, ta, h1, _⟩ := h.at hi
  exact ⟨_, h1⟩
/-- one of them written anew -/
theorem ChAs.set (h : ChAs H cs chs) (nd : cs.Nodup) {i : Nat} (hi : cs[i]? = some c) (hx : H c = some o) (no : Unit → ¬ IsTp o) (hn : ChA (upd H c o') c ch) : ChAs (upd H c o') cs (chs.set i ch) := by
  induction h generalizing i with
  | nil => simp at hi
  | @cons d dh cs chs h t ih =>
    obtain ⟨n1, n2⟩ := List.nodup_cons.mp nd
    cases i with
    | zero =>
      simp at hi; subst hi
      exact .cons hn (t.put hx no n1)
    | succ i =>
      have hi : cs[i]? = some c := by simpa using hi
      refine .cons (h.put hx no fun e => n1 (by rw [e]; exact List.mem_of_getElem? hi)) (ih n2 hi)
end
abbrev sCls : Stmt := topS 35
abbrev sInit : Stmt := inClass sCls 0
abbrev sFill : Stmt := inClass sCls 1
abbrev sChains : Stmt := topS 36
theorem scInit : FnScope ["self", "lock", "terms", "place"] ["self", "lock"] (defScope sInit) := ⟨rfl, rfl, rfl, by decide +kernel, rfl, by decide +kernel, by decide +kernel⟩
theorem scFill : FnScope ["self", "weight", "term", "later", "span", "chain", "turn", "more", "given"] ["self", "weight", "term", "later"] (defScope sFill) := ⟨rfl, rfl, rfl, by decide +kernel, rfl, by decide +kernel, by decide +kernel⟩
theorem scChains : FnScope ["lock", "chain"] ["lock"] (defScope sChains) := ⟨rfl, rfl, rfl, by decide +kernel, rfl, by decide +kernel, by decide +kernel⟩
/-! the object -/
def cf1 (a : Addr) : List (Str × V) := putF "lock" (.ref a) []
def cf2 (a : Addr) (p : Nat) : List (Str × V) := putF "prime" (nv p) (cf1 a)
def cf (a : Addr) (p : Nat) (l : Addr) : List (Str × V) := putF "chains" (.ref l) (cf2 a p)
theorem f_pl : ¬ (("prime" : Str) = "lock") := by decide +kernel
theorem f_lp : ¬ (("lock" : Str) = "prime") := by decide +kernel
theorem f_lc : ¬ (("lock" : Str) = "chains") := by decide +kernel
theorem f_pc : ¬ (("prime" : Str) = "chains") := by decide +kernel
theorem f_fl : ¬ (("fill" : Str) = "lock") := by decide +kernel
theorem f_fp : ¬ (("fill" : Str) = "prime") := by decide +kernel
theorem f_fc : ¬ (("fill" : Str) = "chains") := by decide +kernel
theorem cf2_eq (a : Addr) (p : Nat) : cf2 a p = ([("lock", V.ref a), ("prime", nv p)] : List (Str × V)) := by
  show (if ("lock" : Str) = "prime" then [(("lock" : Str), nv p)] else (("lock" : Str), V.ref a) :: putF "prime" (nv p) []) = ([("lock", V.ref a), ("prime", nv p)] : List (Str × V))
  rw [if_neg f_lp]
  all_goals rfl
theorem cf_lock (a : Addr) (p : Nat) (l : Addr) : (cf a p l).lookup ("lock" : Str) = some (.ref a) := by
  unfold cf cf2 cf1
  rw [lookup_putF, if_neg f_lc, lookup_putF, if_neg f_lp, lookup_putF, if_pos rfl]
theorem cf_prime (a : Addr) (p : Nat) (l : Addr) : (cf a p l).lookup ("prime" : Str) = some (nv p) := by
  unfold cf cf2
  rw [lookup_putF, if_neg f_pc, lookup_putF, if_pos rfl]
theorem cf_chains (a : Addr) (p : Nat) (l : Addr) : (cf a p l).lookup ("chains" : Str) = some (.ref l) := by
  unfold cf
  rw [lookup_putF, if_pos rfl]
theorem cf_fill (a : Addr) (p : Nat) (l : Addr) : (cf a p l).lookup ("fill" : Str) = none := by
  unfold cf cf2 cf1
  rw [lookup_putF, if_neg f_fc, lookup_putF, if_neg f_fp, lookup_putF, if_neg f_fl]
  rfl
structure CTxt (K : PySem.W.Frag) (mg : Str → Option Value) (C : Addr) : Prop where
  cl : Cls K C
  nL : NoAttr K C "lock"
  nP : NoAttr K C "prime"
  nC : NoAttr K C "chains"
end Lk
set_option Elab.async false
set_option linter.all false
set_option maxRecDepth 100000
namespace Lk
open PySem PySem.Spec PyProof.Rows L2 GxR
/-- all is kept but the list at l and the dicts at cs -/
def Kp (l : Addr) (cs : List Addr) (H H' : Hp) : Prop := ∀ b x, b ≠ l → b ∉ cs → H b = some x → H' b = some x
section
variable {l a b c : Addr} {cs xs : List Addr} {H H' H1 : Hp} {o o' : HO} {chs : List Ch} {t : Tn} {ts : List Tn} {as : List Addr}
theorem Kp.refl : Kp l cs H H := fun _ _ _ _ h => h
theorem Kp.same (k : Kp l cs H H1) (s : Same H1 H') : Kp l cs H H' := fun b x h1 h2 h3 => s _ _ (k b x h1 h2 h3)
theorem Kp.putC (k : Kp l cs H H1) (hc : c ∈ cs) : Kp l cs H (upd H1 c o) := fun b x h1 h2 h3 => by
  rw [upd_ne fun e => h2 (by rw [e]; exact hc)]; exact k b x h1 h2 h3
theorem Kp.putL (k : Kp l cs H H1) : Kp l cs H (upd H1 l o) := fun b x h1 h2 h3 => by
  rw [upd_ne h1]; exact k b x h1 h2 h3
theorem Kp.put (k : Kp l cs H H1) (n : H1 a = none) : Kp l cs H (upd H1 a o) := k.same (same_upd n)
theorem Kp.tp (k : Kp l cs H H') (hl : H l = some (.lst (rs xs))) (hc : ChAs H cs chs) {u : HO} (h : H a = some u) (ip : IsTp u) : H' a = some u := by
  refine k a _ (fun e => ?_) (fun m => ?_) h
  · rw [e, hl] at h; cases h; exact ip
  · obtain ⟨kvs, e⟩ := hc.isD m
    rw [h] at e; cases e; exact ip
theorem Kp.tup (k : Kp l cs H H') (hl : H l = some (.lst (rs xs))) (hc : ChAs H cs chs) {ys : List V} (h : H a = some (.tup ys)) : H' a = some (.tup ys) := k.tp hl hc h trivial
theorem Kp.ta (k : Kp l cs H H') (hl : H l = some (.lst (rs xs))) (hc : ChAs H cs chs) (h : TA H a t) : TA H' a t := by
  rcases h with h | ⟨o, ho, h⟩
  · exact .inl (k.tp hl hc h trivial)
  · exact .inr ⟨o, ho, k.tp hl hc h trivial⟩
theorem Kp.tas (k : Kp l cs H H') (hl : H l = some (.lst (rs xs))) (hc : ChAs H cs chs) (h : TAs H as ts) : TAs H' as ts := by
  induction h with
  | nil => exact .nil
  | cons h _ ih => exact .cons (k.ta hl hc h) ih
theorem Kp.la (k : Kp l cs H H') (hl : H l = some (.lst (rs xs))) (hc : ChAs H cs chs) (ne : a ≠ l) (h : LA H a ts) : LA H' a ts := by
  obtain ⟨as, h1, h2⟩ := h
  refine ⟨as, k a _ ne (fun m => ?_) h1, k.tas hl hc h2⟩
  obtain ⟨kvs, e⟩ := hc.isD m
  rw [h1] at e; cases e
theorem Kp.ua (k : Kp l cs H H') (hl : H l = some (.lst (rs xs))) (hc : ChAs H cs chs) (h : UA H a ts) : UA H' a ts := let ⟨as, h1, h2⟩ := h; ⟨as, k.tup hl hc h1, k.tas hl hc h2⟩
theorem Kp.tzs (k : Kp l cs H H') (hl : H l = some (.lst (rs xs))) (hc : ChAs H cs chs) (h : TZs H as ts) : TZs H' as ts := by
  induction h with
  | nil => exact .nil
  | cons h _ ih =>
    obtain ⟨o, ho, h⟩ := h
    exact .cons ⟨o, ho, k.tp hl hc h trivial⟩ ih
theorem Kp.uz (k : Kp l cs H H') (hl : H l = some (.lst (rs xs))) (hc : ChAs H cs chs) (h : UZ H a ts) : UZ H' a ts := let ⟨as, h1, h2⟩ := h; ⟨as, k.tup hl hc h1, k.tzs hl hc h2⟩
theorem Kp.lock {n : Nat} (k : Kp l cs H H') (hl : H l = some (.lst (rs xs))) (hc : ChAs H cs chs) (h : LockA H a n ts) : LockA H' a n ts := ⟨k.uz hl hc h.at_, h.ne, h.pl, h.n1, h.n16⟩
theorem Kp.free (k : Kp l cs H H') (hl' : H' l = some o) (hc' : ChAs H' cs chs) (h : H' a = none) : H a = none := by
  cases e : H a with
  | none => rfl
  | some x =>
    by_cases h1 : a = l
    · rw [h1, hl'] at h; cases h
    · by_cases h2 : a ∈ cs
      · obtain ⟨kvs, e'⟩ := hc'.isD h2
        rw [h] at e'; cases e'
      · have := k a x h1 h2 e
        rw [h] at this; cases this
theorem lst_notin (hl : H l = some (.lst (rs xs))) (hc : ChAs H cs chs) : l ∉ cs := fun m => by
  obtain ⟨kvs, e⟩ := hc.isD m
  rw [hl] at e; cases e
end
theorem drop_at {α : Type} {l : List α} {i : Nat} {x : α} (h : l[i]? = some x) : l.drop i = x :: l.drop (i + 1) := by
  obtain ⟨hlt, rfl⟩ := List.getElem?_eq_some_iff.mp h
  exact List.drop_eq_getElem_cons hlt
theorem set_mid {α : Type} {l1 l : List α} {i : Nat} {x y : α} (h1 : l1.length = i) (h : l[i]? = some x) : (l1 ++ l.drop i).set i y = (l1 ++ [y]) ++ l.drop (i + 1) := by
  rw [drop_at h, List.append_assoc, ← h1, List.set_append_right _ _ (Nat.le_refl _), Nat.sub_self]
  rfl
theorem keep_mid {α : Type} {l1 l : List α} {i : Nat} {x : α} (h : l[i]? = some x) : l1 ++ l.drop i = (l1 ++ [x]) ++ l.drop (i + 1) := by
  rw [drop_at h, List.append_assoc]
  rfl
section
variable {P : Program} {w : World} {K : PySem.W.Frag} {mg : Str → Option Value} {base : Heap}
def spFill (C : Addr) : Sp := fun vs H Q _ => ∃ (o dx l la tA lA : Addr) (n p v : Nat) (cs : List Addr) (lock W term later : List Tn) (chs : List Ch), vs = [.ref o, nv v, .ref tA, .ref lA] ∧ H o = some (.ins C dx (cf la p l)) ∧ LockA H la n lock ∧ Grp n W ∧ Sub lock W ∧
  LA H tA term ∧ tA ≠ l ∧ LA H lA later ∧ lA ≠ l ∧ Sub later W ∧ Srt later ∧ Sub term W ∧ Srt term ∧ H l = some (.lst (rs cs)) ∧ ChAs H cs chs ∧ cs.Nodup ∧ ChsOk W lock chs ∧ ChB p v chs ∧ PrOk p ∧ 1 ≤ v ∧ v ≤ 40 ∧ chs.length ≤ 3000 ∧
  ∀ H' cs', Kp l cs H H' → H' l = some (.lst (rs cs')) → ChAs H' cs' (fil n p lock v term later chs) → cs'.Nodup → (∀ c ∈ cs', c ∈ cs ∨ H c = none) → Q .non H'
theorem ok_fill {f C : Addr} {fd : FuncData} {k : Nat} (F : Fun K "fill" "Chains.fill" sFill f fd) (T : CTxt K mg C) (cP : Cal P w K mg base k "power" spPower) (cX : Cal P w K mg base k "times_over" spTimes) (cS : Cal P w K mg base k "spanned" spSpan) (cC : Cal P w K mg base k "commutators" spCom) (ml : mg "len" = none) :
    FnOk P w K mg base CX0 (k + 1) f fd ["self", "weight", "term", "later"] (spFill C) := by
  refine F.ok scFill (fun vs H Q E h => ?_) (fun cdv A outer s H vs Q E hr h => ?_)
  · obtain ⟨o, dx, l, la, tA, lA, n, p, v, cs, lock, W, term, later, chs, rfl, _⟩ := h
    rfl
  · obtain ⟨o, dx, l, la, tA, lA, n, p, v, cs, lock, W, term, later, chs, rfl, hO, hL, G, hs, hTA, neT, hLA, neL, subL, srtL, subT, srtT, hl, hch, hnd, hok, hB, hpr, hv1, hv40, hcl, q⟩ := h
    have hu : A.units + 3 + 1 < cLine := by have := hr.un; have e : (A.deeper (envOfC "Chains.fill" (defScope sFill) s.heap.objs.size f cdv)).units = A.units + 3 := rfl; omega
    obtain ⟨as, a0, t0, ha, hT, h0, hA0, hl0⟩ := hL.fst
    refine ⟨_, pss_cons (ps_set (i := 4) scFill.nd rfl (.inl rfl) (pv 3))
      (pss_cons (ps_for PassesOwn.never rfl (pi_list (pe_fld (pv 0) rfl)) (pg_name (i := 5) scFill.nd rfl (.inl rfl))
        (pss_one (ps_if (PW.pt (pw_and (pt_cmpR op_eq (pe_op op_mulW (pe_dget hu (pv 5) pe_str (fun _ _ => rfl)) (pe_fld (pv 0) rfl)) (pv 1) (nomark _)) (pw_and1 (pt_cmpR op_lt (pe_callB call_len_seq (by rfl) ml PySem.boot_len (pa_cons (pv 4) pa_nil)) (pe_callB call_len_seq (by rfl) ml PySem.boot_len (pa_cons (pv 2) pa_nil)) (nomark _)))))
          (pss_cons (ps_set (i := 6) scFill.nd rfl (.inl rfl) (pe_c cP hr (Nat.le_refl _) (by rfl) (pa_cons (pe_dget hu (pv 5) pe_str (fun _ _ => rfl)) (pa_cons (pe_c cX hr (Nat.le_refl _) (by rfl) (pa_cons (pe_fld (pv 0) rfl) (pa_cons (pe_dget hu (pv 5) pe_str (fun _ _ => rfl)) pa_nil))) pa_nil))))
          (pss_cons (ps_set (i := 7) scFill.nd rfl (.inl rfl) (pe_c cS hr (Nat.le_refl _) (by rfl) (pa_cons (pe_callB call_len_seq (by rfl) ml PySem.boot_len (pa_cons (pe_ix ix_tup (pe_fld (pv 0) rfl) pe_int (fun _ _ => rfl)) pa_nil)) (pa_cons (pe_op op_cat (pv 4) (pe_lst (pa_cons (pv 6) pa_nil))) pa_nil))))
          (pss_one (ps_if (pt_cmpR op_gt (pe_callB call_len_seq (by rfl) ml PySem.boot_len (pa_cons (pv 7) pa_nil)) (pe_callB call_len_seq (by rfl) ml PySem.boot_len (pa_cons (pv 4) pa_nil)) (nomark _))
            (pss_cons (ps_set (i := 4) scFill.nd rfl (.inl rfl) (pv 7)) (pss_cons (ps_daug hu (pv 5) pe_str pe_int in_add (fun _ _ _ => rfl)) (pss_one (ps_dput hu (pv 5) pe_str (pv 1) rfl)))) pss_nil)))) pss_nil)))
      (pss_one (ps_for PassesOwn.never rfl (pi_list (pe_c cC hr (Nat.le_refl _) (by rfl) (pa_cons (pe_fld (pv 0) rfl) (pa_cons (pv 1) pa_nil)))) (pg_tup rfl (pgs_cons (pg_name (i := 8) scFill.nd rfl (.inl rfl)) (pgs_cons (pg_name (i := 6) scFill.nd rfl (.inl rfl)) pgs_nil)))
        (pss_one (ps_if (pt_cmpR op_lt (pe_callB call_len_seq (by rfl) ml PySem.boot_len (pa_cons (pv 4) pa_nil)) (pe_callB call_len_seq (by rfl) ml PySem.boot_len (pa_cons (pv 2) pa_nil)) (nomark _))
          (pss_cons (ps_set (i := 7) scFill.nd rfl (.inl rfl) (pe_c cS hr (Nat.le_refl _) (by rfl) (pa_cons (pe_callB call_len_seq (by rfl) ml PySem.boot_len (pa_cons (pe_ix ix_tup (pe_fld (pv 0) rfl) pe_int (fun _ _ => rfl)) pa_nil)) (pa_cons (pe_op op_cat (pv 4) (pe_lst (pa_cons (pv 6) pa_nil))) pa_nil))))
          (pss_one (ps_if (pt_cmpR op_gt (pe_callB call_len_seq (by rfl) ml PySem.boot_len (pa_cons (pv 7) pa_nil)) (pe_callB call_len_seq (by rfl) ml PySem.boot_len (pa_cons (pv 4) pa_nil)) (nomark _))
            (pss_cons (ps_set (i := 4) scFill.nd rfl (.inl rfl) (pv 7)) (pss_one (ps_expr (pe_bm PySem.F.plainAttrs_list PySem.F.slot_list_append PySem.F.type_list_append mt_append (pe_fld (pv 0) rfl) (pa_cons
              (pe_disp (pps_cons pe_str (pv 8) (pps_cons pe_str (pv 6) (pps_cons pe_str pe_int (pps_cons pe_str (pv 1) pps_nil)))) (by decide) (by decide) (by simp) (by decide)) pa_nil))))) pss_nil))) pss_nil))))), ?_⟩
    have hn16 := hL.n16
    have hp3 : p ≤ 3 ∧ 2 ≤ p := by rcases hpr with z | z <;> omega
    have hW60 := G.few
    have hTl : term.length ≤ 60 := Nat.le_trans (sub_len subT srtT) hW60
    have oL : o ≠ l := ne_of hO hl fun z => by cases z
    have oC : o ∉ cs := fun m => by
      obtain ⟨kvs, e⟩ := hch.isD m
      rw [hO] at e; cases e
    have hcsl : cs.length = chs.length := hch.len
    -- the state behind i chains
    have SC : ∀ i, ScOk W lock ((chs.take i).foldl (fil1 n p v term) (later, [])) := fun i => fold1_ok hn16 G _ _ (fun x hx => hok x (List.mem_of_mem_take hx)) ⟨subL, srtL, fun x hx => absurd hx List.not_mem_nil⟩
    refine ⟨.ref lA, rfl, ?_⟩
    refine ⟨.ref o, rfl, o, C, dx, _, .ref l, rfl, hO, T.cl, T.nC, cf_chains _ _ _, l, rfl, ⟨_, SqL.of hl⟩, for_list (xs := rs cs) (fun i σ H' => ∃ sp y5 y6 y7 y8, σ = [some (.ref o), some (nv v), some (.ref tA), some (.ref lA), some (.ref sp), y5, y6, y7, y8] ∧ Kp l cs H H' ∧ sp ≠ l ∧ H' l = some (.lst (rs cs)) ∧
        LA H' sp ((chs.take i).foldl (fil1 n p v term) (later, [])).1 ∧ ChAs H' cs (((chs.take i).foldl (fil1 n p v term) (later, [])).2 ++ chs.drop i))
      ⟨lA, _, _, _, _, rfl, Kp.refl, neL, hl, hLA, hch⟩ (fun i σ H' _ h => ?_) (fun i x σ H' hx h => ?_) (fun σ H' h => ?_)⟩
    · obtain ⟨_, _, _, _, _, _, _, _, h4, _⟩ := h
      exact SqL.of h4
    · obtain ⟨sp, y5, y6, y7, y8, rfl, kp, nsp, hl1, hsp, hcs⟩ := h
      obtain ⟨c, hc, rfl⟩ := rs_get hx
      have hcm : c ∈ cs := List.mem_of_getElem? hc
      have hci : i < chs.length := by rw [← hcsl]; exact get_lt hc
      have hchi : chs[i]? = some chs[i] := List.getElem?_eq_getElem hci
      generalize chs[i] = ch at hchi
      have hchm : ch ∈ chs := List.mem_of_getElem? hchi
      have S := SC i
      have len2 : ((chs.take i).foldl (fil1 n p v term) (later, [])).2.length = i := by
        rw [fold1_len, List.length_take, List.length_nil]; omega
      have hnext : (chs.take (i + 1)).foldl (fil1 n p v term) (later, []) = fil1 n p v term ((chs.take i).foldl (fil1 n p v term) (later, [])) ch := fold_take hchi
      have SN := SC (i + 1)
      rw [hnext]
      rw [hnext] at SN
      generalize ((chs.take i).foldl (fil1 n p v term) (later, [])) = sc at *
      obtain ⟨ch', hch', hcA⟩ := hcs.at hc
      rw [List.getElem?_append_right (by omega), len2, Nat.sub_self, drop_at hchi] at hch'
      obtain rfl : ch = ch' := Option.some.inj hch'
      obtain ⟨ga, ta, hd, hga, hta⟩ := id hcA
      obtain ⟨hb1, hb2⟩ := hB ch hchm
      obtain ⟨hw1, hw2, hw3⟩ := hok ch hchm
      have hO1 := kp o _ oL oC hO
      have hT1 := kp.la hl hch neT hTA
      obtain ⟨ts, ht1, ht2⟩ := id hT1
      obtain ⟨ss, hs1, hs2⟩ := id hsp
      have hsl : sc.1.length ≤ 60 := Nat.le_trans (sub_len S.sub S.srt) hW60
      have gE : DGet H' c (.str "end") (some (nv ch.fin)) := by rw [← chv_E ga ta ch.long ch.fin]; exact DGet.k (k := kE) hd
      have gL : DGet H' c (.str "long") (some (nv ch.long)) := by rw [← chv_L ga ta ch.long ch.fin]; exact DGet.k (k := kL) hd
      have gT : DGet H' c (.str "turn") (some (.ref ta)) := by rw [← chv_T ga ta ch.long ch.fin]; exact DGet.k (k := kT) hd
      refine ⟨.ref c, rfl, c, nv ch.fin, rfl, gE, .ref o, rfl, o, C, dx, _, nv p, rfl, hO1, T.cl, T.nP, cf_prime _ _ _, (ch.fin : Int), (p : Int), rfl, rfl, mulW (by omega) (by omega), nv v, rfl, rfl, _, rfl, ?_⟩
      rw [show decide (V.int ((ch.fin : Int) * (p : Int)) = nv v) = decide (ch.fin * p = v) from by rw [← Int.natCast_mul]; exact nv_eq _ _]
      have hfil : fil1 n p v term sc ch = if ch.fin * p = v ∧ sc.1.length < term.length then
          if sc.1.length < (spn n (sc.1 ++ [pwr ch.turn (p ^ ch.long)])).length then (spn n (sc.1 ++ [pwr ch.turn (p ^ ch.long)]), sc.2 ++ [{ ch with long := ch.long + 1, fin := v }])
          else (sc.1, sc.2 ++ [ch])
        else (sc.1, sc.2 ++ [ch]) := rfl
      by_cases c1 : ch.fin * p = v
      · rw [decide_eq_true c1]
        refine iteT ⟨.ref sp, rfl, sp, rs ss, rfl, .inl (SqL.of hs1), .ref tA, rfl, tA, rs ts, rfl, .inl (SqL.of ht1), _, _, rfl, rfl, _, rfl, ?_⟩
        rw [rs_len, rs_len, hs2.len, ht2.len, show decide ((sc.1.length : Int) < (term.length : Int)) = decide (sc.1.length < term.length) from by simp]
        by_cases c2 : sc.1.length < term.length
        · rw [decide_eq_true c2]
          rw [if_pos ⟨c1, c2⟩] at hfil
          have hpl : p ^ ch.long ≤ 120 := by
            have : p * ch.fin ≤ 3 * 40 := Nat.mul_le_mul hp3.1 (by omega)
            omega
          have hll : ch.long ≤ 120 := by
            have h1 : 2 ^ ch.long ≤ p ^ ch.long := Nat.pow_le_pow_left hp3.2 _
            have h2 := Nat.lt_two_pow_self (n := ch.long)
            omega
          refine iteT ⟨.ref c, rfl, c, .ref ta, rfl, gT, .ref o, rfl, o, C, dx, _, nv p, rfl, hO1, T.cl, T.nP, cf_prime _ _ _, .ref c, rfl, c, nv ch.long, rfl, gL, p, ch.long, rfl, by omega, by omega, by omega, by omega, ?_⟩
          refine ⟨ta, ch.turn, n, p ^ ch.long, rfl, hta, G.isP _ hw1, by omega, by omega, fun H2 tt s2 n2 h2 => ?_⟩
          have hpw : pwr ch.turn (p ^ ch.long) ∈ W := G.pwr hw1 _
          generalize pwr ch.turn (p ^ ch.long) = pw at *
          have kp2 := kp.same s2
          refine ⟨.ref o, rfl, o, C, dx, _, .ref la, rfl, s2 _ _ hO1, T.cl, T.nL, cf_lock _ _ _, la, rs as, 0, .ref a0, rfl, rfl, SqT.of (kp2.tup hl hch ha), h0, a0, tv t0, rfl, .inr (sqA (kp2.ta hl hch hA0)), ?_⟩
          refine ⟨.ref sp, rfl, .ref tt, rfl, fewe (by simp), fun p3 n3 => ?_⟩
          have s3 := same_upd (o := .lst [.ref tt]) n3
          refine ⟨sp, p3, rs ss, rs [tt], rfl, rfl, s3 _ _ (s2 _ _ hs1), upd_same, by rw [rs_len, hs2.len]; exact fewe (by simp [rs]; omega), fun p4 n4 => ?_⟩
          have s4 := same_upd (o := .lst (rs ss ++ rs [tt])) n4
          have s24 := (s2.trans s3).trans s4
          have hp4 : LA (upd (upd H2 p3 (.lst (rs [tt]))) p4 (.lst (rs ss ++ rs [tt]))) p4 (sc.1 ++ [pw]) := ⟨ss ++ [tt], by rw [upd_same]; unfold rs; rw [List.map_append], (hs2.same s24).snoc ((h2.same s3).same s4)⟩
          obtain ⟨m1, m2, m3⟩ := spn_more hn16 G S.sub hpw
          refine ⟨n, p4, sc.1 ++ [pw], W, by rw [tv_len, hl0]; rfl, .inl hp4, G.allP m1, hL.n1, hn16, G.box m1, fun H5 mr s5 n5 h5 => ?_⟩
          have s25 := s24.trans s5
          have kp5 := kp.same s25
          have hd5 := s25 _ _ hd
          have hl5 := s25 _ _ hl1
          have hcs5 := hcs.same s25
          have hsp5 := hsp.same s25
          have nml : mr ≠ l := ((s24 _ _ hl1) |> fun e z => by rw [z, e] at n5; cases n5)
          obtain ⟨ms, hm1, hm2⟩ := id h5
          refine ⟨.ref mr, rfl, mr, rs ms, rfl, .inl (SqL.of hm1), .ref sp, rfl, sp, rs ss, rfl, .inl (SqL.of (s25 _ _ hs1)), _, _, rfl, rfl, _, rfl, ?_⟩
          rw [rs_len, rs_len, hm2.len, hs2.len, show decide (((spn n (sc.1 ++ [pw])).length : Int) > (sc.1.length : Int)) = decide (sc.1.length < (spn n (sc.1 ++ [pw])).length) from by simp]
          by_cases c3 : sc.1.length < (spn n (sc.1 ++ [pw])).length
          · rw [decide_eq_true c3]
            rw [if_pos c3] at hfil
            rw [hfil]
            have gL5 : DGet H5 c (.str "long") (some (nv ch.long)) := by rw [← chv_L ga ta ch.long ch.fin]; exact DGet.k (k := kL) hd5
            have four : (chv ga ta ch.long ch.fin).length < sizeLine := few (by show 4 ≤ 1000; decide)
            refine iteT ⟨.ref mr, rfl, .ref c, rfl, c, nv ch.long, rfl, gL5, (ch.long : Int), 1, rfl, rfl, _, DPut.k (k := kL) hd5 four, ?_⟩
            have hd6 : (upd H5 c (.dK (putK (chv ga ta ch.long ch.fin) kL (V.int ((ch.long : Int) + 1))))) c = some (.dK (chv ga ta (ch.long + 1) ch.fin)) := by rw [upd_same]; rfl
            refine ⟨nv v, rfl, .ref c, rfl, c, _, rfl, DPut.k (k := kE) hd6 (few (by show 4 ≤ 1000; decide)), ?_⟩
            have hc6 : ChA (upd (upd H5 c (.dK (putK (chv ga ta ch.long ch.fin) kL (V.int ((ch.long : Int) + 1))))) c (.dK (putK (chv ga ta (ch.long + 1) ch.fin) kE (nv v)))) c { ch with long := ch.long + 1, fin := v } :=
              ⟨ga, ta, by rw [upd_same]; rfl, ((hga.same s25).put hd5 (fun _ z => by cases z)).put hd6 (fun _ z => by cases z), ((hta.same s25).put hd5 (fun _ z => by cases z)).put hd6 (fun _ z => by cases z)⟩
            have hc6a : ChA (upd H5 c (.dK (putK (chv ga ta ch.long ch.fin) kL (V.int ((ch.long : Int) + 1))))) c { ch with long := ch.long + 1 } :=
              ⟨ga, ta, hd6, (hga.same s25).put hd5 (fun _ z => by cases z), (hta.same s25).put hd5 (fun _ z => by cases z)⟩
            have cl : l ≠ c := fun e => lst_notin hl hch (by rw [e]; exact hcm)
            have st1 := hcs5.set hnd hc hd5 (fun _ z => by cases z) hc6a
            have st2 := st1.set hnd hc hd6 (fun _ z => by cases z) hc6
            rw [List.set_set, set_mid len2 hchi] at st2
            refine ⟨mr, _, _, _, _, rfl, (kp5.putC hcm).putC hcm, nml, by rw [upd_ne cl, upd_ne cl]; exact hl5, ?_, st2⟩
            have mc : mr ≠ c := ne_of hm1 hd5 fun z => by cases z
            exact (h5.put hd5 (fun _ z => by cases z) mc).put hd6 (fun _ z => by cases z) mc
          · rw [decide_eq_false c3]
            rw [if_neg c3] at hfil
            rw [hfil]
            refine iteF ⟨sp, _, _, _, _, rfl, kp5, nsp, hl5, hsp5, ?_⟩
            rw [← keep_mid hchi]
            exact hcs5
        · rw [decide_eq_false c2]
          rw [if_neg fun z => c2 z.2] at hfil
          rw [hfil]
          refine iteF ⟨sp, _, _, _, _, rfl, kp, nsp, hl1, hsp, ?_⟩
          rw [← keep_mid hchi]
          exact hcs
      · rw [decide_eq_false c1]
        rw [if_neg fun z => c1 z.1] at hfil
        rw [hfil]
        refine iteF (iteF ⟨sp, _, _, _, _, rfl, kp, nsp, hl1, hsp, ?_⟩)
        rw [← keep_mid hchi]
        exact hcs
    · obtain ⟨sp, y5, y6, y7, y8, rfl, kp, nsp, hl1, hsp, hcs⟩ := h
      have e1 : chs.drop cs.length = [] := by rw [hcsl]; exact List.drop_length
      rw [rs_len, e1, List.append_nil, hcsl, List.take_length] at hcs
      rw [rs_len, hcsl, List.take_length] at hsp
      have S1 := SC chs.length
      rw [List.take_length] at S1
      have len1 : (chs.foldl (fil1 n p v term) (later, [])).2.length = chs.length := by rw [fold1_len, List.length_nil, Nat.zero_add]
      have hfil : fil n p lock v term later chs = ((com lock (v - 1)).foldl (fil2 n v term) (chs.foldl (fil1 n p v term) (later, []))).2 := rfl
      rw [hfil] at q
      generalize chs.foldl (fil1 n p v term) (later, []) = s0 at *
      have co := co_com G hs (v - 1)
      have cofew := co.few G
      have hO1 := kp o _ oL oC hO
      refine ⟨.ref o, rfl, o, C, dx, _, .ref la, rfl, hO1, T.cl, T.nL, cf_lock _ _ _, nv v, rfl, la, n, v - 1, lock, W, by rw [show v - 1 + 1 = v by omega]; rfl, kp.lock hl hch hL, G, hs, by omega, fun H2 D s2 nD hD => ?_⟩
      generalize com lock (v - 1) = cm at *
      have kp2 := kp.same s2
      have hl2 := s2 _ _ hl1
      have hcs2 := hcs.same s2
      have hsp2 := hsp.same s2
      have hO2 := s2 _ _ hO1
      have hT2 := kp2.la hl hch neT hTA
      have ha2 := kp2.tup hl hch ha
      have hA2 := kp2.ta hl hch hA0
      obtain ⟨ds, hD1, hD2⟩ := hD
      have nDl : D ≠ l := fun z => by rw [z, hl1] at nD; cases nD
      have SC2 : ∀ j, ScOk W lock ((cm.take j).foldl (fil2 n v term) s0) := fun j => fold2_ok hn16 G _ _ (fun x hx => co.ok x (List.mem_of_mem_take hx)) S1
      -- all but the list at l stays as in H2
      refine ⟨D, rfl, ⟨_, SqL.of hD1⟩, for_list (xs := rs ds) (fun j σ H' => ∃ sp y5 y6 y7 y8 cs', σ = [some (.ref o), some (nv v), some (.ref tA), some (.ref lA), some (.ref sp), y5, y6, y7, y8] ∧ Kp l [] H2 H' ∧ sp ≠ l ∧ H' l = some (.lst (rs cs')) ∧
          LA H' sp ((cm.take j).foldl (fil2 n v term) s0).1 ∧ ChAs H' cs' ((cm.take j).foldl (fil2 n v term) s0).2 ∧ cs'.Nodup ∧ (∀ c ∈ cs', c ∈ cs ∨ H2 c = none))
        ⟨sp, _, _, _, _, cs, rfl, Kp.refl, nsp, hl2, hsp2, hcs2, hnd, fun c hc => .inl hc⟩ (fun j σ H' _ h => ?_) (fun j x σ H' hx h => ?_) (fun σ H' h => ?_)⟩
      · obtain ⟨_, _, _, _, _, _, _, k9, _⟩ := h
        exact SqL.of (k9 _ _ nDl (fun z => by cases z) hD1)
      · obtain ⟨sp', y5, y6, y7, y8, cs', rfl, k9, nsp', hl3, hsp3, hcs3, nd3, fr3⟩ := h
        obtain ⟨pp, hpp, rfl⟩ := rs_get hx
        obtain ⟨t, g, gA, tA2, htg, hpair, hgA, htA⟩ := hD2.get hpp
        have hjl : j < 60 := Nat.lt_of_lt_of_le (get_lt htg) cofew
        have S := SC2 j
        have hnext : (cm.take (j + 1)).foldl (fil2 n v term) s0 = fil2 n v term ((cm.take j).foldl (fil2 n v term) s0) (t, g) := fold_take htg
        have hlen3 : cs'.length ≤ 3060 := by
          rw [hcs3.len]
          have := fold2_len (n := n) (w := v) (term := term) (cm.take j) s0
          rw [List.length_take] at this
          omega
        rw [hnext]
        generalize (cm.take j).foldl (fil2 n v term) s0 = sc at *
        have kk : ∀ b x, b ≠ l → H2 b = some x → H' b = some x := fun b x h1 h2 => k9 b x h1 (fun z => by cases z) h2
        have tk : ∀ {b ys}, H2 b = some (.tup ys) → H' b = some (.tup ys) := fun {b ys} h => kk b _ (ne_of h hl2 fun z => by cases z) h
        have tka : ∀ {b t}, TA H2 b t → TA H' b t := fun {b t} h => by
          have ne := h.ne hl2 fun _ z => by cases z
          rcases h with h | ⟨o, ho, h⟩
          · exact .inl (kk b _ ne h)
          · exact .inr ⟨o, ho, kk b _ ne h⟩
        have tks : ∀ {bs ts}, TAs H2 bs ts → TAs H' bs ts := fun {bs ts} h => by
          induction h with
          | nil => exact .nil
          | cons h _ ih => exact .cons (tka h) ih
        have tkz : ∀ {bs ts}, TZs H2 bs ts → TZs H' bs ts := fun {bs ts} h => by
          induction h with
          | nil => exact .nil
          | cons h _ ih =>
            have ne := h.ta.ne hl2 fun _ z => by cases z
            obtain ⟨o, ho, h⟩ := h
            exact .cons ⟨o, ho, kk _ _ ne h⟩ ih
        obtain ⟨tw1, tw2, tw3⟩ := co.ok (t, g) (List.mem_of_getElem? htg)
        have hO3 := kk o _ oL hO2
        obtain ⟨ts, ht1, ht2⟩ := id hT2
        have ht3 := kk tA _ neT ht1
        obtain ⟨ss, hs1, hs2⟩ := id hsp3
        have hsl : sc.1.length ≤ 60 := Nat.le_trans (sub_len S.sub S.srt) hW60
        refine ⟨pp, [.ref gA, .ref tA2], rfl, SqT.of (tk hpair), rfl, .ref gA, [.ref tA2], rfl, .ref tA2, [], rfl, rfl, ?_⟩
        refine ⟨.ref sp', rfl, sp', rs ss, rfl, .inl (SqL.of hs1), .ref tA, rfl, tA, rs ts, rfl, .inl (SqL.of ht3), _, _, rfl, rfl, _, rfl, ?_⟩
        rw [rs_len, rs_len, hs2.len, ht2.len, show decide ((sc.1.length : Int) < (term.length : Int)) = decide (sc.1.length < term.length) from by simp]
        have hf2 : fil2 n v term sc (t, g) = if sc.1.length < term.length then
            if sc.1.length < (spn n (sc.1 ++ [t])).length then (spn n (sc.1 ++ [t]), sc.2 ++ [⟨g, t, 1, v⟩])
            else sc
          else sc := rfl
        by_cases c2 : sc.1.length < term.length
        · rw [decide_eq_true c2]
          rw [if_pos c2] at hf2
          refine iteT ?_
          refine ⟨.ref o, rfl, o, C, dx, _, .ref la, rfl, hO3, T.cl, T.nL, cf_lock _ _ _, la, rs as, 0, .ref a0, rfl, rfl, SqT.of (tk ha2), h0, a0, tv t0, rfl, .inr (sqA (tka hA2)), ?_⟩
          refine ⟨.ref sp', rfl, .ref tA2, rfl, fewe (by simp), fun p3 n3 => ?_⟩
          have s3 := same_upd (o := .lst [.ref tA2]) n3
          refine ⟨sp', p3, rs ss, rs [tA2], rfl, rfl, s3 _ _ hs1, upd_same, by rw [rs_len, hs2.len]; exact fewe (by simp [rs]; omega), fun p4 n4 => ?_⟩
          have s4 := same_upd (o := .lst (rs ss ++ rs [tA2])) n4
          have s24 := s3.trans s4
          have htA3 : TA H' tA2 t := tka htA
          have hp4 : LA (upd (upd H' p3 (.lst (rs [tA2]))) p4 (.lst (rs ss ++ rs [tA2]))) p4 (sc.1 ++ [t]) := ⟨ss ++ [tA2], by rw [upd_same]; unfold rs; rw [List.map_append], (hs2.same s24).snoc (htA3.same s24)⟩
          obtain ⟨m1, m2, m3⟩ := spn_more hn16 G S.sub tw1
          refine ⟨n, p4, sc.1 ++ [t], W, by rw [tv_len, hl0]; rfl, .inl hp4, G.allP m1, hL.n1, hn16, G.box m1, fun H5 mr s5 n5 h5 => ?_⟩
          have s25 := s24.trans s5
          have k5 := k9.same s25
          have hl5 := s25 _ _ hl3
          have hcs5 := hcs3.same s25
          have hsp5 := hsp3.same s25
          have nml : mr ≠ l := ((s24 _ _ hl3) |> fun e z => by rw [z, e] at n5; cases n5)
          obtain ⟨ms, hm1, hm2⟩ := id h5
          refine ⟨.ref mr, rfl, mr, rs ms, rfl, .inl (SqL.of hm1), .ref sp', rfl, sp', rs ss, rfl, .inl (SqL.of (s25 _ _ hs1)), _, _, rfl, rfl, _, rfl, ?_⟩
          rw [rs_len, rs_len, hm2.len, hs2.len, show decide (((spn n (sc.1 ++ [t])).length : Int) > (sc.1.length : Int)) = decide (sc.1.length < (spn n (sc.1 ++ [t])).length) from by simp]
          by_cases c3 : sc.1.length < (spn n (sc.1 ++ [t])).length
          · rw [decide_eq_true c3]
            rw [if_pos c3] at hf2
            rw [hf2]
            refine iteT ⟨.ref mr, rfl, ?_⟩
            refine ⟨.ref o, rfl, o, C, dx, _, .ref l, rfl, s25 _ _ hO3, T.cl, T.nC, cf_chains _ _ _, .inl ⟨rfl, _, SqL.of hl5⟩, fun c nc => ?_⟩
            have sc6 := same_upd (o := .dK []) nc
            refine ⟨.ref gA, rfl, .ref tA2, rfl, nv v, rfl, upd_same, chv gA tA2 1 v, rfl, by show 4 ≤ 15; decide, ?_⟩
            have hcc : (upd (upd H5 c (.dK [])) c (.dK (mergeK [] (chv gA tA2 1 v)))) = upd H5 c (.dK (chv gA tA2 1 v)) := by
              rw [show mergeK [] (chv gA tA2 1 v) = chv gA tA2 1 v from rfl]
              exact upd_upd
            rw [hcc]
            clear hcc sc6
            have sc7 := same_upd (o := .dK (chv gA tA2 1 v)) nc
            have hl7 := sc7 _ _ hl5
            have cl : c ≠ l := fun e => by rw [e, hl5] at nc; cases nc
            refine ⟨l, rs cs', .ref c, rfl, rfl, hl7, ?_, ?_⟩
            · rw [rs_len]; exact Nat.lt_of_le_of_lt hlen3 (by rw [sizeLine_eq]; decide)
            · have hnew : ChA (upd H5 c (.dK (chv gA tA2 1 v))) c ⟨g, t, 1, v⟩ := by
                refine ⟨gA, tA2, upd_same, ?_, ?_⟩
                · obtain ⟨gs, g1, g2⟩ := hgA
                  exact ⟨gs, sc7 _ _ (s25 _ _ (tk g1)), ((tkz g2).same s25).same sc7⟩
                · exact (htA3.same s25).same sc7
              have ncs : c ∉ cs' := fun m => by
                obtain ⟨kvs, e⟩ := hcs5.isD m
                rw [nc] at e; cases e
              have nc2 : H2 c = none := by
                cases e : H2 c with
                | none => rfl
                | some x => have := s25 _ _ (kk c x cl e); rw [nc] at this; cases this
              have lnot : l ∉ cs' ++ [c] := fun m => by
                rcases List.mem_append.mp m with z | z
                · exact lst_notin hl3 hcs3 z
                · exact cl (List.mem_singleton.mp z).symm
              refine ⟨mr, _, _, _, _, cs' ++ [c], rfl, (k5.same sc7).putL, nml, by rw [upd_same, rs_snoc], (h5.same sc7).put hl7 (fun _ z => by cases z) nml, ?_, ?_, ?_⟩
              · exact ((hcs5.same sc7).append (.cons hnew .nil)).put hl7 (fun _ z => by cases z) lnot
              · exact List.nodup_append.mpr ⟨nd3, List.pairwise_singleton _ _, fun a ha b hb => by
                  rw [List.mem_singleton.mp hb]
                  exact fun e => ncs (by rw [← e]; exact ha)⟩
              · intro d hd
                rcases List.mem_append.mp hd with z | z
                · exact fr3 d z
                · rw [List.mem_singleton.mp z]; exact .inr nc2
          · rw [decide_eq_false c3]
            rw [if_neg c3] at hf2
            rw [hf2]
            exact iteF ⟨sp', _, _, _, _, cs', rfl, k5, nsp', hl5, hsp5, hcs5, nd3, fr3⟩
        · rw [decide_eq_false c2]
          rw [if_neg c2] at hf2
          rw [hf2]
          exact iteF ⟨sp', _, _, _, _, cs', rfl, k9, nsp', hl3, hsp3, hcs3, nd3, fr3⟩
      · obtain ⟨sp', y5, y6, y7, y8, cs', rfl, k9, nsp', hl3, hsp3, hcs3, nd3, fr3⟩ := h
        rw [rs_len, hD2.len, List.take_length] at hcs3
        refine q H' cs' (fun b x h1 h2 h3 => k9 b x h1 (fun z => by cases z) (kp2 b x h1 h2 h3)) hl3 hcs3 nd3 fun c hc => ?_
        rcases fr3 c hc with z | z
        · exact .inl z
        · exact .inr (kp2.free hl2 hcs2 z)
end
end Lk
set_option Elab.async false
set_option linter.all false
set_option maxRecDepth 100000
namespace Lk
open PySem PySem.Spec PyProof.Rows L2 GxR
/-- tuples are kept -/
def TK (H H' : Hp) : Prop := ∀ b u, IsTp u → H b = some u → H' b = some u
section
variable {l a b c o : Addr} {H H' H1 : Hp} {u u' : HO} {t : Tn} {ts : List Tn} {as : List Addr} {n p : Nat} {lock W : List Tn} {wt : List (List Tn)}
theorem TK.ta (k : TK H H') (h : TA H a t) : TA H' a t := by
  rcases h with h | ⟨o, ho, h⟩
  · exact .inl (k _ _ trivial h)
  · exact .inr ⟨o, ho, k _ _ trivial h⟩
theorem TK.tas (k : TK H H') (h : TAs H as ts) : TAs H' as ts := by
  induction h with
  | nil => exact .nil
  | cons h _ ih => exact .cons (k.ta h) ih
theorem TK.ua (k : TK H H') (h : UA H a ts) : UA H' a ts := let ⟨as, h1, h2⟩ := h; ⟨as, k _ _ trivial h1, k.tas h2⟩
theorem TK.tzs (k : TK H H') (h : TZs H as ts) : TZs H' as ts := by
  induction h with
  | nil => exact .nil
  | cons h _ ih =>
    obtain ⟨o, ho, h⟩ := h
    exact .cons ⟨o, ho, k _ _ trivial h⟩ ih
theorem TK.uz (k : TK H H') (h : UZ H a ts) : UZ H' a ts := let ⟨as, h1, h2⟩ := h; ⟨as, k _ _ trivial h1, k.tzs h2⟩
theorem TK.lockA (k : TK H H') (h : LockA H a n lock) : LockA H' a n lock := ⟨k.uz h.at_, h.ne, h.pl, h.n1, h.n16⟩
theorem TK.lockP (k : TK H H') (h : LockP H a n p lock W wt) : LockP H' a n p lock W wt := ⟨k.lockA h.lk, h.n2, h.n9, h.l4, h.grp, h.sub, h.span, h.pc⟩
theorem tk_put (h : H a = some u) (no : Unit → ¬ IsTp u) : TK H (upd H a u') := fun b x ip e => by
  rw [upd_ne (fun z => by rw [z, h] at e; cases e; exact no () ip)]; exact e
theorem Kp.nil (k : Kp l [] H H') (h : b ≠ l) {x : HO} (e : H b = some x) : H' b = some x := k b x h (fun z => by cases z) e
end
/-! what chains hands back -/
inductive CPs (H : Hp) : List Addr → List Ch → Prop
  | nil : CPs H [] []
  | cons {p ga : Addr} {ch : Ch} {as : List Addr} {chs : List Ch} : H p = some (.tup [.ref ga, nv ch.long]) → UZ H ga ch.given → CPs H as chs → CPs H (p :: as) (ch :: chs)
def CT (H : Hp) (a : Addr) (chs : List Ch) : Prop := ∃ as, H a = some (.tup (rs as)) ∧ CPs H as chs
section
variable {H H' : Hp} {x p ga a : Addr} {o o' : HO} {as bs : List Addr} {chs dhs : List Ch} {ch : Ch}
theorem CPs.same (s : Same H H') (h : CPs H as chs) : CPs H' as chs := by
  induction h with
  | nil => exact .nil
  | cons h1 h2 _ ih => exact .cons (s _ _ h1) (h2.same s) ih
theorem CT.same (s : Same H H') (h : CT H a chs) : CT H' a chs := let ⟨as, h1, h2⟩ := h; ⟨as, s _ _ h1, h2.same s⟩
theorem CPs.put (h : CPs H as chs) (hx : H x = some o) (no : Unit → ¬ IsTp o) : CPs (upd H x o') as chs := by
  induction h with
  | nil => exact .nil
  | cons h1 h2 _ ih => exact .cons (by rw [upd_ne (ne_of h1 hx fun e => no () (by rw [← e]; trivial))]; exact h1) (h2.put hx no) ih
theorem CPs.len (h : CPs H as chs) : as.length = chs.length := by
  induction h with
  | nil => rfl
  | cons _ _ _ ih => rw [List.length_cons, List.length_cons, ih]
theorem CPs.append (h : CPs H as chs) (h' : CPs H bs dhs) : CPs H (as ++ bs) (chs ++ dhs) := by
  induction h with
  | nil => exact h'
  | cons h1 h2 _ ih => exact .cons h1 h2 ih
theorem CPs.get (h : CPs H as chs) {i : Nat} (e : as[i]? = some p) : ∃ ch ga, chs[i]? = some ch ∧ H p = some (.tup [.ref ga, nv ch.long]) ∧ UZ H ga ch.given := by
  induction h generalizing i with
  | nil => simp at e
  | cons h1 h2 _ ih =>
    cases i with
    | zero => simp at e; subst e; exact ⟨_, _, rfl, h1, h2⟩
    | succ i => exact ih (by simpa using e)
end
section
variable {P : Program} {w : World} {K : PySem.W.Frag} {mg : Str → Option Value} {base : Heap}
def spInit (C : Addr) : Sp := fun vs H Q _ => ∃ (o dx la : Addr) (n p : Nat) (lock W : List Tn) (wt : List (List Tn)), vs = [.ref o, .ref la] ∧ H o = some (.ins C dx []) ∧ LockP H la n p lock W wt ∧
  ∀ H' l cs, Kp o [] H H' → H' o = some (.ins C dx (cf la p l)) → H' l = some (.lst (rs cs)) → ChAs H' cs (chn n p lock 1 (wt ++ [[stl n]]) []) → cs.length ≤ 3000 → Q .non H'
theorem ok_init {f fF C : Addr} {fd fdF : FuncData} {k : Nat} (F : Fun K "__init__" "Chains.__init__" sInit f fd) (T : CTxt K mg C) (mF : Meth K C "fill" fF) (GF : FnOk P w K mg base CX0 k fF fdF ["self", "weight", "term", "later"] (spFill C)) (bF : Binds K fdF ["self", "weight", "term", "later"] [])
    (cP : Cal P w K mg base k "prime_of" spPrime) (cW : Cal P w K mg base k "weighed_of" spWof) (cS : Cal P w K mg base k "still" spStill) (ml : mg "len" = none) (mr : mg "range" = none) :
    FnOk P w K mg base CX0 (k + 1) f fd ["self", "lock"] (spInit C) := by
  refine F.ok scInit (fun vs H Q E h => ?_) (fun cdv A outer s H vs Q E hr h => ?_)
  · obtain ⟨o, dx, la, n, p, lock, W, wt, rfl, _⟩ := h
    rfl
  · obtain ⟨o, dx, la, n, p, lock, W, wt, rfl, hO, hL, q⟩ := h
    obtain ⟨as, a0, t0, ha, hT, h0, hA0, hl0⟩ := hL.lk.fst
    refine ⟨_, pss_cons (ps_fld (pv 0) (pv 1) rfl)
      (pss_cons (ps_fld (pv 0) (pe_c cP hr (Nat.le_refl _) (by rfl) (pa_cons (pv 1) pa_nil)) rfl)
      (pss_cons (ps_fld (pv 0) (pe_lst pa_nil) rfl)
      (pss_cons (ps_set (i := 2) scInit.nd rfl (.inl rfl) (pe_op op_cat (pe_c cW hr (Nat.le_refl _) (by rfl) (pa_cons (pv 1) pa_nil))
        (pe_lst (pa_cons (pe_lst (pa_cons (pe_c cS hr (Nat.le_refl _) (by rfl) (pa_cons (pe_callB call_len_seq (by rfl) ml PySem.boot_len (pa_cons (pe_ix ix_tup (pv 1) pe_int (fun _ _ => rfl)) pa_nil)) pa_nil)) pa_nil)) pa_nil))))
      (pss_one (ps_for PassesOwn.never rfl (pi_range1 rfl mr (pa_cons (pe_op op_sub (pe_callB call_len_seq (by rfl) ml PySem.boot_len (pa_cons (pv 2) pa_nil)) pe_int) pa_nil)) (pg_name (i := 3) scInit.nd rfl (.inl rfl))
        (pss_one (ps_expr (pe_meth (pv 0) T.cl mF GF hr bF .nil pass0 (pa_cons (pe_op op_add (pv 3) pe_int) (pa_cons (pe_ix ix_list (pv 2) (pv 3) (fun _ _ => rfl)) (pa_cons (pe_ix ix_list (pv 2) (pe_op op_add (pv 3) pe_int) (fun _ _ => rfl)) pa_nil))))))))))), ?_⟩
    have noI : ∀ {C dx fs}, Unit → ¬ IsTp (HO.ins C dx fs) := fun _ z => by cases z
    refine ⟨.ref la, rfl, .ref o, rfl, o, C, dx, [], rfl, hO, T.cl, T.nL, by show 0 < 1000; decide, ?_⟩
    have k1 : TK H (upd H o (.ins C dx (cf1 la))) := tk_put hO noI
    have kp1 : Kp o [] H (upd H o (.ins C dx (cf1 la))) := Kp.refl.putL
    have hO1 : (upd H o (.ins C dx (cf1 la))) o = some (.ins C dx (cf1 la)) := upd_same
    have L1 := k1.lockP hL
    generalize hH1 : upd H o (.ins C dx (cf1 la)) = H1 at *
    have hH1' : upd H o (.ins C dx (putF "lock" (.ref la) [])) = H1 := hH1
    rw [hH1']
    refine ⟨.ref la, rfl, la, n, lock, W, rfl, L1.lk, L1.grp.box L1.sub, L1.span, fun H2 s2 => ?_⟩
    rw [hL.pc.pr]
    have hO2 := s2 _ _ hO1
    refine ⟨.ref o, rfl, o, C, dx, cf1 la, rfl, hO2, T.cl, T.nP, by show 1 < 1000; decide, ?_⟩
    have k3 : TK H2 (upd H2 o (.ins C dx (cf2 la p))) := tk_put hO2 noI
    have kp3 : Kp o [] H (upd H2 o (.ins C dx (cf2 la p))) := (kp1.same s2).putL
    have hO3 : (upd H2 o (.ins C dx (cf2 la p))) o = some (.ins C dx (cf2 la p)) := upd_same
    have L3 := k3.lockP (L1.same s2)
    generalize hH3 : upd H2 o (.ins C dx (cf2 la p)) = H3 at *
    have hH3' : upd H2 o (.ins C dx (putF "prime" (pvO (some p)) (cf1 la))) = H3 := hH3
    rw [hH3']
    refine ⟨Nat.zero_le _, fun l nl => ?_⟩
    have s4 := same_upd (o := .lst []) nl
    have hO4 := s4 _ _ hO3
    have lo : l ≠ o := fun e => by rw [e, hO3] at nl; cases nl
    refine ⟨.ref o, rfl, o, C, dx, cf2 la p, rfl, hO4, T.cl, T.nC, by rw [cf2_eq]; show 2 < 1000; decide, ?_⟩
    have k5 : TK (upd H3 l (.lst [])) (upd (upd H3 l (.lst [])) o (.ins C dx (cf la p l))) := tk_put hO4 noI
    have kp5 : Kp o [] H (upd (upd H3 l (.lst [])) o (.ins C dx (cf la p l))) := (kp3.same s4).putL
    have hO5 : (upd (upd H3 l (.lst [])) o (.ins C dx (cf la p l))) o = some (.ins C dx (cf la p l)) := upd_same
    have hl5 : (upd (upd H3 l (.lst [])) o (.ins C dx (cf la p l))) l = some (.lst (rs [])) := by rw [upd_ne lo, upd_same]; rfl
    have L5 := k5.lockP (L3.same s4)
    have nlH : l ≠ o → H l = none := fun _ => by
      cases e : H l with
      | none => rfl
      | some x => have := kp3.nil lo e; rw [nl] at this; cases this
    generalize hH5 : upd (upd H3 l (.lst [])) o (.ins C dx (cf la p l)) = H5 at *
    have hH5' : upd (upd H3 l (.lst [])) o (.ins C dx (putF "chains" (.ref l) (cf2 la p))) = H5 := hH5
    rw [hH5']
    obtain ⟨as, a0, t0, ha, hT, h0, hA0, hl0⟩ := L5.lk.fst
    refine ⟨.ref la, rfl, la, n, p, lock, W, wt, rfl, L5.lk, hL.grp, hL.sub, hL.span, hL.pc.pr, hL.pc.ok, hL.pc.nine, hL.pc.hwt, fun H6 wl6 s6 n6 h6 => ?_⟩
    refine ⟨.ref la, rfl, la, rs as, 0, .ref a0, rfl, rfl, SqT.of (s6 _ _ ha), h0, a0, tv t0, rfl, .inr (sqA (hA0.same s6)), n, by rw [tv_len, hl0]; rfl, by have := hL.lk.n16; omega, fun H7 st s7 nst hst => ?_⟩
    refine ⟨fewe (by simp), fun p2 np2 => ⟨fewe (by simp), fun p3 np3 => ?_⟩⟩
    have s57 := s6.trans s7
    have sp2 := same_upd (o := .lst [.ref st]) np2
    have sp3 := same_upd (o := .lst [.ref p2]) np3
    obtain ⟨ls, hl1, hl2⟩ := h6
    have hlw := sp3 _ _ (sp2 _ _ (s7 _ _ hl1))
    have hl4 : LAs (upd (upd H7 p2 (.lst [.ref st])) p3 (.lst [.ref p2])) (ls ++ [p2]) (wt ++ [[stl n]]) := by
      refine LAs.snoc (((hl2.same s7).same sp2).same sp3) ⟨[st], sp3 _ _ upd_same, .cons ((hst.same sp2).same sp3) .nil⟩
    have s58 := (s57.trans sp2).trans sp3
    have hp3 : (upd (upd H7 p2 (.lst [.ref st])) p3 (.lst [.ref p2])) p3 = some (.lst (rs [p2])) := upd_same
    generalize (upd (upd H7 p2 (.lst [.ref st])) p3 (.lst [.ref p2])) = H8 at *
    have hlen := hL.wtl
    refine ⟨wl6, p3, rs ls, rs [p2], rfl, rfl, hlw, hp3, ?_, fun tA nt => ?_⟩
    · rw [rs_len, hl2.len]; exact fewe (by simp [rs]; omega)
    have sA := same_upd (o := .lst (rs ls ++ rs [p2])) nt
    have htA : (upd H8 tA (.lst (rs ls ++ rs [p2]))) tA = some (.lst (rs (ls ++ [p2]))) := by rw [upd_same]; unfold rs; rw [List.map_append]
    have hTs := hl4.same sA
    have s59 := s58.trans sA
    have hl9 := s59 _ _ hl5
    have hO9 := s59 _ _ hO5
    have kp9 := kp5.same s59
    have L9 := L5.same s59
    have tAl : tA ≠ l := fun e => by rw [e, s58 _ _ hl5] at nt; cases nt
    -- the terms' lists are not the list of chains
    have nlT : ∀ b ∈ ls ++ [p2], b ≠ l := by
      intro b hb e
      rcases List.mem_append.mp hb with z | z
      · obtain ⟨i, hi⟩ := List.getElem?_of_mem z
        obtain ⟨ts, hts, us, g1, g2⟩ := hl2.get hi
        have hpos := (hL.terms ts (List.mem_append_left _ (List.mem_of_getElem? hts))).2.2.1
        rw [e, s6 _ _ hl5] at g1
        have e9 : rs [] = rs us := by injection g1 with g1; injection g1
        have e10 := g2.len
        rw [← rs_inj e9] at e10
        simp at e10; omega
      · rw [List.mem_singleton.mp z] at e
        rw [e, s57 _ _ hl5] at np2; cases np2
    generalize (upd H8 tA (.lst (rs ls ++ rs [p2]))) = H9 at *
    have hTm := hL.terms
    have key : ∀ H' cs, Kp l [] H9 H' → H' l = some (.lst (rs cs)) → ChAs H' cs (chn n p lock 1 (wt ++ [[stl n]]) []) → cs.length ≤ 3000 → Q .non H' := fun H' cs k1 k2 k3 k4 => by
      refine q H' l cs (fun b x h1 _ h3 => ?_) (k1.nil lo.symm hO9) k2 k3 k4
      have e1 := kp9.nil h1 h3
      exact k1.nil (fun e => by rw [e, nlH lo] at h3; cases h3) e1
    generalize hts : wt ++ [[stl n]] = terms at *
    have hlt : terms.length ≤ 40 := by rw [← hts, List.length_append, List.length_singleton]; omega
    have hlt1 : 1 ≤ terms.length := by rw [← hts, List.length_append, List.length_singleton]; omega
    clear hl4 hl2 hlw hl1
    generalize ls ++ [p2] = rsA at *
    have eL : rsA.length = terms.length := hTs.len
    refine ⟨.ref tA, rfl, tA, rs rsA, rfl, .inl (SqL.of htA), _, 1, rfl, rfl, ((terms.length - 1 : Nat) : Int), ?_, by omega, by omega, ?_⟩
    · show [V.int (((rs rsA).length : Int) - 1)] = _
      rw [rs_len, eL, show ((terms.length : Int) - 1) = ((terms.length - 1 : Nat) : Int) by omega]
    refine for_range (lo := 0) (n := (((terms.length - 1 : Nat) : Int)).toNat) (fun i σ H' => ∃ y3 cs chs, σ = [some (.ref o), some (.ref la), some (.ref tA), y3] ∧ Kp l [] H9 H' ∧ H' l = some (.lst (rs cs)) ∧ ChAs H' cs chs ∧ cs.Nodup ∧ (∀ c ∈ cs, H9 c = none) ∧ ChsOk W lock chs ∧ ChB p i chs ∧ chs.length ≤ 60 * i ∧
        chn n p lock (i + 1) (terms.drop i) chs = chn n p lock 1 terms []) ⟨_, [], [], rfl, Kp.refl, hl9, .nil, List.nodup_nil, fun c hc => absurd hc List.not_mem_nil, fun c hc => absurd hc List.not_mem_nil, fun c hc => absurd hc List.not_mem_nil, Nat.zero_le _, rfl⟩
      (fun i σ H' hi h => ?_) (fun σ H' h => ?_)
    · obtain ⟨y3, cs, chs, rfl, kp, hlc, hch, hnd, hfr, hok, hB, hcl, hchn⟩ := h
      have hi1 : i + 1 < terms.length := by omega
      have ho1 : terms[i]? = some terms[i] := List.getElem?_eq_getElem (by omega)
      have ho2 : terms[i + 1]? = some terms[i + 1] := List.getElem?_eq_getElem hi1
      generalize terms[i] = one at ho1
      generalize terms[i + 1] = other at ho2
      obtain ⟨b1, hb1, hLb1⟩ : ∃ b, rsA[i]? = some b ∧ LA H9 b one := by
        have e : rsA[i]? = some rsA[i] := List.getElem?_eq_getElem (by omega)
        obtain ⟨ts, g1, g2⟩ := hTs.get e
        rw [ho1] at g1; cases g1
        exact ⟨_, e, g2⟩
      obtain ⟨b2, hb2, hLb2⟩ : ∃ b, rsA[i + 1]? = some b ∧ LA H9 b other := by
        have e : rsA[i + 1]? = some rsA[i + 1] := List.getElem?_eq_getElem (by omega)
        obtain ⟨ts, g1, g2⟩ := hTs.get e
        rw [ho2] at g1; cases g1
        exact ⟨_, e, g2⟩
      have tk : TK H9 H' := fun b u ip h => kp.nil (fun e => by rw [e, hl9] at h; cases h; exact ip) h
      have la_of : ∀ {b ts}, b ≠ l → LA H9 b ts → LA H' b ts := fun {b ts} h ⟨as, g1, g2⟩ => ⟨as, kp.nil h g1, tk.tas g2⟩
      have nb1 := nlT b1 (List.mem_of_getElem? hb1)
      have nb2 := nlT b2 (List.mem_of_getElem? hb2)
      have T1 := hTm one (List.mem_of_getElem? ho1)
      have T2 := hTm other (List.mem_of_getElem? ho2)
      have g1 : (rs rsA)[i]? = some (.ref b1) := by unfold rs; rw [List.getElem?_map, hb1]; rfl
      have g2 : (rs rsA)[i + 1]? = some (.ref b2) := by unfold rs; rw [List.getElem?_map, hb2]; rfl
      rw [show (V.int (0 + (i : Int))) = nv i from by rw [Int.zero_add]; rfl]
      refine ⟨.ref o, rfl, o, dx, cf la p l, rfl, kp.nil lo.symm hO9, cf_fill _ _ _, ?_⟩
      refine ⟨nv i, rfl, (i : Int), 1, rfl, rfl, .ref tA, rfl, nv i, rfl, tA, rs rsA, (i : Int), .ref b1, rfl, rfl, SqL.of (kp.nil tAl htA), atI_nat g1, .ref tA, rfl, nv i, rfl, (i : Int), 1, rfl, rfl, tA, rs rsA, ((i + 1 : Nat) : Int), .ref b2, rfl, rfl, SqL.of (kp.nil tAl htA), atI_nat g2, ?_⟩
      refine ⟨o, dx, l, la, b1, b2, n, p, i + 1, cs, lock, W, one, other, chs, rfl, kp.nil lo.symm hO9, tk.lockA L9.lk, hL.grp, hL.sub, la_of nb1 hLb1, nb1, la_of nb2 hLb2, nb2, T2.1, T2.2.1, T1.1, T1.2.1, hlc, hch, hnd, hok, hB.more (Nat.le_succ i), hL.pc.ok, by omega, by omega, by omega, fun H2 cs2 k2 l2 c2 n2 f2 => ?_⟩
      refine ⟨_, cs2, fil n p lock (i + 1) one other chs, rfl, fun b x h1 h2 h3 => k2 b x h1 (fun m => by rw [hfr b m] at h3; cases h3) (kp b x h1 h2 h3), l2, c2, n2, fun c hc => ?_, fil_ok hL.lk.n16 hL.grp hL.sub T2.1 T2.2.1 hok, chB_fil (by omega) (hB.more (Nat.le_succ i)), ?_, ?_⟩
      · rcases f2 c hc with z | z
        · exact hfr c z
        · cases e : H9 c with
          | none => rfl
          | some x =>
            by_cases e1 : c = l
            · rw [e1, hlc] at z; cases z
            · have := kp.nil e1 e; rw [z] at this; cases this
      · have := fil_len (n := n) (p := p) (w := i + 1) (term := one) (later := other) (chs := chs) hL.grp hL.sub
        omega
      · rw [← hchn, drop_at ho1, drop_at ho2]
        rfl
    · obtain ⟨y3, cs, chs, rfl, kp, hlc, hch, hnd, hfr, hok, hB, hcl, hchn⟩ := h
      rw [show (((terms.length - 1 : Nat) : Int)).toNat = terms.length - 1 from rfl] at hcl hchn
      have e1 : (terms.drop (terms.length - 1)).length = 1 := by rw [List.length_drop]; omega
      obtain ⟨x, ex⟩ := List.length_eq_one_iff.mp e1
      have e2 : chn n p lock (terms.length - 1 + 1) (terms.drop (terms.length - 1)) chs = chs := by rw [ex]; rfl
      rw [e2] at hchn
      rw [hchn] at hch hcl
      exact key H' cs kp hlc hch (by rw [hch.len]; omega)
end
end Lk
set_option Elab.async false
set_option linter.all false
set_option maxRecDepth 100000
namespace Lk
open PySem PySem.Spec PyProof.Rows L2 GxR
section
variable {P : Program} {w : World} {K : PySem.W.Frag} {mg : Str → Option Value} {base : Heap}
def spChains (Pt : Addr) : Sp := fun vs H Q _ => ∃ (a : Addr) (n p : Nat) (lock W : List Tn) (wt : List (List Tn)), vs = [.ref a] ∧ LockP H a n p lock W wt ∧ TabG H Pt ∧ RetT Pt H Q fun H' q => CT H' q (chn n p lock 1 (wt ++ [[stl n]]) [])
theorem ok_chains {f fI Pt C C2 : Addr} {fd fdI : FuncData} {k : Nat} (F : Fun K "chains" "chains" sChains f fd) (T : CTxt K mg C2) (M : Mk K C2 fI) (mgC : mg "Chains" = some (.ref C2)) (GI : FnOk P w K mg base CX0 k fI fdI ["self", "lock"] (spInit C2)) (bI : Binds K fdI ["self", "lock"] [])
    (cN : CalX P w K mg base (k + 1) "need_prime_lock" (spNeedP Pt C)) (mt : mg "tuple" = none) :
    FnOk P w K mg base CX0 (k + 1 + 1) f fd ["lock"] (spChains Pt) := by
  refine F.ok scChains (fun vs H Q E h => ?_) (fun cdv A outer s H vs Q E hr h => ?_)
  · obtain ⟨a, n, p, lock, W, wt, rfl, _⟩ := h
    rfl
  · obtain ⟨a, n, p, lock, W, wt, rfl, hL, hTb, q⟩ := h
    have hu : A.units + 3 + 1 < cLine := by have := hr.un; have e : (A.deeper (envOfC "chains" (defScope sChains) s.heap.objs.size f cdv)).units = A.units + 3 := rfl; omega
    refine ⟨_, pss_cons (ps_expr (pe_cx cN hr (Nat.le_refl _) (by rfl) (pa_cons (pv 0) pa_nil)))
      (pss_one (ps_ret (pe_tupleOf (by rfl) mt
        (pe_lc (own := [("chain", 1)]) (g := gName 1) (tt := tYes) (te := tTup (tCons (tDGet (tVar 1) (tC (.str "given"))) (tCons (tDGet (tVar 1) (tC (.str "long"))) tNil))) rfl scChains.nd
            (pi_list (pe_fld (pe_make M GI hr (by rfl) mgC bI .nil pass0 (pa_cons (pv 0) pa_nil)) rfl)) (blkOk_by (N := ["lock", "chain"]) (sc := defScope sChains) (by decide +kernel))
            (fun _ _ _ _ _ => pg_name (i := 1) scChains.nd rfl (Or.inl rfl)) (fun _ _ _ _ _ => pts_nil) (fun _ _ _ _ _ => pe_tup (pa_cons (pe_dget hu (pv 1) pe_str (fun _ _ => rfl)) (pa_cons (pe_dget hu (pv 1) pe_str (fun _ _ => rfl)) pa_nil))))))), ?_⟩
    refine ⟨.ref a, rfl, a, n, lock, W, rfl, hL.lk, hL.n2, hL.n9, hL.l4, hL.grp.box hL.sub, hL.span, hTb, fun H1 s1 => ?_⟩
    rw [hL.pc.pr]
    have hL1 := hL.sameT s1 hTb
    refine ⟨.ref a, rfl, fun x dx nx ndx ne => ?_⟩
    have sb : Same H1 (upd (upd H1 dx (.own x)) x (.ins C2 dx [])) := fun b o e => by
      rw [upd_ne (ne_of_none e nx), upd_ne (ne_of_none e ndx)]; exact e
    refine ⟨x, dx, a, n, p, lock, W, wt, rfl, upd_same, hL1.same sb, fun H2 l cs k2 o2 l2 c2 hlen => ⟨rfl, ?_⟩⟩
    have s12 : Same H1 H2 := fun b o e => k2.nil (ne_of_none e nx) (sb _ _ e)
    have st := s1.same s12
    generalize chn n p lock 1 (wt ++ [[stl n]]) [] = chs at *
    refine ⟨x, C2, dx, _, .ref l, rfl, o2, T.cl, T.nC, cf_chains _ _ _, l, rfl, ⟨_, SqL.of l2⟩, fun D nD => ?_⟩
    refine lc_list (xs := rs cs) (fun j H' => Same H2 H' ∧ ∃ ds, H' D = some (.lst (rs ds)) ∧ CPs H' ds (chs.take j)) ⟨same_upd nD, [], upd_same, .nil⟩ (fun j H' _ h => SqL.of (h.1 _ _ l2)) (fun j x H' hx h => ?_) (fun H' h => ?_)
    · obtain ⟨smj, ds, hD, hds⟩ := h
      obtain ⟨c, hc, rfl⟩ := rs_get hx
      obtain ⟨ch, hch, hcA⟩ := c2.at hc
      obtain ⟨ga, ta, hd, hga, hta⟩ := hcA.same smj
      have gL : DGet H' c (.str "long") (some (nv ch.long)) := by rw [← chv_L ga ta ch.long ch.fin]; exact DGet.k (k := kL) hd
      have gG : DGet H' c (.str "given") (some (.ref ga)) := by rw [← chv_G ga ta ch.long ch.fin]; exact DGet.k (k := kG) hd
      refine ⟨rfl, ?_⟩
      refine ⟨.ref c, rfl, c, .ref ga, rfl, gG, .ref c, rfl, c, nv ch.long, rfl, gL, fewe (by simp), fun q3 n3 => ?_⟩
      have s3 := same_upd (o := .tup [.ref ga, nv ch.long]) n3
      have hD3 := s3 _ _ hD
      have hj := get_lt hc
      have lds : ds.length ≤ 3000 := by rw [hds.len, List.length_take]; have := c2.len; omega
      refine ⟨_, hD3, ?_, same_put (smj.trans s3) nD, ds ++ [q3], ?_, ?_⟩
      · rw [rs_len]; exact Nat.lt_of_le_of_lt lds (by rw [sizeLine_eq]; decide)
      · rw [upd_same, rs_snoc]
      · rw [take_succ hch]
        have hq3 : (upd H' q3 (.tup [.ref ga, nv ch.long])) q3 = some (.tup [.ref ga, nv ch.long]) := upd_same
        have qD : q3 ≠ D := ne_of hq3 hD3 fun z => by cases z
        exact ((hds.same s3).put hD3 fun _ z => by cases z).append (.cons (by rw [upd_ne qD]; exact hq3) ((hga.same s3).put hD3 fun _ z => by cases z) .nil)
    · obtain ⟨smj, ds, hD, hds⟩ := h
      rw [rs_len, c2.len, List.take_length] at hds
      refine .inl ⟨D, rs ds, rfl, SqL.of hD, fun q3 n3 => ?_⟩
      have sT := st.same smj
      refine q _ q3 (sT.put1 n3) (sT.free n3) ⟨ds, upd_same, hds.same (same_upd n3)⟩
end
end Lk
set_option Elab.async false
set_option linter.all false
set_option maxRecDepth 100000
namespace Lk
open PySem PySem.Spec PyProof.Rows L2 GxR
/-! the law's own defs: the row of the script -/
abbrev yTaken : Stmt := topS 38
abbrev yPick : Stmt := topS 39
abbrev yPerm : Stmt := topS 41
abbrev yBehind : Stmt := topS 42
abbrev yBack : Stmt := topS 43
abbrev ySwap : Stmt := topS 44
theorem syTaken : FnScope ["_law_row", "_law_many", "_law_found", "_law_cell"] ["_law_row", "_law_many"] (defScope yTaken) := ⟨rfl, rfl, rfl, by decide +kernel, rfl, by decide +kernel, by decide +kernel⟩
theorem syPick : FnScope ["_law_row", "_law_things"] ["_law_row", "_law_things"] (defScope yPick) := ⟨rfl, rfl, rfl, by decide +kernel, rfl, by decide +kernel, by decide +kernel⟩
theorem syPerm : FnScope ["_law_row", "_law_places", "_law_left", "_law_found", "_law_turn"] ["_law_row", "_law_places"] (defScope yPerm) := ⟨rfl, rfl, rfl, by decide +kernel, rfl, by decide +kernel, by decide +kernel⟩
theorem syBehind : FnScope ["_law_one", "_law_other", "_law_place"] ["_law_one", "_law_other"] (defScope yBehind) := ⟨rfl, rfl, rfl, by decide +kernel, rfl, by decide +kernel, by decide +kernel⟩
theorem syBack : FnScope ["_law_turn", "_law_place"] ["_law_turn"] (defScope yBack) := ⟨rfl, rfl, rfl, by decide +kernel, rfl, by decide +kernel, by decide +kernel⟩
theorem sySwap : FnScope ["_law_one", "_law_other"] ["_law_one", "_law_other"] (defScope ySwap) := ⟨rfl, rfl, rfl, by decide +kernel, rfl, by decide +kernel, by decide +kernel⟩
/-- a new turn, frozen or not -/
def TF (z : Bool) (H : Hp) (a : Addr) (t : Tn) : Prop := match z with
  | true => TZ H a t
  | false => TX H a t
theorem TF.ta {z : Bool} {H : Hp} {a : Addr} {t : Tn} (h : TF z H a t) : TA H a t := match z, h with
  | true, h => .inr h
  | false, h => .inl h
theorem TF.same {z : Bool} {H H' : Hp} {a : Addr} {t : Tn} (s : Same H H') (h : TF z H a t) : TF z H' a t := match z, h with
  | true, h => TZ.same s h
  | false, h => TX.same s h
theorem TF.put {z : Bool} {H : Hp} {x a : Addr} {t : Tn} {o o' : HO} (h : TF z H a t) (hx : H x = some o) (no : Unit → ¬ IsTp o) : TF z (upd H x o') a t := match z, h with
  | true, h => TZ.put h hx no
  | false, h => TX.put h hx no
theorem newT_of {z : Bool} {H : Hp} {Q : VK} {t : Tn} (q : Ret H Q fun H' p => TF z H' p t) : NewT H Q (tv t) := match z, q with
  | false, q => .inl fun p np => q _ p (same_upd np) np upd_same
  | true, q => .inr fun p o ho np => q _ p (same_upd np) np ⟨o, ho, upd_same⟩
/-- the row at r, the script at s -/
structure RowA (K : PySem.W.Frag) (s : Addr) (H : Hp) (r : Addr) : Prop where
  row : ∃ (i : Nat) (x rr : Int), H r = some (.lst [.ref s, nv i, .int x, .int rr])
  scr : ∃ ns : List Int, SqL K H s (ns.map V.int)
theorem SqL.keep {K : PySem.W.Frag} {H H' : Hp} {s : Addr} {xs : List V} (h : SqL K H s xs) (k : ∀ o, H s = some o → H' s = some o) : SqL K H' s xs := by
  rcases h with (z | ⟨o, z⟩) | z
  · exact .inl (.inl (k _ z))
  · exact .inl (.inr ⟨o, k _ z⟩)
  · exact .inr z
theorem scr_keep {K : PySem.W.Frag} {H H' : Hp} {s r : Addr} {x : V} {xs : List V} {ns : List Int} {t : Addr} (hR : H r = some (.lst (.ref t :: xs))) (hS : SqL K H s (ns.map V.int)) (k : s ≠ r → ∀ o, H s = some o → H' s = some o) : SqL K H' s (ns.map V.int) := by
  rcases hS with (z | ⟨o, z⟩) | z
  · refine .inl (.inl (k (fun e => ?_) _ z))
    rw [e, hR] at z
    cases ns <;> cases z
  · refine .inl (.inr ⟨o, k (fun e => ?_) _ z⟩)
    rw [e, hR] at z
    cases z
  · exact .inr z
theorem scr_upd {K : PySem.W.Frag} {H : Hp} {s r : Addr} {xs : List V} {ns : List Int} {t : Addr} {o : HO} (hR : H r = some (.lst (.ref t :: xs))) (hS : SqL K H s (ns.map V.int)) : SqL K (upd H r o) s (ns.map V.int) :=
  scr_keep (x := .non) hR hS fun ne o e => by rw [upd_ne ne]; exact e
theorem RowA.same {K : PySem.W.Frag} {H H' : Hp} {r z : Addr} (h : RowA K z H r) (s : Same H H') : RowA K z H' r := by
  obtain ⟨i, x, rr, h2⟩ := h.row
  obtain ⟨ns, h3⟩ := h.scr
  exact ⟨⟨i, x, rr, s _ _ h2⟩, ns, SqL.keep h3 fun o e => s _ _ e⟩
theorem RowA.at {K : PySem.W.Frag} {H : Hp} {r z : Addr} (h : RowA K z H r) : ∃ xs, H r = some (.lst xs) := let ⟨_, _, _, h2⟩ := h.row; ⟨_, h2⟩
theorem RowA.lt {K : PySem.W.Frag} {H : Hp} {r z : Addr} (h : RowA K z H r) {a : Addr} (e : H a = none) : a ≠ r := fun z => by
  obtain ⟨xs, h2⟩ := h.at
  rw [z, h2] at e; cases e
/-- all but the row is kept -/
def Kr (r : Addr) (H H' : Hp) : Prop := ∀ b x, b ≠ r → H b = some x → H' b = some x
theorem Kr.refl {r : Addr} {H : Hp} : Kr r H H := fun _ _ _ h => h
theorem Kr.trans {r : Addr} {H H1 H' : Hp} (k : Kr r H H1) (k' : Kr r H1 H') : Kr r H H' := fun b x h e => k' b x h (k b x h e)
theorem Kr.same {r : Addr} {H H1 H' : Hp} (k : Kr r H H1) (s : Same H1 H') : Kr r H H' := fun b x h e => s b x (k b x h e)
theorem Kr.of {r : Addr} {H H' : Hp} (s : Same H H') : Kr r H H' := fun b x _ e => s b x e
theorem Kr.put {r : Addr} {H H1 : Hp} {o : HO} (k : Kr r H H1) : Kr r H (upd H1 r o) := fun b x h e => by rw [upd_ne h]; exact k b x h e
theorem Kr.putN {r a : Addr} {H H1 : Hp} {o : HO} (k : Kr r H H1) (n : H a = none) : Kr r H (upd H1 a o) := fun b x h e => by rw [upd_ne (ne_of_none e n)]; exact k b x h e
theorem Kr.row {K : PySem.W.Frag} {r z : Addr} {H H' : Hp} (k : Kr r H H') (h : RowA K z H r) (e : ∃ (i : Nat) (x rr : Int), H' r = some (.lst [.ref z, nv i, .int x, .int rr])) : RowA K z H' r :=
  let ⟨ns, h3⟩ := h.scr
  let ⟨_, _, _, h2⟩ := h.row
  ⟨e, ns, scr_keep (x := .non) h2 h3 fun ne o q => k z o ne q⟩
theorem Kr.free {K : PySem.W.Frag} {r a z : Addr} {H H' : Hp} (k : Kr r H H') (h : RowA K z H' r) (e : H' a = none) : H a = none := by
  cases q : H a with
  | none => rfl
  | some x =>
    have := k a x (h.lt e) q
    rw [e] at this; cases this
section
variable {P : Program} {w : World} {K : PySem.W.Frag} {mg : Str → Option Value} {base : Heap}
theorem modV {i : Int} {m : Nat} (h : 1 ≤ m) : ∃ v, V.int (i % (m : Int)) = nv v ∧ v < m := by
  have h1 : 0 ≤ i % (m : Int) := Int.emod_nonneg _ (by omega)
  have h2 : i % (m : Int) < (m : Int) := Int.emod_lt_of_pos _ (by omega)
  refine ⟨(i % (m : Int)).toNat, ?_, by omega⟩
  show V.int _ = V.int _
  rw [Int.toNat_of_nonneg h1]
def spTaken (K : PySem.W.Frag) : Sp := fun vs H Q _ => ∃ (r z : Addr) (m : Nat), vs = [.ref r, nv m] ∧ RowA K z H r ∧ 1 ≤ m ∧ m ≤ 1000 ∧ ∀ H' v, Kr r H H' → RowA K z H' r → v < m → Q (nv v) H'
theorem ok_taken {f : Addr} {fd : FuncData} {k : Nat} (F : Fun K "_law_taken" "_law_taken" yTaken f fd) (mi : mg "int" = none) (ml : mg "len" = none) : FnOk P w K mg base CX0 (k + 1) f fd ["_law_row", "_law_many"] (spTaken K) := by
  refine F.ok syTaken (fun vs H Q E h => ?_) (fun cdv A outer s H vs Q E hr h => ?_)
  · obtain ⟨r, z, m, rfl, _⟩ := h
    rfl
  · obtain ⟨r, sa, m, rfl, ⟨⟨i, x, rr, hR⟩, ns, hS⟩, hm1, hm2, q⟩ := h
    refine ⟨_, pss_cons (ps_if (pt_cmpR op_gt (pe_ix ix_list (pv 0) pe_int (fun _ _ => rfl)) pe_int (nomark _))
        (pss_cons (ps_set (i := 2) syTaken.nd rfl (.inl rfl) (pe_op op_mod (pe_callTy call_int1 (by rfl) mi (by decide +kernel) (pa_cons (pe_ix ix_list (pv 0) pe_int (fun _ _ => rfl)) pa_nil)) (pv 1)))
        (pss_cons (ps_asg (pe_op op_fdiv (pe_ix ix_list (pv 0) pe_int (fun _ _ => rfl)) (pv 1)) (pg_sub (pv 0) pe_int set_list))
        (pss_one (ps_ret (pv 2))))) pss_nil)
      (pss_cons (ps_asg (pe_op op_add (pe_ix ix_list (pv 0) pe_int (fun _ _ => rfl)) pe_int) (pg_sub (pv 0) pe_int set_list))
      (pss_cons (ps_if (pt_cmpR op_gt (pe_ix ix_list (pv 0) pe_int (fun _ _ => rfl)) (pe_callB call_len_seq (by rfl) ml PySem.boot_len (pa_cons (pe_ix ix_list (pv 0) pe_int (fun _ _ => rfl)) pa_nil)) (nomark _))
        (pss_cons (ps_asg (pe_op op_mod (pe_callTy call_int1 (by rfl) mi (by decide +kernel) (pa_cons (pe_op op_add (pe_op op_mul (pe_ix ix_list (pv 0) pe_int (fun _ _ => rfl)) pe_int) pe_int) pa_nil)) pe_int) (pg_sub (pv 0) pe_int set_list))
        (pss_one (ps_ret (pe_op op_mod (pe_callTy call_int1 (by rfl) mi (by decide +kernel) (pa_cons (pe_op op_fdiv (pe_ix ix_list (pv 0) pe_int (fun _ _ => rfl)) pe_int) pa_nil)) (pv 1))))) pss_nil)
      (pss_cons (ps_set (i := 3) syTaken.nd rfl (.inl rfl) (pe_ix ix_list (pe_ix ix_list (pv 0) pe_int (fun _ _ => rfl)) (pe_op op_sub (pe_ix ix_list (pv 0) pe_int (fun _ _ => rfl)) pe_int) (fun _ _ => rfl)))
      (pss_cons (ps_asg (pe_op op_mod (pe_callTy call_int1 (by rfl) mi (by decide +kernel) (pa_cons (pe_op op_add (pe_op op_add (pe_op op_mul (pe_ix ix_list (pv 0) pe_int (fun _ _ => rfl)) pe_int) (pv 3)) pe_int) pa_nil)) pe_int) (pg_sub (pv 0) pe_int set_list))
      (pss_cons (ps_if (pt_cmpR op_ge (pv 3) (pe_op op_pow pe_int pe_int) (nomark _)) (pss_one (ps_asg (pe_op op_fdiv (pv 3) (pv 1)) (pg_sub (pv 0) pe_int set_list))) pss_nil)
      (pss_one (ps_ret (pe_op op_mod (pe_callTy call_int1 (by rfl) mi (by decide +kernel) (pa_cons (pv 3) pa_nil)) (pv 1))))))))), ?_⟩
    refine ⟨.ref r, rfl, r, _, 3, .int rr, rfl, rfl, SqL.of hR, rfl, rr, 0, rfl, rfl, _, rfl, ?_⟩
    by_cases h0 : rr > 0
    · rw [decide_eq_true h0]
      obtain ⟨v, ev, hv⟩ := modV (i := rr) hm1
      refine iteT ⟨.ref r, rfl, r, _, 3, .int rr, rfl, rfl, SqL.of hR, rfl, .inl ⟨rr, rfl, nv m, rfl, rr, (m : Int), rfl, rfl, by omega, ?_⟩⟩
      refine ⟨.ref r, rfl, r, _, 3, .int rr, rfl, rfl, SqL.of hR, rfl, nv m, rfl, rr, (m : Int), rfl, rfl, ⟨by omega, by omega⟩, .ref r, rfl, r, _, 3, 3, rfl, rfl, hR, rfl, ?_⟩
      refine ⟨_, rfl, ?_⟩
      show Q (V.int (rr % (m : Int))) _
      rw [ev]
      exact q _ v Kr.refl.put ⟨⟨i, x, rr / (m : Int), upd_same⟩, ns, scr_upd hR hS⟩ hv
    · rw [decide_eq_false h0]
      refine iteF ?_
      refine ⟨.ref r, rfl, r, _, 1, nv i, rfl, rfl, SqL.of hR, rfl, (i : Int), 1, rfl, rfl, .ref r, rfl, r, _, 1, 1, rfl, rfl, hR, rfl, ?_⟩
      have hR1 : (upd H r (.lst ([.ref sa, nv i, .int x, .int rr].set 1 (V.int ((i : Int) + 1))))) r = some (.lst [.ref sa, nv (i + 1), .int x, .int rr]) := upd_same
      have hS1 : SqL K (upd H r (.lst ([.ref sa, nv i, .int x, .int rr].set 1 (V.int ((i : Int) + 1))))) sa (ns.map V.int) := scr_upd hR hS
      have k1 : Kr r H (upd H r (.lst ([.ref sa, nv i, .int x, .int rr].set 1 (V.int ((i : Int) + 1))))) := Kr.refl.put
      generalize upd H r (.lst ([.ref sa, nv i, .int x, .int rr].set 1 (V.int ((i : Int) + 1)))) = H1 at *
      refine ⟨.ref r, rfl, r, _, 1, nv (i + 1), rfl, rfl, SqL.of hR1, rfl, .ref r, rfl, r, _, 0, .ref sa, rfl, rfl, SqL.of hR1, rfl, sa, ns.map V.int, rfl, .inl hS1, ((i + 1 : Nat) : Int), _, rfl, rfl, _, rfl, ?_⟩
      rw [List.length_map]
      by_cases h1 : ns.length < i + 1
      · rw [decide_eq_true (show ((i + 1 : Nat) : Int) > (ns.length : Int) by omega)]
        refine iteT ⟨.ref r, rfl, r, _, 2, .int x, rfl, rfl, SqL.of hR1, rfl, x, 48271, rfl, rfl, .inr ⟨by decide, by decide⟩, x * 48271, 11, rfl, rfl, .inl ⟨x * 48271 + 11, rfl, x * 48271 + 11, 2147483647, rfl, rfl, (by decide : (0 : Int) < 2147483647), ?_⟩⟩
        obtain ⟨x2, hx2⟩ : ∃ x2, x2 = (x * 48271 + 11) % 2147483647 := ⟨_, rfl⟩
        refine ⟨.ref r, rfl, r, _, 2, 2, rfl, rfl, hR1, rfl, ?_⟩
        have hR2 : (upd H1 r (.lst ([.ref sa, nv (i + 1), .int x, .int rr].set 2 (V.int ((x * 48271 + 11) % 2147483647))))) r = some (.lst [.ref sa, nv (i + 1), .int x2, .int rr]) := by rw [hx2]; exact upd_same
        obtain ⟨v, ev, hv⟩ := modV (i := x2 / 7) hm1
        refine ⟨.ref r, rfl, r, _, 2, .int x2, rfl, rfl, SqL.of hR2, rfl, x2, 7, rfl, rfl, ⟨by decide, by decide⟩, .inl ⟨x2 / 7, rfl, nv m, rfl, x2 / 7, (m : Int), rfl, rfl, by omega, ?_⟩⟩
        show Q (V.int (x2 / 7 % (m : Int))) _
        rw [ev]
        exact q _ v k1.put ⟨⟨i + 1, x2, rr, hR2⟩, ns, scr_upd hR1 hS1⟩ hv
      · rw [decide_eq_false (show ¬ ((i + 1 : Nat) : Int) > (ns.length : Int) by omega)]
        refine iteF ?_
        have hc : ns[i]? = some (ns[i]'(by omega)) := List.getElem?_eq_getElem (by omega)
        generalize ns[i]'(by omega) = c at hc
        have hc2 : (ns.map V.int)[i]? = some (.int c) := by rw [List.getElem?_map, hc]; rfl
        refine ⟨.ref r, rfl, r, _, 0, .ref sa, rfl, rfl, SqL.of hR1, rfl, .ref r, rfl, r, _, 1, nv (i + 1), rfl, rfl, SqL.of hR1, rfl, ((i + 1 : Nat) : Int), 1, rfl, rfl, sa, ns.map V.int, (i : Int), .int c, rfl, by show V.int _ = V.int _; congr 1; omega, hS1, atI_nat hc2, ?_⟩
        refine ⟨.ref r, rfl, r, _, 2, .int x, rfl, rfl, SqL.of hR1, rfl, x, 48271, rfl, rfl, .inr ⟨by decide, by decide⟩, .int c, rfl, x * 48271, c, rfl, rfl, x * 48271 + c, 11, rfl, rfl, .inl ⟨x * 48271 + c + 11, rfl, x * 48271 + c + 11, 2147483647, rfl, rfl, (by decide : (0 : Int) < 2147483647), ?_⟩⟩
        obtain ⟨x2, hx2⟩ : ∃ x2, x2 = (x * 48271 + c + 11) % 2147483647 := ⟨_, rfl⟩
        refine ⟨.ref r, rfl, r, _, 2, 2, rfl, rfl, hR1, rfl, ?_⟩
        have hR2 : (upd H1 r (.lst ([.ref sa, nv (i + 1), .int x, .int rr].set 2 (V.int ((x * 48271 + c + 11) % 2147483647))))) r = some (.lst [.ref sa, nv (i + 1), .int x2, .int rr]) := by rw [hx2]; exact upd_same
        have hS2 : SqL K (upd H1 r (.lst ([.ref sa, nv (i + 1), .int x, .int rr].set 2 (V.int ((x * 48271 + c + 11) % 2147483647))))) sa (ns.map V.int) := scr_upd hR1 hS1
        have k2 : Kr r H (upd H1 r (.lst ([.ref sa, nv (i + 1), .int x, .int rr].set 2 (V.int ((x * 48271 + c + 11) % 2147483647))))) := k1.put
        obtain ⟨v, ev, hv⟩ := modV (i := c) hm1
        refine ⟨.int c, rfl, 10, 18, rfl, rfl, ⟨by decide, by decide, by decide⟩, c, _, rfl, rfl, _, rfl, ?_⟩
        by_cases h2 : c ≥ 10 ^ (18 : Int).toNat
        · rw [decide_eq_true h2]
          refine iteT ⟨.int c, rfl, nv m, rfl, c, (m : Int), rfl, rfl, ⟨by omega, by omega⟩, .ref r, rfl, r, _, 3, 3, rfl, rfl, hR2, rfl, ?_⟩
          refine ⟨.int c, rfl, .inl ⟨c, rfl, nv m, rfl, c, (m : Int), rfl, rfl, by omega, ?_⟩⟩
          show Q (V.int (c % (m : Int))) _
          rw [ev]
          exact q _ v k2.put ⟨⟨i + 1, x2, c / (m : Int), upd_same⟩, ns, scr_upd hR2 hS2⟩ hv
        · rw [decide_eq_false h2]
          refine iteF ⟨.int c, rfl, .inl ⟨c, rfl, nv m, rfl, c, (m : Int), rfl, rfl, by omega, ?_⟩⟩
          show Q (V.int (c % (m : Int))) _
          rw [ev]
          exact q _ v k2 ⟨⟨i + 1, x2, rr, hR2⟩, ns, hS2⟩ hv
end
end Lk
set_option Elab.async false
set_option linter.all false
set_option maxRecDepth 100000
namespace Lk
open PySem PySem.Spec PyProof.Rows L2 GxR
section
variable {P : Program} {w : World} {K : PySem.W.Frag} {mg : Str → Option Value} {base : Heap}
def spPick (K : PySem.W.Frag) : Sp := fun vs H Q _ => ∃ (r z t : Addr) (xs : List V), vs = [.ref r, .ref t] ∧ RowA K z H r ∧ H t = some (.lst xs) ∧ t ≠ r ∧ 1 ≤ xs.length ∧ xs.length ≤ 1000 ∧ ∀ H' v, Kr r H H' → RowA K z H' r → v ∈ xs → Q v H'
theorem ok_pick {f : Addr} {fd : FuncData} {k : Nat} (F : Fun K "_law_pick" "_law_pick" yPick f fd) (cT : Cal P w K mg base k "_law_taken" (spTaken K)) (ml : mg "len" = none) : FnOk P w K mg base CX0 (k + 1) f fd ["_law_row", "_law_things"] (spPick K) := by
  refine F.ok syPick (fun vs H Q E h => ?_) (fun cdv A outer s H vs Q E hr h => ?_)
  · obtain ⟨r, z, t, xs, rfl, _⟩ := h
    rfl
  · obtain ⟨r, z, t, xs, rfl, hR, ht, ntr, h1, h2, q⟩ := h
    refine ⟨_, pss_one (ps_ret (pe_ix ix_list (pv 1) (pe_c cT hr (Nat.le_refl _) (by rfl) (pa_cons (pv 0) (pa_cons (pe_callB call_len_seq (by rfl) ml PySem.boot_len (pa_cons (pv 1) pa_nil)) pa_nil))) (fun _ _ => rfl))), ?_⟩
    refine ⟨.ref t, rfl, .ref r, rfl, .ref t, rfl, t, xs, rfl, .inl (SqL.of ht), r, z, xs.length, rfl, hR, h1, h2, fun H1 v k1 hR1 hv => ?_⟩
    have hx : xs[v]? = some (xs[v]) := List.getElem?_eq_getElem hv
    refine ⟨t, xs, (v : Int), xs[v], rfl, rfl, SqL.of (k1 _ _ ntr ht), atI_nat hx, q H1 _ k1 hR1 (List.mem_of_getElem? hx)⟩
/-- a tuple by chance -/
def spPerm (K : PySem.W.Frag) : Sp := fun vs H Q _ => ∃ (r z : Addr) (n : Nat), vs = [.ref r, nv n] ∧ RowA K z H r ∧ n ≤ 60 ∧ ∀ H' p t, Kr r H H' → RowA K z H' r → H p = none → p ≠ r → TZ H' p t → IsP n t → Q (.ref p) H'
theorem seqIx {k n : Nat} (h : k < n) : seqIndex? (k : Int) n = some k := (ixN_seq (ixN_nat h)).1
theorem perm_fin {n : Nat} {t : Tn} (h : t.Perm (List.range n)) : IsP n t := ⟨by rw [h.length_eq, List.length_range], fun x hx => List.mem_range.mp (h.mem_iff.mp hx), h.nodup_iff.mpr List.nodup_range⟩
theorem map_erase' {α β : Type} (f : α → β) : ∀ (l : List α) (k : Nat), (l.map f).eraseIdx k = (l.eraseIdx k).map f
  | [], _ => rfl
  | _ :: _, 0 => rfl
  | x :: l, k + 1 => by rw [List.map_cons, List.eraseIdx_cons_succ, List.eraseIdx_cons_succ, List.map_cons, map_erase' f l k]
theorem tv_erase (t : Tn) (k : Nat) : (tv t).eraseIdx k = tv (t.eraseIdx k) := map_erase' _ _ _
theorem erase_perm : ∀ {lf : Tn} {k y : Nat}, lf[k]? = some y → (y :: lf.eraseIdx k).Perm lf
  | [], _, _, h => by cases h
  | x :: l, 0, y, h => by cases h; exact List.Perm.refl _
  | x :: l, k + 1, y, h => by
    rw [List.eraseIdx_cons_succ]
    exact (List.Perm.swap x y _).trans ((erase_perm (lf := l) (k := k) h).cons x)
theorem perm_move {fd lf : Tn} {k y : Nat} (h : lf[k]? = some y) : ((fd ++ [y]) ++ lf.eraseIdx k).Perm (fd ++ lf) := by
  rw [List.append_assoc]
  exact List.Perm.append_left fd (erase_perm h)
theorem ok_perm {f : Addr} {fd : FuncData} {k : Nat} (F : Fun K "_law_permutation" "_law_permutation" yPerm f fd) (cT : Cal P w K mg base k "_law_taken" (spTaken K)) (ml : mg "len" = none) (mr : mg "range" = none) (mt : mg "tuple" = none) (mL : mg "list" = none) :
    FnOk P w K mg base CX0 (k + 1) f fd ["_law_row", "_law_places"] (spPerm K) := by
  refine F.ok syPerm (fun vs H Q E h => ?_) (fun cdv A outer s H vs Q E hr h => ?_)
  · obtain ⟨r, z, n, rfl, _⟩ := h
    rfl
  · obtain ⟨r, z, n, rfl, hR, hn, q⟩ := h
    refine ⟨_, pss_cons (ps_par (i := 2) (j := 3) (by rfl) syPerm.nd rfl rfl (by decide) rfl rfl (pa_cons (pe_listRg rfl (by rfl) mL (prg_1 (by rfl) mr (pv 1))) (pa_cons (pe_lst pa_nil) pa_nil)) (by rfl))
      (pss_cons (ps_for PassesOwn.never rfl (pi_range1 rfl mr (pa_cons (pv 1) pa_nil)) (pg_name (i := 4) syPerm.nd rfl (.inl rfl))
        (pss_one (ps_expr (pe_bm PySem.F.plainAttrs_list PySem.F.slot_list_append PySem.F.type_list_append mt_append (pv 3) (pa_cons
          (pe_bm PySem.F.plainAttrs_list PySem.F.slot_list_pop PySem.F.type_list_pop mt_popAt (pv 2) (pa_cons (pe_c cT hr (Nat.le_refl _) (by rfl) (pa_cons (pv 0) (pa_cons (pe_callB call_len_seq (by rfl) ml PySem.boot_len (pa_cons (pv 2) pa_nil)) pa_nil))) pa_nil)) pa_nil)))))
      (pss_one (ps_ret (pe_tupleOf2 (by rfl) mt (pv 3))))), ?_⟩
    refine ⟨nv n, rfl, n, rfl, RgOk.of_le (by decide) (by omega) (by omega) (by omega), fun lf nlf => ⟨Nat.zero_le _, fun fa nfa => ⟨.ref lf, .ref fa, rfl, ?_⟩⟩⟩
    have s1 := same_upd (o := .lst (rgV 0 (n : Int))) nlf
    have s2 := same_upd (o := .lst []) nfa
    have s12 := s1.trans s2
    have nlf2 : lf ≠ fa := fun e => by
      have : (upd H lf (.lst (rgV 0 (n : Int)))) lf = _ := upd_same
      rw [e] at this; rw [e] at nfa; rw [this] at nfa; cases nfa
    have nfaH := s1.free nfa
    have hlf : (upd (upd H lf (.lst (rgV 0 (n : Int)))) fa (.lst [])) lf = some (.lst (tv (stl n))) := by rw [upd_ne nlf2, upd_same, rgV_tv]
    have hfa : (upd (upd H lf (.lst (rgV 0 (n : Int)))) fa (.lst [])) fa = some (.lst (tv [])) := upd_same
    have lr := hR.lt nlf
    have fr := hR.lt nfaH
    generalize (upd (upd H lf (.lst (rgV 0 (n : Int)))) fa (.lst [])) = H1 at *
    refine ⟨nv n, rfl, (n : Int), rfl, by omega, by omega, for_range (lo := 0) (n := ((n : Int)).toNat) (fun i σ H' => ∃ (ld fd : Tn) (y4 : Option V), σ = [some (.ref r), some (nv n), some (.ref lf), some (.ref fa), y4] ∧ Kr r H H' ∧ RowA K z H' r ∧ H' lf = some (.lst (tv ld)) ∧ H' fa = some (.lst (tv fd)) ∧ (fd ++ ld).Perm (List.range n) ∧ fd.length = i)
      ⟨stl n, [], _, rfl, Kr.of s12, hR.same s12, hlf, hfa, List.Perm.refl _, rfl⟩ (fun i σ H' hi h => ?_) (fun σ H' h => ?_)⟩
    · obtain ⟨ld, fd, y4, rfl, k1, hR1, h1, h2, hp, hl⟩ := h
      have hlen := hp.length_eq
      rw [List.length_append, List.length_range] at hlen
      refine ⟨.ref fa, rfl, .inl ⟨rfl, _, SqL.of h2⟩, .ref lf, rfl, .inl ⟨rfl, _, SqL.of h1⟩, .ref r, rfl, .ref lf, rfl, lf, tv ld, rfl, .inl (SqL.of h1), r, z, ld.length, by rw [tv_len]; rfl, hR1, by omega, by omega, fun H2 v k2 hR2 hv => ?_⟩
      have hy : ld[v]? = some ld[v] := List.getElem?_eq_getElem hv
      generalize ld[v] = y at hy
      have h1' := k2 _ _ lr h1
      have h2' := k2 _ _ fr h2
      refine ⟨lf, tv ld, (v : Int), v, nv y, rfl, rfl, h1', by omega, by omega, by rw [tv_len]; exact seqIx hv, tv_of hy, ?_⟩
      rw [tv_erase]
      have h3 : (upd H2 lf (.lst (tv (ld.eraseIdx v)))) fa = some (.lst (tv fd)) := by rw [upd_ne nlf2.symm]; exact h2'
      have kend : Kr r H (upd (upd H2 lf (.lst (tv (ld.eraseIdx v)))) fa (.lst (tv fd ++ [nv y]))) := fun b x hb e => by
        have e2 := k2 b x hb (k1 b x hb e)
        rw [upd_ne (ne_of_none e nfaH), upd_ne (ne_of_none e nlf)]; exact e2
      refine ⟨fa, tv fd, nv y, rfl, rfl, h3, by rw [tv_len]; exact few (by omega), ld.eraseIdx v, fd ++ [y], _, rfl, ?_, ?_, ?_, ?_, (perm_move hy).trans hp, by rw [List.length_append, hl]; rfl⟩
      · exact kend
      · obtain ⟨i', x, rr, g2⟩ := hR2.row
        have gl : r ≠ lf := fun e => lr e.symm
        have gf : r ≠ fa := fun e => fr e.symm
        exact kend.row hR ⟨i', x, rr, by rw [upd_ne gf, upd_ne gl]; exact g2⟩
      · rw [upd_ne nlf2, upd_same]
      · rw [upd_same, tv_snoc]
    · obtain ⟨ld, fd, y4, rfl, k1, hR1, h1, h2, hp, hl⟩ := h
      have hlen := hp.length_eq
      rw [List.length_append, List.length_range, hl, show ((n : Int)).toNat = n from rfl] at hlen
      have e0 : ld = [] := List.length_eq_zero_iff.mp (by omega)
      rw [e0, List.append_nil] at hp
      refine ⟨.ref fa, rfl, fa, _, rfl, SqL.of h2, .inr fun p o ho np => ?_⟩
      have sp := same_upd (o := .frz o (.tup (tv fd))) np
      exact q _ p fd (k1.same sp) (hR1.same sp) (k1.free hR1 np) (hR1.lt np) ⟨o, ho, upd_same⟩ (perm_fin hp)
end
end Lk
set_option Elab.async false
set_option linter.all false
set_option maxRecDepth 100000
namespace Lk
open PySem PySem.Spec PyProof.Rows L2 GxR
section
variable {P : Program} {w : World} {K : PySem.W.Frag} {mg : Str → Option Value} {base : Heap}
def spBehindY : Sp := fun vs H Q _ => ∃ (z : Bool) (a b : Addr) (s t : Tn), vs = [.ref a, .ref b] ∧ TA H a s ∧ TA H b t ∧ s.length ≤ 60 ∧ (∀ x ∈ s, x < t.length) ∧ Ret H Q fun H' p => TF z H' p (beh s t)
def spBackY : Sp := fun vs H Q _ => ∃ (a : Addr) (t : Tn) (n : Nat), vs = [.ref a] ∧ TZ H a t ∧ IsP n t ∧ n ≤ 60 ∧ Ret H Q fun H' p => TX H' p (bck t)
def spSwapY : Sp := fun vs H Q _ => ∃ (z : Bool) (a b : Addr) (t u : Tn) (n : Nat), vs = [.ref a, .ref b] ∧ TZ H a t ∧ TZ H b u ∧ IsP n t ∧ IsP n u ∧ n ≤ 60 ∧ Ret H Q fun H' p => TF z H' p (swp t u)
theorem ok_behindY {f : Addr} {fd : FuncData} {k : Nat} (F : Fun K "_law_behind" "_law_behind" yBehind f fd) (mt : mg "tuple" = none) : FnOk P w K mg base CX0 (k + 1) f fd ["_law_one", "_law_other"] spBehindY := by
  refine F.ok syBehind (fun vs H Q E h => ?_) (fun cdv A outer s H vs Q E hr h => ?_)
  · obtain ⟨z, a, b, s, t, rfl, _⟩ := h
    rfl
  · obtain ⟨z, a, b, s, t, rfl, hs, ht, hl, hlt, q⟩ := h
    refine ⟨_, pss_one (ps_ret (pe_tupleOf2 (by rfl) mt (pe_lc (own := [("_law_place", 2)]) (g := gName 2) (tt := tYes) (te := tOp (rIxT K) (tVar 1) (tVar 2)) rfl syBehind.nd (pi_tup (pv 0)) (blkOk_by (N := ["_law_one", "_law_other", "_law_place"]) (sc := defScope yBehind) (by decide +kernel))
      (fun _ _ _ _ _ => pg_name (i := 2) syBehind.nd rfl (Or.inl rfl)) (fun _ _ _ _ _ => pts_nil) (fun _ _ _ _ _ => pe_ix ix_tup (pv 1) (pv 2) (fun _ _ => rfl))))), ?_⟩
    refine ⟨.ref a, rfl, a, rfl, ⟨_, sqA hs⟩, fun D nD => lc_tup (K := K) (a := a) (xs := tv s) (fun i H' => Same H H' ∧ H' D = some (.lst (tv (beh (s.take i) t)))) ⟨same_upd nD, upd_same⟩ (fun i H' _ h => sqA (hs.same h.1)) (fun i x H' hx hP => ?_) (fun H' hP => ?_)⟩
    · obtain ⟨n, hn, rfl⟩ := tv_get hx
      obtain ⟨sm, hD⟩ := hP
      have hm : n < t.length := hlt n (List.mem_of_getElem? hn)
      refine ⟨rfl, ?_⟩
      refine ⟨.ref b, rfl, nv n, rfl, b, tv t, (n : Int), nv (t.getD n 0), rfl, rfl, sqA (ht.same sm), atI_nat (tv_of (by rw [List.getD_eq_getElem?_getD, List.getElem?_eq_getElem hm]; rfl)), _, hD, ?_, ?_, ?_⟩
      · rw [tv_len, beh_len, List.length_take]
        exact few (by omega)
      · exact same_put sm nD
      · rw [upd_same, tv_snoc, take_succ hn]
        unfold beh
        rw [List.map_append]
        rfl
    · obtain ⟨sm, hD⟩ := hP
      rw [tv_len, List.take_length] at hD
      exact ⟨D, _, rfl, SqL.of hD, newT_of fun H2 p s2 np hp => q H2 p ((show Same H H' from sm).trans s2) (sm.free np) hp⟩
theorem idx_first {t : Tn} {q : Nat} (h : q ∈ t) : t[t.idxOf q]? = some q ∧ ∀ m, m < t.idxOf q → t[m]? ≠ some q := by
  have h1 := idx_lt h
  refine ⟨?_, fun m hm e => ?_⟩
  · have := get_idx h
    rw [getD_lt h1] at this
    rw [List.getElem?_eq_getElem h1, this]
  · obtain ⟨hlt, e2⟩ := List.getElem?_eq_some_iff.mp e
    have := List.not_of_lt_findIdx (p := (· == q)) (xs := t) (i := m) hm
    rw [e2] at this
    simp at this
theorem ok_backY {f : Addr} {fd : FuncData} {k : Nat} (F : Fun K "_law_back" "_law_back" yBack f fd) (mt : mg "tuple" = none) (mr : mg "range" = none) (ml : mg "len" = none) : FnOk P w K mg base CX0 (k + 1) f fd ["_law_turn"] spBackY := by
  refine F.ok syBack (fun vs H Q E h => ?_) (fun cdv A outer s H vs Q E hr h => ?_)
  · obtain ⟨a, t, n, rfl, _⟩ := h
    rfl
  · obtain ⟨a, t, n, rfl, hA, hP, hn, q⟩ := h
    refine ⟨_, pss_one (ps_ret (pe_tupleOf (by rfl) mt (pe_lc (own := [("_law_place", 1)]) (g := gName 1) (tt := tYes) (te := tBMZ (fun x xs H Q => ∃ p, ∃ t : Tn, ∃ z j, x = .ref p ∧ xs = [nv z] ∧ SqT K H p (tv t) ∧ t[j]? = some z ∧ (∀ m, m < j → t[m]? ≠ some z) ∧ Q (nv j) H) (tVar 0) (tCons (tVar 1) tNil)) rfl syBack.nd
      (pi_range1 rfl mr (pa_cons (pe_callB call_len_seq (by rfl) ml PySem.boot_len (pa_cons (pv 0) pa_nil)) pa_nil)) (blkOk_by (N := ["_law_turn", "_law_place"]) (sc := defScope yBack) (by decide +kernel))
      (fun _ _ _ _ _ => pg_name (i := 1) syBack.nd rfl (Or.inl rfl)) (fun _ _ _ _ _ => pts_nil) (fun _ _ _ _ _ => pe_bmZ PySem.F.slot_tuple_index PySem.F.type_tuple_index mt_tupI (pv 0) (pa_cons (pv 1) pa_nil))))), ?_⟩
    refine ⟨.ref a, rfl, a, tv t, rfl, .inr (sqA hA.ta), (n : Int), by rw [tv_len, hP.len], by omega, by omega, fun D nD => ?_⟩
    have hb : bck t = (List.range n).map fun p => t.idxOf p := by unfold bck; rw [hP.len]
    refine lc_range (lo := 0) (n := ((n : Int)).toNat) (fun i H' => Same H H' ∧ H' D = some (.lst (tv ((List.range i).map fun p => t.idxOf p)))) ⟨same_upd nD, upd_same⟩ (fun i H' hi hPv => ?_) (fun H' hPv => ?_)
    · obtain ⟨sm, hD⟩ := hPv
      have hin : i < n := by omega
      obtain ⟨f1, f2⟩ := idx_first (hP.surj hin)
      rw [show (V.int (0 + (i : Int))) = nv i from by rw [Int.zero_add]; rfl]
      refine ⟨rfl, ?_⟩
      refine ⟨.ref a, rfl, ⟨a, t, rfl, hA.same sm⟩, nv i, rfl, a, t, i, t.idxOf i, rfl, rfl, sqA (hA.same sm).ta, f1, f2, _, hD, ?_, same_put sm nD, ?_⟩
      · rw [tv_len, List.length_map, List.length_range]; exact few (by omega)
      · rw [upd_same, tv_snoc, List.range_succ, List.map_append]; rfl
    · obtain ⟨sm, hD⟩ := hPv
      rw [show ((n : Int)).toNat = n from rfl, ← hb] at hD
      refine .inl ⟨D, _, rfl, SqL.of hD, fun p np => q _ p (same_put sm (sm.free np)) (sm.free np) upd_same⟩
theorem ok_swapY {f : Addr} {fd : FuncData} {k : Nat} (F : Fun K "_law_swap" "_law_swap" ySwap f fd) (cB : Cal P w K mg base k "_law_behind" spBehindY) (cK : Cal P w K mg base k "_law_back" spBackY) : FnOk P w K mg base CX0 (k + 1) f fd ["_law_one", "_law_other"] spSwapY := by
  refine F.ok sySwap (fun vs H Q E h => ?_) (fun cdv A outer s H vs Q E hr h => ?_)
  · obtain ⟨z, a, b, t, u, n, rfl, _⟩ := h
    rfl
  · obtain ⟨z, a, b, t, u, n, rfl, hA, hB, hP, hU, hn, q⟩ := h
    refine ⟨_, pss_one (ps_ret (pe_c cB hr (Nat.le_refl _) (by rfl) (pa_cons (pe_c cB hr (Nat.le_refl _) (by rfl) (pa_cons (pv 0) (pa_cons (pv 1) pa_nil)))
      (pa_cons (pe_c cB hr (Nat.le_refl _) (by rfl) (pa_cons (pe_c cK hr (Nat.le_refl _) (by rfl) (pa_cons (pv 0) pa_nil)) (pa_cons (pe_c cK hr (Nat.le_refl _) (by rfl) (pa_cons (pv 1) pa_nil)) pa_nil))) pa_nil)))), ?_⟩
    have lt_of : ∀ {x y : Tn}, IsP n x → IsP n y → ∀ z ∈ x, z < y.length := fun hx hy z hz => by rw [hy.len]; exact hx.lt z hz
    refine ⟨.ref a, rfl, .ref b, rfl, false, a, b, t, u, rfl, hA.ta, hB.ta, by rw [hP.len]; omega, lt_of hP hU, fun H1 c1 s1 n1 h1 => ?_⟩
    refine ⟨.ref a, rfl, a, t, n, rfl, hA.same s1, hP, hn, fun H2 c2 s2 n2 h2 => ?_⟩
    have s12 := s1.trans s2
    refine ⟨.ref b, rfl, b, u, n, rfl, hB.same s12, hU, hn, fun H3 c3 s3 n3 h3 => ?_⟩
    have p2 := isP_bck hP
    have p3 := isP_bck hU
    refine ⟨false, c2, c3, bck t, bck u, rfl, (h2.same s3).ta, h3.ta, by rw [p2.len]; omega, lt_of p2 p3, fun H4 c4 s4 n4 h4 => ?_⟩
    have p1 := isP_beh hP hU
    have p4 := isP_beh p2 p3
    refine ⟨z, c1, c4, beh t u, beh (bck t) (bck u), rfl, (((h1.same s2).same s3).same s4).ta, h4.ta, by rw [p1.len]; omega, lt_of p1 p4, fun H5 c5 s5 n5 h5 => ?_⟩
    exact q H5 c5 (((s12.trans s3).trans s4).trans s5) (((s12.trans s3).trans s4).free n5) h5
end
end Lk
set_option Elab.async false
set_option linter.all false
set_option maxRecDepth 100000
namespace Lk
open PySem PySem.Spec PyProof.Rows L2 GxR
/-! lists of turns, all frozen or none -/
inductive TFs (z : Bool) (H : Hp) : List Addr → List Tn → Prop
  | nil : TFs z H [] []
  | cons {a : Addr} {t : Tn} {as : List Addr} {ts : List Tn} : TF z H a t → TFs z H as ts → TFs z H (a :: as) (t :: ts)
def LF (z : Bool) (H : Hp) (a : Addr) (ts : List Tn) : Prop := ∃ as, H a = some (.lst (rs as)) ∧ TFs z H as ts
section
variable {z : Bool} {H H' : Hp} {a x : Addr} {o o' : HO} {as bs : List Addr} {ts us : List Tn} {t : Tn}
theorem TFs.tas (h : TFs z H as ts) : TAs H as ts := by
  induction h with
  | nil => exact .nil
  | cons h _ ih => exact .cons h.ta ih
theorem LF.la (h : LF z H a ts) : LA H a ts := let ⟨as, h1, h2⟩ := h; ⟨as, h1, h2.tas⟩
theorem TFs.same (s : Same H H') (h : TFs z H as ts) : TFs z H' as ts := by
  induction h with
  | nil => exact .nil
  | cons h _ ih => exact .cons (h.same s) ih
theorem LF.same (s : Same H H') (h : LF z H a ts) : LF z H' a ts := let ⟨as, h1, h2⟩ := h; ⟨as, s _ _ h1, h2.same s⟩
theorem TFs.put (h : TFs z H as ts) (hx : H x = some o) (no : Unit → ¬ IsTp o) : TFs z (upd H x o') as ts := by
  induction h with
  | nil => exact .nil
  | cons h _ ih => exact .cons (h.put hx no) ih
theorem TFs.len (h : TFs z H as ts) : as.length = ts.length := h.tas.len
theorem TFs.append (h : TFs z H as ts) (h' : TFs z H bs us) : TFs z H (as ++ bs) (ts ++ us) := by
  induction h with
  | nil => exact h'
  | cons h _ ih => exact .cons h ih
theorem TFs.snoc (h : TFs z H as ts) (h' : TF z H a t) : TFs z H (as ++ [a]) (ts ++ [t]) := h.append (.cons h' .nil)
theorem TFs.get (h : TFs z H as ts) {i : Nat} (ha : as[i]? = some a) : ∃ t, ts[i]? = some t ∧ TF z H a t := by
  induction h generalizing i with
  | nil => simp at ha
  | cons h _ ih =>
    cases i with
    | zero => simp at ha; subst ha; exact ⟨_, rfl, h⟩
    | succ i => exact ih (by simpa using ha)
theorem tfs_of (h : TAs H as ts) (k : ∀ a ∈ as, ∃ t, TF z H a t) : TFs z H as ts := by
  induction h with
  | nil => exact .nil
  | cons h _ ih =>
    obtain ⟨t, ht⟩ := k _ List.mem_cons_self
    rw [h.inj ht.ta]
    exact .cons ht (ih fun a ha => k a (List.mem_cons_of_mem _ ha))
theorem TFs.mem (h : TFs z H as ts) {a : Addr} (ha : a ∈ as) : ∃ t, TF z H a t := by
  obtain ⟨i, hi⟩ := List.getElem?_of_mem ha
  obtain ⟨t, _, h⟩ := h.get hi
  exact ⟨t, h⟩
end
/-- sorted(set(a list of turns)): as read_setsort, the objects are of the list -/
theorem read_setsort2 {K : PySem.W.Frag} {P : Program} {w : World} {H : Hp} {l : Addr} {as : List Addr} {ts W : List Tn} {n : Nat} {Q : VK} (hl : H l = some (.lst (rs as))) (hT : TAs H as ts) (hP : AllP n ts) (hn1 : 1 ≤ n) (hn : n ≤ 16) (hW : Sub ts W) (hlen : W.length ≤ 60)
    (q : Ret H Q fun H' p => ∃ as', H' p = some (.lst (rs as')) ∧ TAs H' as' (setS ts) ∧ ∀ a ∈ as', a ∈ as) : rSetF K P w [.ref l] H fun x H1 => rSortedT K P w [x] H1 Q := by
  obtain ⟨ks, h1, h2, h3⟩ := tas_ks hT
  refine ⟨l, ks, rfl, by rw [h1]; exact SqL.of hl, fun p hp => ksq (h3 p hp), fun L hd hs => ?_, fun a L na hL1 hL2 => ?_⟩
  · have := pigeon (L.map (·.2)) (W.map ti) hd fun x hx => by
      obtain ⟨p, hp, e⟩ := List.mem_map.mp hx
      have hm : x ∈ ks.map (·.2) := List.mem_map.mpr ⟨p, hs p hp, e⟩
      rw [h2] at hm
      obtain ⟨t, ht, e2⟩ := List.mem_map.mp hm
      exact List.mem_map.mpr ⟨t, hW t ht, e2⟩
    rw [List.length_map, List.length_map] at this
    omega
  · have sU := same_upd (o := SetTO P w a L) na
    have inL : ∀ p ∈ L, ∃ t ∈ ts, p.2 = ti t := fun p hp => by
      have hm : p.2 ∈ ks.map (·.2) := List.mem_map.mpr ⟨p, hL1 p hp, rfl⟩
      rw [h2] at hm
      obtain ⟨t, ht, e⟩ := List.mem_map.mp hm
      exact ⟨t, ht, e.symm⟩
    refine ⟨a, L, n, 16, rfl, upd_same, fun p hp => ksq (ksame sU (h3 p (hL1 p hp))), hn1, fun p hp => ?_, fun L' p hp hd hlen' hpw np => ?_⟩
    · obtain ⟨t, ht, e⟩ := inL p hp
      rw [e]; exact ti_bd hn (hP t ht)
    · obtain ⟨F, hF⟩ : ∃ F : List Tn, L'.map (·.2) = F.map ti := by
        have key : ∀ M : List (Addr × List Int), (∀ p ∈ M, p ∈ L) → ∃ F : List Tn, M.map (·.2) = F.map ti := by
          intro M
          induction M with
          | nil => exact fun _ => ⟨[], rfl⟩
          | cons p M ih =>
            intro hM
            obtain ⟨F, hF⟩ := ih fun x hx => hM x (List.mem_cons_of_mem _ hx)
            obtain ⟨t, _, e⟩ := inL p (hM p List.mem_cons_self)
            exact ⟨t :: F, by rw [List.map_cons, hF, e]; rfl⟩
        exact key L' fun p hp' => hp.mem_iff.mp hp'
      have hmem : ∀ t, t ∈ F ↔ t ∈ ts := fun t => by
        constructor
        · intro ht
          have hm : ti t ∈ L'.map (·.2) := by rw [hF]; exact List.mem_map.mpr ⟨t, ht, rfl⟩
          obtain ⟨p, hp', e⟩ := List.mem_map.mp hm
          obtain ⟨u, hu, e2⟩ := inL p (hp.mem_iff.mp hp')
          rw [← ti_inj (e2.symm.trans e)]; exact hu
        · intro ht
          have hm : ti t ∈ ks.map (·.2) := by rw [h2]; exact List.mem_map.mpr ⟨t, ht, rfl⟩
          obtain ⟨p, hp', e⟩ := List.mem_map.mp hm
          have hm2 := hL2 p hp'
          obtain ⟨r, hr, e2⟩ := List.mem_map.mp hm2
          have hm3 : ti t ∈ L'.map (·.2) := List.mem_map.mpr ⟨r, hp.mem_iff.mpr hr, e2.trans e⟩
          rw [hF] at hm3
          obtain ⟨u, hu, e3⟩ := List.mem_map.mp hm3
          rw [← ti_inj e3]; exact hu
      have hFP : AllP n F := fun t ht => hP t ((hmem t).mp ht)
      have hFd : F.Nodup := by
        rw [hF] at hd
        exact List.Pairwise.of_map ti (fun _ _ hne e => hne (congrArg ti e)) hd
      obtain ⟨e1, e2⟩ := sorted_turns (H := upd H a (SetTO P w a L)) hn hFP hFd L' (by rw [hF]) hpw fun r hr u eu => by
        obtain ⟨t, e, h⟩ := h3 r (hL1 r (hp.mem_iff.mp hr))
        rw [ti_inj (eu.symm.trans e)]
        exact h.same sU
      have es : setS F = setS ts := setS_congr hn hFP hP hmem
      refine q _ p (fun b o e => same_upd np _ _ (sU _ _ e)) (sU.free np) ?_
      rw [← es]
      refine ⟨L'.map (·.1), by rw [upd_same, e1], e2.same (same_upd np), fun b hb => ?_⟩
      obtain ⟨r, hr, er⟩ := List.mem_map.mp hb
      have hk := hL1 r (hp.mem_iff.mp hr)
      have : V.ref b ∈ rs as := by rw [← h1, ← er]; exact List.mem_map.mpr ⟨r, hk, rfl⟩
      obtain ⟨c, hc, ec⟩ := List.mem_map.mp this
      rw [← V.ref.inj ec]; exact hc
/-- sorted(a list of unlike turns) -/
theorem read_sortL {K : PySem.W.Frag} {H : Hp} {l : Addr} {as : List Addr} {F : List Tn} {n : Nat} {Q : VK} (hl : H l = some (.lst (rs as))) (hT : TAs H as F) (hP : AllP n F) (hd : F.Nodup) (hn1 : 1 ≤ n) (hn : n ≤ 16) (hlen : F.length < 64)
    (q : Ret H Q fun H' p => ∃ as', H' p = some (.lst (rs as')) ∧ TAs H' as' (setS F) ∧ ∀ a ∈ as', a ∈ as) : rSortLT K [.ref l] H Q := by
  obtain ⟨ks, h1, h2, h3⟩ := tas_ks hT
  have hk : ks.length = F.length := by have := congrArg List.length h2; rw [List.length_map, List.length_map] at this; exact this
  refine ⟨l, ks, n, 16, rfl, by rw [h1]; exact SqL.of hl, by omega, hn1, fun p hp => ksq (h3 p hp), fun p hp => ?_, fun L p hp hpw np => ?_⟩
  · obtain ⟨t, e, h⟩ := h3 p hp
    have hm : p.2 ∈ ks.map (·.2) := List.mem_map.mpr ⟨p, hp, rfl⟩
    rw [h2] at hm
    obtain ⟨u, hu, e2⟩ := List.mem_map.mp hm
    rw [← e2]; exact ti_bd hn (hP u hu)
  · obtain ⟨e1, e2⟩ := sorted_turns (H := H) hn hP hd L (by rw [← h2]; exact hp.map _) hpw fun r hr u eu => by
      obtain ⟨t, e, h⟩ := h3 r (hp.mem_iff.mp hr)
      rw [ti_inj (eu.symm.trans e)]
      exact h
    refine q _ p (same_upd np) np ⟨L.map (·.1), by rw [upd_same, e1], e2.same (same_upd np), fun b hb => ?_⟩
    obtain ⟨r, hr, er⟩ := List.mem_map.mp hb
    have hk := hp.mem_iff.mp hr
    have : V.ref b ∈ rs as := by rw [← h1, ← er]; exact List.mem_map.mpr ⟨r, hk, rfl⟩
    obtain ⟨c, hc, ec⟩ := List.mem_map.mp this
    rw [← V.ref.inj ec]; exact hc
abbrev ySpan : Stmt := topS 45
abbrev yPower : Stmt := topS 51
theorem sySpan : FnScope ["_law_places", "_law_given", "_law_found", "_law_turn", "_law_one", "_law_later", "_law_other"] ["_law_places", "_law_given"] (defScope ySpan) := ⟨rfl, rfl, rfl, by decide +kernel, rfl, by decide +kernel, by decide +kernel⟩
theorem syPower : FnScope ["_law_turn", "_law_many", "_law_found", "_law_step"] ["_law_turn", "_law_many"] (defScope yPower) := ⟨rfl, rfl, rfl, by decide +kernel, rfl, by decide +kernel, by decide +kernel⟩
section
variable {P : Program} {w : World} {K : PySem.W.Frag} {mg : Str → Option Value} {base : Heap}
def spPowerY : Sp := fun vs H Q _ => ∃ (a : Addr) (t : Tn) (n m : Nat), vs = [.ref a, nv m] ∧ TA H a t ∧ IsP n t ∧ n ≤ 60 ∧ m ≤ 1000 ∧ Ret H Q fun H' p => TX H' p (pwr t m)
theorem ok_powerY {f : Addr} {fd : FuncData} {k : Nat} (F : Fun K "_law_power" "_law_power" yPower f fd) (cB : Cal P w K mg base k "_law_behind" spBehindY) (mt : mg "tuple" = none) (mr : mg "range" = none) (ml : mg "len" = none) : FnOk P w K mg base CX0 (k + 1) f fd ["_law_turn", "_law_many"] spPowerY := by
  refine F.ok syPower (fun vs H Q E h => ?_) (fun cdv A outer s H vs Q E hr h => ?_)
  · obtain ⟨a, t, n, m, rfl, _⟩ := h
    rfl
  · obtain ⟨a, t, n, m, rfl, hA, hP, hn, hm, q⟩ := h
    refine ⟨_, pss_cons (ps_set (i := 2) syPower.nd rfl (.inl rfl) (pe_tupRg rfl (by rfl) mt (prg_1 (by rfl) mr (pe_callB call_len_seq (by rfl) ml PySem.boot_len (pa_cons (pv 0) pa_nil)))))
      (pss_cons (ps_for PassesOwn.never rfl (pi_range1 rfl mr (pa_cons (pv 1) pa_nil)) (pg_name (i := 3) syPower.nd rfl (.inl rfl)) (pss_one (ps_set (i := 2) syPower.nd rfl (.inl rfl) (pe_c cB hr (Nat.le_refl _) (by rfl) (pa_cons (pv 2) (pa_cons (pv 0) pa_nil))))))
      (pss_one (ps_ret (pv 2)))), ?_⟩
    refine ⟨.ref a, rfl, a, _, rfl, .inr (sqA hA), n, by rw [tv_len, hP.len], RgOk.of_le (by decide) (by omega) (by omega) (by omega), fun f nf => ?_⟩
    have s1 := same_upd (o := .tup (rgV 0 (n : Int))) nf
    have hf : TX (upd H f (.tup (rgV 0 (n : Int)))) f (pwr t 0) := by
      show upd _ _ _ _ = _
      rw [upd_same, rgV_tv, pwr, hP.len]
    refine ⟨nv m, rfl, (m : Int), rfl, by omega, by omega, for_range (lo := 0) (n := ((m : Int)).toNat) (fun i σ H' => ∃ f y3, σ = [some (.ref a), some (nv m), some (.ref f), y3] ∧ Same H H' ∧ H f = none ∧ TX H' f (pwr t i)) ⟨f, _, rfl, s1, nf, hf⟩ (fun i σ H' hi h => ?_) (fun σ H' h => ?_)⟩
    · obtain ⟨f, y3, rfl, sm, nf, hf⟩ := h
      have p1 := isP_pwr hP i
      refine ⟨.ref f, rfl, .ref a, rfl, false, f, a, _, t, rfl, hf.ta, hA.same sm, by rw [p1.len]; exact hn, fun x hx => by rw [hP.len]; exact p1.lt x hx, fun H2 r s2 nr hr2 => ?_⟩
      exact ⟨r, _, rfl, sm.trans s2, sm.free nr, hr2⟩
    · obtain ⟨f, y3, rfl, sm, nf, hf⟩ := h
      exact ⟨.ref f, rfl, q H' f sm nf hf⟩
end
end Lk
set_option Elab.async false
set_option linter.all false
set_option maxRecDepth 100000
namespace Lk
open PySem PySem.Spec PyProof.Rows L2 GxR
/-! the law's own span -/
structure YS (n : Nat) (g F : List Tn) (i : Nat) : Prop where
  zero : stl n ∈ F
  nd : F.Nodup
  clo : ∀ t ∈ F, Clo n g t
  don : ∀ j, j < i → ∀ t, F[j]? = some t → ∀ o ∈ g, beh t o ∈ F
def news (g F : List Tn) (one : Tn) : List Tn := (setS (g.map fun o => beh one o)).filter fun x => !decide (x ∈ F)
section
variable {n : Nat} {g W F : List Tn} {i : Nat} {one : Tn}
theorem YS.start : YS n g [stl n] 0 := ⟨List.mem_singleton.mpr rfl, List.pairwise_singleton _ _, fun t h => by rw [List.mem_singleton.mp h]; exact .nil, fun j h => absurd h (Nat.not_lt_zero _)⟩
theorem YS.few (y : YS n g F i) (B : Box n g W) : F.length ≤ 60 := Nat.le_trans (pigeon F W y.nd fun t ht => (y.clo t ht).in B.zero B.step) B.len
theorem YS.skip (y : YS n g F i) (h : F.length ≤ i) : YS n g F (i + 1) := ⟨y.zero, y.nd, y.clo, fun j hj t ht => by
  have := get_lt ht
  exact y.don j (by omega) t ht⟩
theorem YS.next (hn : n ≤ 16) (hg : AllP n g) (y : YS n g F i) (h : F[i]? = some one) : YS n g (F ++ news g F one) (i + 1) := by
  have h1 := (y.clo one (List.mem_of_getElem? h)).isP hg
  have hP : AllP n (g.map fun o => beh one o) := fun t ht => by
    obtain ⟨o, ho, e⟩ := List.mem_map.mp ht
    rw [← e]; exact isP_beh h1 (hg o ho)
  have hm : ∀ x, x ∈ news g F one ↔ (∃ o ∈ g, x = beh one o) ∧ x ∉ F := fun x => by
    unfold news
    rw [List.mem_filter, mem_setS hn hP, List.mem_map]
    constructor
    · rintro ⟨⟨o, ho, e⟩, hx⟩
      exact ⟨⟨o, ho, e.symm⟩, by simpa using hx⟩
    · rintro ⟨⟨o, ho, e⟩, hx⟩
      exact ⟨⟨o, ho, e.symm⟩, by simpa using hx⟩
  refine ⟨List.mem_append_left _ y.zero, ?_, fun t ht => ?_, fun j hj t ht o ho => ?_⟩
  · refine List.nodup_append.mpr ⟨y.nd, ?_, fun a ha b hb e => ((hm b).mp hb).2 (by rw [← e]; exact ha)⟩
    exact List.Nodup.sublist List.filter_sublist (srt_setS hn hP).nodup
  · rcases List.mem_append.mp ht with z | z
    · exact y.clo t z
    · obtain ⟨⟨o, ho, e⟩, _⟩ := (hm t).mp z
      rw [e]; exact .step (y.clo one (List.mem_of_getElem? h)) ho
  · have hi := get_lt h
    rw [List.getElem?_append_left (by omega)] at ht
    by_cases hji : j < i
    · exact List.mem_append_left _ (y.don j hji t ht o ho)
    · have e : j = i := by omega
      rw [e, h] at ht
      cases ht
      by_cases hin : beh one o ∈ F
      · exact List.mem_append_left _ hin
      · exact List.mem_append_right _ ((hm _).mpr ⟨⟨o, ho, rfl⟩, hin⟩)
theorem YS.all (hn : n ≤ 16) (hg : AllP n g) (B : Box n g W) (y : YS n g F i) (h : F.length ≤ i) : setS F = spn n g := by
  have hP : AllP n F := fun t ht => (y.clo t ht).isP hg
  have S := B.span hn hg
  refine srt_ext (srt_setS hn hP) S.srt fun t => ?_
  rw [mem_setS hn hP, S.mem]
  refine ⟨y.clo t, fun c => ?_⟩
  induction c with
  | nil => exact y.zero
  | step c ho ih =>
    obtain ⟨j, hj⟩ := List.getElem?_of_mem ih
    have := get_lt hj
    exact y.don j (by omega) _ hj _ ho
end
theorem anyT (F : List Tn) (x : Tn) : ((F.map dt).any fun z => PyData.eqv z (dt x)) = decide (x ∈ F) := by
  induction F with
  | nil => rfl
  | cons y F ih =>
    rw [List.map_cons, List.any_cons, ih, eqvT]
    by_cases e : y = x
    · subst e; simp
    · rw [decide_eq_false e, Bool.false_or]
      congr 1
      exact propext ⟨fun h => List.mem_cons_of_mem _ h, fun h => (List.mem_cons.mp h).resolve_left fun z => e z.symm⟩
theorem cut_one (xs : List V) (i : Nat) : cutV xs (some (i : Int)) (some ((i : Int) + 1)) = match xs[i]? with
    | some x => [x]
    | none => [] := by
  unfold cutV
  rw [HT.sIx_nat, show ((i : Int) + 1) = ((i + 1 : Nat) : Int) from rfl, HT.sIx_nat]
  cases h : xs[i]? with
  | none =>
    have := List.getElem?_eq_none_iff.mp h
    rw [show min (i + 1) xs.length - min i xs.length = 0 by omega, List.take_zero]
  | some x =>
    have := get_lt h
    rw [show min i xs.length = i by omega, show min (i + 1) xs.length - i = 1 by omega, drop_at h]
    rfl
/-- a comprehension over a name that holds a list or a tuple -/
theorem lc_seq {K : PySem.W.Frag} {a : Addr} {xs : List V} {i : Nat} {g : TG} {tt : TT} {te : TE} {vs : List Nat} {σ : L2.St} {H : Hp} {Q : VK} (hσ : σ[i]? = some (some (.ref a))) (hq : SqL K H a xs ∨ SqT K H a xs)
    (h : ∀ D, H D = none → ∃ Pv : Nat → Hp → Prop, Pv 0 (upd H D (.lst [])) ∧ (∀ j H', j ≤ xs.length → Pv j H' → ∀ o, H a = some o → H' a = some o) ∧
      (∀ j x H', xs[j]? = some x → Pv j H' → g x (wipe σ vs) H' fun σ2 H2 => wipe σ2 vs = wipe σ vs ∧ tt σ2 H2 fun b H3 =>
        if b = true then te σ2 H3 fun y H4 => ∃ acc, H4 D = some (.lst acc) ∧ acc.length < sizeLine ∧ Pv (j + 1) (upd H4 D (.lst (acc ++ [y]))) else Pv (j + 1) H3) ∧ ∀ H', Pv xs.length H' → Q (.ref D) H') :
    tLc (fun σ H R => iList K (tVar i) σ H R ∨ iTup K (tVar i) σ H R) g tt te vs σ H Q := by
  rcases hq with hq | hq
  · refine .inl ⟨.ref a, hσ, a, rfl, ⟨_, hq⟩, fun D nD => ?_⟩
    obtain ⟨Pv, h0, hl, hs, hd⟩ := h D nD
    exact lc_list (xs := xs) Pv h0 (fun j H' hj hP => SqL.keep hq (hl j H' hj hP)) hs hd
  · refine .inr ⟨.ref a, hσ, a, rfl, ⟨_, hq⟩, fun D nD => ?_⟩
    obtain ⟨Pv, h0, hl, hs, hd⟩ := h D nD
    refine lc_tup (xs := xs) Pv h0 (fun j H' hj hP => ?_) hs hd
    have k := hl j H' hj hP
    rcases hq with (z | ⟨o, z⟩) | z
    · exact .inl (.inl (k _ z))
    · exact .inl (.inr ⟨o, k _ z⟩)
    · exact .inr z
theorem asg_lc_seq {K : PySem.W.Frag} {a : Addr} {xs : List V} {i k : Nat} {g : TG} {tt : TT} {te : TE} {vs : List Nat} {σ : L2.St} {H : Hp} {rest : L2.TS} {E : Ends} (hσ : σ[i]? = some (some (.ref a))) (hq : SqL K H a xs ∨ SqT K H a xs)
    (h : ∀ D, H D = none → ∃ Pv : Nat → Hp → Prop, Pv 0 (upd H D (.lst [])) ∧ (∀ j H', j ≤ xs.length → Pv j H' → ∀ o, H a = some o → H' a = some o) ∧
      (∀ j x H', xs[j]? = some x → Pv j H' → g x (wipe σ vs) H' fun σ2 H2 => wipe σ2 vs = wipe σ vs ∧ tt σ2 H2 fun b H3 =>
        if b = true then te σ2 H3 fun y H4 => ∃ acc, H4 D = some (.lst acc) ∧ acc.length < sizeLine ∧ Pv (j + 1) (upd H4 D (.lst (acc ++ [y]))) else Pv (j + 1) H3) ∧ ∀ H', Pv xs.length H' → rest E (σ.set k (some (.ref D))) H') :
    tSeq (tAsg (tLc (fun σ H R => iList K (tVar i) σ H R ∨ iTup K (tVar i) σ H R) g tt te vs) (gName k)) rest E σ H :=
  lc_seq (Q := fun x H1 => rest E (σ.set k (some x)) H1) hσ hq h
theorem il_setsort {P : Program} {w : World} {K : PySem.W.Frag} {i : Nat} {σ : L2.St} {H : Hp} {R : It → Hp → Prop} {D : Addr} {as : List Addr} {ts W : List Tn} {n : Nat} (hσ : σ[i]? = some (some (.ref D))) (hl : H D = some (.lst (rs as))) (hT : TAs H as ts) (hP : AllP n ts) (hn1 : 1 ≤ n) (hn : n ≤ 16) (hW : Sub ts W) (hlen : W.length ≤ 60)
    (q : ∀ H5 p5 as', Same H H5 → H p5 = none → H5 p5 = some (.lst (rs as')) → TAs H5 as' (setS ts) → (∀ a ∈ as', a ∈ as) → R (Itl K p5) H5) :
    iList K (tCB (rSortedT K P w) (tCons (tCB (rSetF K P w) (tCons (tVar i) tNil)) tNil)) σ H R := by
  refine ⟨.ref D, hσ, ?_⟩
  have key : rSetF K P w [.ref D] H fun x H1 => rSortedT K P w [x] H1 fun y H2 => ∃ a, y = .ref a ∧ (∃ xs, SqL K H2 a xs) ∧ R (Itl K a) H2 :=
    read_setsort2 hl hT hP hn1 hn hW hlen fun H5 p5 s5 n5 h5 => by
      obtain ⟨as', g1, g2, g3⟩ := h5
      exact ⟨p5, rfl, ⟨_, SqL.of g1⟩, q H5 p5 as' s5 n5 g1 g2 g3⟩
  exact key
section
variable {P : Program} {w : World} {K : PySem.W.Frag} {mg : Str → Option Value} {base : Heap}
def spSpanY : Sp := fun vs H Q _ => ∃ (z : Bool) (n : Nat) (l : Addr) (g W : List Tn), vs = [nv n, .ref l] ∧ SA H l g ∧ AllP n g ∧ 1 ≤ n ∧ n ≤ 16 ∧ g.length ≤ 60 ∧ Box n g W ∧ Ret H Q fun H' p => LF z H' p (spn n g)
theorem ok_spanY {f : Addr} {fd : FuncData} {k : Nat} (F : Fun K "_law_span" "_law_span" ySpan f fd) (cB : Cal P w K mg base k "_law_behind" spBehindY) (mt : mg "tuple" = none) (mr : mg "range" = none) (ms : mg "sorted" = none) (me : mg "set" = none) : FnOk P w K mg base CX0 (k + 1) f fd ["_law_places", "_law_given"] spSpanY := by
  refine F.ok sySpan (fun vs H Q E h => ?_) (fun cdv A outer s H vs Q E hr h => ?_)
  · obtain ⟨z, n, l, g, W, rfl, _⟩ := h
    rfl
  · obtain ⟨z, n, l, g, W, rfl, hL, hP, hn1, hn, hgl, B, q⟩ := h
    have hu : A.units + 3 + 65 < cLine := by have := hr.un; have e : (A.deeper (envOfC "_law_span" (defScope ySpan) s.heap.objs.size f cdv)).units = A.units + 3 := rfl; omega
    refine ⟨_, pss_cons (ps_set (i := 2) sySpan.nd rfl (.inr rfl) (pe_lst (pa_cons (pe_tupRg2 rfl (by rfl) mt (prg_1 (by rfl) mr (pv 0))) pa_nil)))
      (pss_cons (ps_for PassesOwn.never rfl (pi_range1 rfl mr (pa_cons pe_int pa_nil)) (pg_name (i := 3) sySpan.nd rfl (.inl rfl))
        (pss_one (ps_for PassesOwn.never rfl (pi_list (pe_slice sl_list (pv 2) (po_some (pv 3)) (po_some (pe_op op_add (pv 3) pe_int)))) (pg_name (i := 4) sySpan.nd rfl (.inr rfl))
          (pss_cons (ps_setLc (i := 5) (own := [("_law_other", 6)]) (g := gName 6) (tt := tYes) (te := tCall spBehindY [] E0 (tCons (tVar 4) (tCons (tVar 6) tNil))) rfl sySpan.nd rfl rfl rfl (pi_seq 1 (pv 1)) (blkOk_by (N := ["_law_places", "_law_given", "_law_found", "_law_turn", "_law_one", "_law_later", "_law_other"]) (sc := defScope ySpan) (by decide +kernel))
            (fun _ _ _ _ _ => pg_name (i := 6) sySpan.nd rfl (Or.inl rfl)) (fun _ _ _ _ _ => pts_nil) (fun _ _ _ _ _ => pe_c cB hr (Nat.le_refl _) (by rfl) (pa_cons (pv 4) (pa_cons (pv 6) pa_nil))))
          (pss_one (ps_set (i := 2) sySpan.nd rfl (.inr rfl) (pe_op op_cat (pv 2) (pe_lc (own := [("_law_other", 6)]) (g := gName 6) (tt := tTest (tOp (rNotInD K) (tVar 6) (tVar 2))) (te := tVar 6) rfl sySpan.nd
            (pi_list (pe_callB (cr_sortedT rfl) (by rfl) ms (by decide +kernel) (pa_cons (pe_callTy (cr_setF rfl (show A.units + 3 + 64 < cLine by omega)) (by rfl) me PyProof.Rows.boot_set (pa_cons (pv 5) pa_nil)) pa_nil))) (blkOk_by (N := ["_law_places", "_law_given", "_law_found", "_law_turn", "_law_one", "_law_later", "_law_other"]) (sc := defScope ySpan) (by decide +kernel))
            (fun _ _ _ _ _ => pg_name (i := 6) sySpan.nd rfl (Or.inl rfl)) (fun _ _ _ _ _ => pts_one (pt_cmpR (op_notInD hu) (pv 6) (pv 2) (by rfl))) (fun _ _ _ _ _ => pv 6)))))))))
      (pss_one (ps_ret (pe_callB (cr_sortedLT rfl) (by rfl) ms (by decide +kernel) (pa_cons (pv 2) pa_nil))))), ?_⟩
    refine ⟨nv n, rfl, n, rfl, RgOk.of_le (by decide) (by omega) (by omega) (by omega), ?_⟩
    rw [rgV_tv]
    refine newT_of (z := z) fun H1 p s1 np hp => ⟨fewe (by simp), fun fa nfa => ?_⟩
    have s2 := same_upd (o := .lst [.ref p]) nfa
    refine ⟨300, rfl, by decide, by decide, for_range (lo := 0) (n := ((300 : Int)).toNat) (fun i σ H' => ∃ fa F y3 y4 y5, σ = [some (nv n), some (.ref l), some (.ref fa), y3, y4, y5, none] ∧ Same H H' ∧ H fa = none ∧ LF z H' fa F ∧ YS n g F i)
      ⟨fa, [stl n], _, _, _, rfl, s1.trans s2, s1.free nfa, ⟨[p], upd_same, .cons (hp.same s2) .nil⟩, YS.start⟩ (fun i σ H' hi h => ?_) (fun σ H' h => ?_)⟩
    · clear s2 nfa hp np s1 p fa
      obtain ⟨fa, F, y3, y4, y5, rfl, sm, nfa, ⟨as, hfa, hF⟩, Y⟩ := h
      have hFl := Y.few B
      rw [show (V.int (0 + (i : Int))) = nv i from by rw [Int.zero_add]; rfl]
      refine ⟨.ref fa, rfl, nv i, rfl, (i : Int), rfl, nv i, rfl, (i : Int), 1, rfl, rfl, (i : Int) + 1, rfl, fa, rs as, rfl, SqL.of hfa, fun sl nsl => ?_⟩
      have s3 := same_upd (o := .lst (cutV (rs as) (some (i : Int)) (some ((i : Int) + 1)))) nsl
      have hsl : (upd H' sl (.lst (cutV (rs as) (some (i : Int)) (some ((i : Int) + 1))))) sl = some (.lst (match (rs as)[i]? with
        | some x => [x]
        | none => [])) := by rw [upd_same, cut_one]
      have sm3 := sm.trans s3
      have hfa3 := s3 _ _ hfa
      have hF3 := hF.same s3
      generalize upd H' sl (.lst (cutV (rs as) (some (i : Int)) (some ((i : Int) + 1)))) = H3 at *
      cases hi2 : as[i]? with
      | none =>
        have e1 : (rs as)[i]? = none := by unfold rs; rw [List.getElem?_map, hi2]; rfl
        rw [e1] at hsl
        have hge : F.length ≤ i := by rw [← hF.len]; exact List.getElem?_eq_none_iff.mp hi2
        refine ⟨sl, rfl, ⟨_, SqL.of hsl⟩, for_list (xs := []) (fun j σ H' => H3 = H' ∧ σ = [some (nv n), some (.ref l), some (.ref fa), some (nv i), y4, y5, none]) ⟨rfl, rfl⟩ (fun j σ H' _ h => by obtain ⟨rfl, _⟩ := h; exact SqL.of hsl) (fun j x σ H' hx h => by cases hx) (fun σ H' h => ?_)⟩
        obtain ⟨rfl, rfl⟩ := h
        exact ⟨fa, F, _, _, _, rfl, sm3, nfa, ⟨as, hfa3, hF3⟩, Y.skip hge⟩
      | some b =>
        have e1 : (rs as)[i]? = some (.ref b) := by unfold rs; rw [List.getElem?_map, hi2]; rfl
        rw [e1] at hsl
        obtain ⟨one, hone, hb⟩ := hF3.get hi2
        have c1 := (Y.clo one (List.mem_of_getElem? hone)).isP hP
        have hW1 : ∀ o ∈ g, beh one o ∈ W := fun o ho => B.step one ((Y.clo one (List.mem_of_getElem? hone)).in B.zero B.step) o ho
        refine ⟨sl, rfl, ⟨_, SqL.of hsl⟩, for_list (xs := [.ref b]) (fun j σ H' => (j = 0 → H3 = H' ∧ σ = [some (nv n), some (.ref l), some (.ref fa), some (nv i), y4, y5, none]) ∧ H' sl = some (.lst [.ref b]) ∧
            (j = 1 → ∃ fa F y3 y4 y5, σ = [some (nv n), some (.ref l), some (.ref fa), y3, y4, y5, none] ∧ Same H H' ∧ H fa = none ∧ LF z H' fa F ∧ YS n g F (i + 1)))
          ⟨fun _ => ⟨rfl, rfl⟩, hsl, fun e => by cases e⟩ (fun j σ H' _ h => SqL.of h.2.1) (fun j x σ H' hx h => ?_) (fun σ H' h => h.2.2 rfl)⟩
        obtain rfl : j = 0 := by have := get_lt hx; simp at this; omega
        obtain rfl : V.ref b = x := Option.some.inj hx
        obtain ⟨h, hslc, _⟩ := h
        obtain ⟨rfl, rfl⟩ := h rfl
        have hL3 := hL.same sm3
        obtain ⟨gs, hgs, hgq⟩ := hL3.seq (K := K)
        rw [show gName 4 = fun v σ H Q => Q (σ.set 4 (some v)) H from rfl]
        refine asg_lc_seq (a := l) (xs := rs gs) rfl hgq fun D nD => ⟨fun j H' => Same H3 H' ∧ ∃ ds, H' D = some (.lst (rs ds)) ∧ TFs z H' ds ((g.take j).map fun o => beh one o), ⟨same_upd nD, [], upd_same, .nil⟩, fun j H' _ h o e => h.1 _ _ e, fun j x H' hx h => ?_, fun H' h => ?_⟩
        · obtain ⟨s4, ds, hD, hds⟩ := h
          obtain ⟨oa, hoa, rfl⟩ := rs_get hx
          obtain ⟨o, ho, hO⟩ := hgs.get hoa
          have po := hP o (List.mem_of_getElem? ho)
          have hjl := get_lt ho
          refine ⟨rfl, ?_⟩
          refine ⟨.ref b, rfl, .ref oa, rfl, z, b, oa, one, o, rfl, (hb.same s4).ta, hO.same s4, by rw [c1.len]; omega, fun x hx => by rw [po.len]; exact c1.lt x hx, fun H5 p5 s5 n5 h5 => ?_⟩
          have hD5 := s5 _ _ hD
          refine ⟨_, hD5, ?_, same_put (s4.trans s5) nD, ds ++ [p5], by rw [upd_same, rs_snoc], ?_⟩
          · have := hds.len
            rw [List.length_map, List.length_take] at this
            rw [rs_len]; exact few (by omega)
          · rw [take_succ ho, List.map_append]
            exact ((hds.same s5).put hD5 fun _ z => by cases z).snoc (h5.put hD5 fun _ z => by cases z)
        · obtain ⟨s4, ds, hD, hds⟩ := h
          rw [rs_len, hgs.len, List.take_length] at hds
          have hlatP : AllP n (g.map fun o => beh one o) := fun t ht => by
            obtain ⟨o, ho, e⟩ := List.mem_map.mp ht
            rw [← e]; exact isP_beh c1 (hP o ho)
          have hfa4 := s4 _ _ hfa3
          have hF4 := hF3.same s4
          refine ⟨.ref fa, rfl, ?_⟩
          unfold tLc
          refine il_setsort rfl hD hds.tas hlatP hn1 hn (fun t ht => by obtain ⟨o, ho, e⟩ := List.mem_map.mp ht; rw [← e]; exact hW1 o ho) B.len fun H5 p5 as' s5 n5 g1 g2 g3 => ?_
          have g4 : TFs z H5 as' (setS (g.map fun o => beh one o)) := tfs_of g2 fun a ha => by
            obtain ⟨t, ht⟩ := (hds.same s5).mem (g3 a ha)
            exact ⟨t, ht⟩
          have hfa5 := s5 _ _ hfa4
          have hF5 := hF4.same s5
          have hslen : as'.length ≤ 60 := by
            rw [g2.len]
            refine Nat.le_trans (pigeon _ W (srt_setS hn hlatP).nodup fun t ht => ?_) B.len
            obtain ⟨o, ho, e⟩ := List.mem_map.mp ((mem_setS hn hlatP t).mp ht)
            rw [← e]; exact hW1 o ho
          intro E nE
          have hgen : news g F one = (setS (g.map fun o => beh one o)).filter fun x => !decide (x ∈ F) := rfl
          generalize setS (g.map fun o => beh one o) = S at *
          refine lc_list (xs := rs as') (fun j H' => Same H5 H' ∧ ∃ es, H' E = some (.lst (rs es)) ∧ TFs z H' es ((S.take j).filter fun x => !decide (x ∈ F))) ⟨same_upd nE, [], upd_same, .nil⟩ (fun j H' _ h => SqL.of (h.1 _ _ g1)) (fun j x H' hx h => ?_) (fun H' h => ?_)
          · obtain ⟨s6, es, hE, hes⟩ := h
            obtain ⟨xa, hxa, rfl⟩ := rs_get hx
            obtain ⟨x, hx2, hX⟩ := g4.get hxa
            refine ⟨rfl, ?_⟩
            have hX6 := hX.same s6
            have hla : LA H' fa F := ⟨as, s6 _ _ hfa5, (hF5.same s6).tas⟩
            refine ⟨.ref xa, rfl, .ref fa, rfl, dt x, F.map dt, hX6.ta.dp, hla.dp, shT x, shL F, _, rfl, ?_⟩
            rw [anyT]
            by_cases hin : x ∈ F
            · rw [decide_eq_true hin]
              refine iteF ⟨s6, es, hE, ?_⟩
              rw [take_succ hx2, List.filter_append, List.filter_cons_of_neg (by simpa using hin), List.filter_nil, List.append_nil]
              exact hes
            · rw [decide_eq_false hin]
              refine iteT ⟨.ref xa, rfl, _, hE, ?_, same_put s6 nE, es ++ [xa], by rw [upd_same, rs_snoc], ?_⟩
              · have e1 := hes.len
                have e2 := List.length_filter_le (fun x => !decide (x ∈ F)) (S.take j)
                rw [List.length_take] at e2
                have e3 := g2.len
                rw [rs_len]; exact few (by omega)
              · rw [take_succ hx2, List.filter_append, List.filter_cons_of_pos (by simpa using hin), List.filter_nil]
                exact (hes.put hE fun _ z => by cases z).snoc (hX6.put hE fun _ z => by cases z)
          · obtain ⟨s6, es, hE, hes⟩ := h
            rw [rs_len, g2.len, List.take_length, ← hgen] at hes
            have hfa6 := s6 _ _ hfa5
            have s36 := (s4.trans s5).trans s6
            refine ⟨fa, E, rs as, rs es, rfl, rfl, hfa6, hE, ?_, fun p7 n7 => ?_⟩
            · have e1 := hes.len
              have e2 : (news g F one).length ≤ S.length := by rw [hgen]; exact List.length_filter_le _ _
              have e3 := g2.len
              have e4 := hF.len
              rw [rs_len, rs_len]; exact fewe (by omega)
            · have s7 := same_upd (o := .lst (rs as ++ rs es)) n7
              refine ⟨fun e => (by cases e), s7 _ _ (s36 _ _ hslc), fun _ => ⟨p7, F ++ news g F one, _, _, _, rfl, (sm3.trans s36).trans s7, (sm3.trans s36).free n7, ⟨as ++ es, by rw [upd_same]; unfold rs; rw [List.map_append], ((((hF3.same s36)).same s7).append (hes.same s7))⟩, Y.next hn hP hone⟩⟩
    · obtain ⟨fa, F, y3, y4, y5, rfl, sm, nfa, ⟨as, hfa, hF⟩, Y⟩ := h
      have hFl := Y.few B
      have hFP : AllP n F := fun t ht => (Y.clo t ht).isP hP
      refine ⟨.ref fa, rfl, read_sortL hfa hF.tas hFP Y.nd hn1 hn (by omega) fun H2 p s2 np hp => ?_⟩
      obtain ⟨as', g1, g2, g3⟩ := hp
      refine q H2 p (sm.trans s2) (sm.free np) ⟨as', g1, ?_⟩
      rw [← Y.all hn hP B (by show F.length ≤ 300; omega)]
      exact tfs_of g2 fun a ha => (hF.same s2).mem (g3 a ha)
end
end Lk
set_option Elab.async false
set_option linter.all false
set_option maxRecDepth 100000
namespace Lk
open PySem PySem.Spec PyProof.Rows L2 GxR
inductive LFs (z : Bool) (H : Hp) : List Addr → List (List Tn) → Prop
  | nil : LFs z H [] []
  | cons {a : Addr} {ts : List Tn} {as : List Addr} {tss : List (List Tn)} : LF z H a ts → LFs z H as tss → LFs z H (a :: as) (ts :: tss)
section
variable {z : Bool} {H H' : Hp} {a b x : Addr} {as bs : List Addr} {ts : List Tn} {tss uss : List (List Tn)} {o o' : HO}
theorem LF.put (h : LF z H a ts) (hx : H x = some o) (no : Unit → ¬ IsTp o) (ne : a ≠ x) : LF z (upd H x o') a ts :=
  let ⟨as, h1, h2⟩ := h
  ⟨as, by rw [upd_ne ne]; exact h1, h2.put hx no⟩
theorem LFs.las (h : LFs z H as tss) : LAs H as tss := by
  induction h with
  | nil => exact .nil
  | cons h _ ih => exact .cons h.la ih
theorem LFs.same (s : Same H H') (h : LFs z H as tss) : LFs z H' as tss := by
  induction h with
  | nil => exact .nil
  | cons h _ ih => exact .cons (h.same s) ih
theorem LFs.put (h : LFs z H as tss) (hx : H x = some o) (no : Unit → ¬ IsTp o) (ne : ∀ a ∈ as, a ≠ x) : LFs z (upd H x o') as tss := by
  induction h with
  | nil => exact .nil
  | cons h _ ih => exact .cons (h.put hx no (ne _ List.mem_cons_self)) (ih fun a ha => ne a (List.mem_cons_of_mem _ ha))
theorem LFs.len (h : LFs z H as tss) : as.length = tss.length := h.las.len
theorem LFs.append (h : LFs z H as tss) (h' : LFs z H bs uss) : LFs z H (as ++ bs) (tss ++ uss) := by
  induction h with
  | nil => exact h'
  | cons h _ ih => exact .cons h ih
theorem LFs.snoc (h : LFs z H as tss) (h' : LF z H a ts) : LFs z H (as ++ [a]) (tss ++ [ts]) := h.append (.cons h' .nil)
theorem LFs.get (h : LFs z H as tss) {i : Nat} (ha : as[i]? = some a) : ∃ ts, tss[i]? = some ts ∧ LF z H a ts := by
  induction h generalizing i with
  | nil => simp at ha
  | cons h _ ih =>
    cases i with
    | zero => simp at ha; subst ha; exact ⟨_, rfl, h⟩
    | succ i => exact ih (by simpa using ha)
theorem LFs.get_last {pre : List (List Tn)} (h : LFs z H as (pre ++ [ts])) : ∃ bs b, as = bs ++ [b] ∧ LF z H b ts := by
  have e := h.len
  have hne : as ≠ [] := fun z => by rw [z] at e; simp at e
  refine ⟨as.dropLast, as.getLast hne, (List.dropLast_concat_getLast hne).symm, ?_⟩
  have hi : as[as.length - 1]? = some (as.getLast hne) := by rw [List.getLast_eq_getElem, List.getElem?_eq_getElem]
  obtain ⟨u, hu, hT⟩ := h.get hi
  rw [e, List.length_append, List.length_singleton, Nat.add_sub_cancel, List.getElem?_append_right (Nat.le_refl _), Nat.sub_self] at hu
  rw [show u = ts from (Option.some.inj hu).symm] at hT
  exact hT
end
theorem ta_setsort {P : Program} {w : World} {K : PySem.W.Frag} {i : Nat} {σ : L2.St} {H : Hp} {Qs : List V → Hp → Prop} {D : Addr} {as : List Addr} {ts W : List Tn} {n : Nat} (hσ : σ[i]? = some (some (.ref D))) (hl : H D = some (.lst (rs as))) (hT : TAs H as ts) (hP : AllP n ts) (hn1 : 1 ≤ n) (hn : n ≤ 16) (hW : Sub ts W) (hlen : W.length ≤ 60)
    (q : ∀ H5 p5, Same H H5 → H p5 = none → LA H5 p5 (setS ts) → Qs [.ref p5] H5) :
    tCons (tCB (rSortedT K P w) (tCons (tCB (rSetF K P w) (tCons (tVar i) tNil)) tNil)) tNil σ H Qs := by
  refine ⟨.ref D, hσ, ?_⟩
  have key : rSetF K P w [.ref D] H fun x H1 => rSortedT K P w [x] H1 fun y H2 => Qs [y] H2 :=
    read_setsort2 hl hT hP hn1 hn hW hlen fun H5 p5 s5 n5 h5 => by
      obtain ⟨as', g1, g2, g3⟩ := h5
      exact q H5 p5 s5 n5 ⟨as', g1, g2⟩
  exact key
abbrev yTerms : Stmt := topS 48
theorem syTerms : FnScope ["_law_lock_here", "_law_by_all", "_law_places", "_law_whole", "_law_found", "_law_turn", "_law_given", "_law_one", "_law_later", "_law_other"] ["_law_lock_here", "_law_by_all"] (defScope yTerms) := ⟨rfl, rfl, rfl, by decide +kernel, rfl, by decide +kernel, by decide +kernel⟩
section
variable {P : Program} {w : World} {K : PySem.W.Frag} {mg : Str → Option Value} {base : Heap}
def spTermsY : Sp := fun vs H Q _ => ∃ (a : Addr) (n : Nat) (lock W : List Tn), vs = [.ref a, .bl true] ∧ LockA H a n lock ∧ lock.length ≤ 60 ∧ Grp n W ∧ Sub lock W ∧ spn n lock = W ∧ (lower n W).length ≤ 9 ∧ Ret H Q fun H' p => LLA H' p (lower n W)
theorem ok_termsY {f : Addr} {fd : FuncData} {k : Nat} (F : Fun K "_law_terms" "_law_terms" yTerms f fd) (cS : Cal P w K mg base k "_law_span" spSpanY) (cW : Cal P w K mg base k "_law_swap" spSwapY) (ml : mg "len" = none) (mr : mg "range" = none) (ms : mg "sorted" = none) (me : mg "set" = none) :
    FnOk P w K mg base CX0 (k + 1) f fd ["_law_lock_here", "_law_by_all"] spTermsY := by
  refine F.ok syTerms (fun vs H Q E h => ?_) (fun cdv A outer s H vs Q E hr h => ?_)
  · obtain ⟨a, n, lock, W, rfl, _⟩ := h
    rfl
  · obtain ⟨a, n, lock, W, rfl, hL, hl60, G, hs, hW, hnine, q⟩ := h
    have hu : A.units + 3 + 64 < cLine := by have := hr.un; have e : (A.deeper (envOfC "_law_terms" (defScope yTerms) s.heap.objs.size f cdv)).units = A.units + 3 := rfl; omega
    obtain ⟨ps, a0, t0, ha, hT, h0, hA0, hl0⟩ := hL.fst
    refine ⟨_, pss_cons (ps_set (i := 2) syTerms.nd rfl (.inl rfl) (pe_callB call_len_seq (by rfl) ml PySem.boot_len (pa_cons (pe_ix ix_tup (pv 0) pe_int (fun _ _ => rfl)) pa_nil)))
      (pss_cons (ps_set (i := 3) syTerms.nd rfl (.inl rfl) (pe_c cS hr (Nat.le_refl _) (by rfl) (pa_cons (pv 2) (pa_cons (pv 0) pa_nil))))
      (pss_cons (ps_set (i := 4) syTerms.nd rfl (.inl rfl) (pe_lst (pa_cons (pv 3) pa_nil)))
      (pss_cons (ps_for PassesOwn.never rfl (pi_range1 rfl mr (pa_cons pe_int pa_nil)) (pg_name (i := 5) syTerms.nd rfl (.inl rfl))
        (pss_cons (ps_set (i := 6) syTerms.nd rfl (.inl rfl) (pe_lst pa_nil))
        (pss_cons (ps_for PassesOwn.never rfl (pi_list (pe_ix ix_list (pv 4) (pe_un un_neg pe_int) (fun _ _ => rfl))) (pg_name (i := 7) syTerms.nd rfl (.inr rfl))
          (pss_one (ps_set (i := 6) syTerms.nd rfl (.inl rfl) (pe_op op_cat (pv 6) (pe_lc (own := [("_law_other", 9)]) (g := gName 9) (tt := tYes) (te := tCall spSwapY [] E0 (tCons (tVar 7) (tCons (tVar 9) tNil))) rfl syTerms.nd
            (pi_list (pe_ifExp (pt_val (pv 1)) (pv 3) (pe_ix ix_list (pv 4) (pe_un un_neg pe_int) (fun _ _ => rfl)))) (blkOk_by (N := ["_law_lock_here", "_law_by_all", "_law_places", "_law_whole", "_law_found", "_law_turn", "_law_given", "_law_one", "_law_later", "_law_other"]) (sc := defScope yTerms) (by decide +kernel))
            (fun _ _ _ _ _ => pg_name (i := 9) syTerms.nd rfl (Or.inl rfl)) (fun _ _ _ _ _ => pts_nil) (fun _ _ _ _ _ => pe_c cW hr (Nat.le_refl _) (by rfl) (pa_cons (pv 7) (pa_cons (pv 9) pa_nil))))))))
        (pss_cons (ps_set (i := 8) syTerms.nd rfl (.inl rfl) (pe_c cS hr (Nat.le_refl _) (by rfl) (pa_cons (pv 2) (pa_cons (pe_callB (cr_sortedT rfl) (by rfl) ms (by decide +kernel) (pa_cons (pe_callTy (cr_setF rfl hu) (by rfl) me PyProof.Rows.boot_set (pa_cons (pv 6) pa_nil)) pa_nil)) pa_nil))))
        (pss_cons (ps_if (pt_cmpR (op_eqD hu) (pv 8) (pe_ix ix_list (pv 4) (pe_un un_neg pe_int) (fun _ _ => rfl)) (nomark _)) (pss_one (ps_ret (pv 4))) pss_nil)
        (pss_one (ps_expr (pe_bm PySem.F.plainAttrs_list PySem.F.slot_list_append PySem.F.type_list_append mt_append (pv 4) (pa_cons (pv 8) pa_nil)))))))))
      (pss_one (ps_ret (pv 4)))))), ?_⟩
    refine ⟨.ref a, rfl, a, rs ps, 0, .ref a0, rfl, rfl, SqT.of ha, h0, a0, tv t0, rfl, .inr (sqA hA0), ?_⟩
    rw [tv_len, hl0]
    refine ⟨nv n, rfl, .ref a, rfl, true, n, a, lock, W, rfl, .inr hL.at_.ua, hL.pl, hL.n1, hL.n16, hl60, G.box hs, fun H1 p1 s1 np1 hp1 => ?_⟩
    rw [hW] at hp1
    refine ⟨.ref p1, rfl, fewe (by simp), fun fa nfa => ?_⟩
    have sA := same_put (o := .lst [.ref p1]) s1 (s1.free nfa)
    have nfaH := s1.free nfa
    have hp1' := hp1.same (same_upd (o := .lst [.ref p1]) nfa)
    have p1fa : p1 ≠ fa := fun e => by
      obtain ⟨_, z, _⟩ := hp1
      rw [e, nfa] at z
      cases z
    have hn60 : n ≤ 60 := by have := hL.n16; omega
    refine ⟨9, rfl, by decide, by decide, for_range (lo := 0) (n := ((9 : Int)).toNat) (fun i σ Hc => ∃ (pre : List (List Tn)) (last : List Tn) (fs : List Addr) (y5 y6 y7 y8 : Option V), σ = [some (.ref a), some (.bl true), some (nv n), some (.ref p1), some (.ref fa), y5, y6, y7, y8, none] ∧ lower n W = pre ++ [last] ++ low n W (64 - i) last ∧ pre.length = i ∧
        Sub last W ∧ Srt last ∧ Same H Hc ∧ LF true Hc p1 W ∧ Hc fa = some (.lst (rs fs)) ∧ LFs true Hc fs (pre ++ [last]) ∧ (∀ b ∈ fs, b ≠ fa))
      ⟨[], W, [p1], none, none, none, none, rfl, rfl, rfl, fun t h => h, G.srt, sA, hp1', upd_same, .cons hp1' .nil, fun b hb => by rw [List.mem_singleton.mp hb]; exact p1fa⟩ (fun i σ Hc hi h => ?_) (fun σ Hc h => ?_)⟩
    · obtain ⟨pre, last, fs, y5, y6, y7, y8, rfl, eL, hpre, hls, hlsrt, sc, hp1c, hfc, hfs, hne⟩ := h
      have hi9 : i < 9 := by have : ((9 : Int)).toNat = 9 := rfl; omega
      obtain ⟨m, hm⟩ : ∃ m, 64 - i = m + 1 := ⟨63 - i, by omega⟩
      have hm2 : 64 - (i + 1) = m := by omega
      rw [hm] at eL
      have hl60 : last.length ≤ 60 := Nat.le_trans (sub_len hls hlsrt) G.few
      obtain ⟨bs, b, rfl, hb⟩ := hfs.get_last
      have pL := G.allP hls
      refine ⟨Nat.zero_le _, fun g0 ng0 => ?_⟩
      have sg := same_upd (o := .lst []) ng0
      have hgg : (upd Hc g0 (.lst [])) g0 = some (.lst (rs [])) := upd_same
      have scg := sc.trans sg
      have hp1g := hp1c.same sg
      have hfg := sg _ _ hfc
      have hfsg := hfs.same sg
      have hbg := hb.same sg
      generalize upd Hc g0 (.lst []) = Hg at *
      obtain ⟨ls, hb1, hb2⟩ := id hbg
      obtain ⟨ws, hw1, hw2⟩ := id hp1g
      refine ⟨.ref fa, rfl, 1, rfl, fa, _, -1, .ref b, rfl, rfl, SqL.of hfg, rs_last bs b, b, rfl, ⟨_, SqL.of hb1⟩, for_list (xs := rs ls) (fun j σ H' => ∃ gv y7, σ = [some (.ref a), some (.bl true), some (nv n), some (.ref p1), some (.ref fa), some (.int (0 + (i : Int))), some (.ref gv), y7, y8, none] ∧ Same Hg H' ∧
          ∃ gs, H' gv = some (.lst (rs gs)) ∧ TFs true H' gs ((last.take j).flatMap fun l => W.map fun r => swp l r)) ⟨g0, _, rfl, fun _ _ e => e, [], hgg, .nil⟩ (fun j σ H' _ h => ?_) (fun j x σ H' hx h => ?_) (fun σ H' h => ?_)⟩
      · obtain ⟨_, _, _, s2, _⟩ := h
        exact SqL.of (s2 _ _ hb1)
      · obtain ⟨gv, y7, rfl, s2, gs, hgv, hgs⟩ := h
        obtain ⟨la, hla, rfl⟩ := rs_get hx
        obtain ⟨l, hl, hLt⟩ := hb2.get hla
        have hlm : l ∈ last := List.mem_of_getElem? hl
        have hlen1 : gs.length ≤ 3600 := by
          have e := hgs.len
          rw [List.length_flatMap, List.map_congr_left (g := fun _ => W.length) (fun _ _ => List.length_map _)] at e
          have e2 : ((last.take j).map fun _ => W.length).sum = (last.take j).length * W.length := by
            rw [List.map_const', List.sum_replicate_nat]
          rw [e2, List.length_take] at e
          have : min j last.length * W.length ≤ 60 * 60 := Nat.mul_le_mul (by omega) G.few
          omega
        refine ⟨.ref gv, rfl, .bl true, rfl, true, rfl, iteT ⟨.ref p1, rfl, p1, rfl, ⟨_, SqL.of (s2 _ _ hw1)⟩, fun D nD => ?_⟩⟩
        refine lc_list (xs := rs ws) (fun r H3 => Same H' H3 ∧ ∃ ds, H3 D = some (.lst (rs ds)) ∧ TFs true H3 ds ((W.take r).map fun r => swp l r)) ⟨same_upd nD, [], upd_same, .nil⟩ (fun r H3 _ h => SqL.of (h.1 _ _ (s2 _ _ hw1))) (fun r x H3 hx3 h => ?_) (fun H3 h => ?_)
        · obtain ⟨s3, ds, hD, hds⟩ := h
          obtain ⟨ra, hra, rfl⟩ := rs_get hx3
          obtain ⟨u, hu', hU⟩ := hw2.get hra
          have hum : u ∈ W := List.mem_of_getElem? hu'
          have hrl := get_lt hu'
          have hW60 := G.few
          refine ⟨rfl, ?_⟩
          refine ⟨.ref la, rfl, .ref ra, rfl, true, la, ra, l, u, n, rfl, (hLt.same s2).same s3, (hU.same s2).same s3, pL l hlm, G.isP u hum, hn60, fun H4 p4 s4 n4 h4 => ?_⟩
          have hD4 := s4 _ _ hD
          refine ⟨_, hD4, ?_, same_put (s3.trans s4) nD, ds ++ [p4], by rw [upd_same, rs_snoc], ?_⟩
          · have e := hds.len
            rw [List.length_map, List.length_take] at e
            rw [rs_len]; exact few (by omega)
          · rw [take_succ hu', List.map_append]
            exact ((hds.same s4).put hD4 fun _ z => by cases z).snoc (h4.put hD4 fun _ z => by cases z)
        · obtain ⟨s3, ds, hD, hds⟩ := h
          rw [rs_len, hw2.len, List.take_length] at hds
          have hgv3 := s3 _ _ hgv
          refine ⟨gv, D, rs gs, rs ds, rfl, rfl, hgv3, hD, ?_, fun p5 n5 => ?_⟩
          · have e := hds.len
            rw [List.length_map] at e
            have hW60 := G.few
            rw [rs_len, rs_len]
            exact Nat.le_of_lt (Nat.lt_of_le_of_lt (show gs.length + ds.length ≤ 3700 by omega) (by rw [sizeLine_eq]; decide))
          · have s5 := same_upd (o := .lst (rs gs ++ rs ds)) n5
            refine ⟨p5, _, rfl, (s2.trans s3).trans s5, gs ++ ds, by rw [upd_same]; unfold rs; rw [List.map_append], ?_⟩
            have h9 := ((hgs.same s3).same s5).append (hds.same s5)
            rw [take_succ hl, List.flatMap_append]
            simpa using h9
      · obtain ⟨gv, y7, rfl, s2, gs, hgv, hgs⟩ := h
        rw [rs_len, hb2.len, List.take_length] at hgs
        obtain ⟨hswP, hswS, _⟩ := swS_sub hL.n16 G hls (fun t h => h)
        refine ⟨nv n, rfl, ta_setsort rfl hgv hgs.tas hswP hL.n1 hL.n16 (fun t ht => hswS t ((mem_setS hL.n16 hswP t).mpr ht)) G.few fun H3 p3 s3 n3 h3 => ?_⟩
        have hsw60 : (swS last W).length ≤ 60 := Nat.le_trans (pigeon _ W (srt_setS hL.n16 hswP).nodup hswS) G.few
        refine ⟨true, n, p3, swS last W, W, rfl, .inl h3, G.allP hswS, hL.n1, hL.n16, hsw60, G.box hswS, fun H4 p4 s4 n4 h4 => ?_⟩
        have s24 := (s2.trans s3).trans s4
        have hf4 := s24 _ _ hfg
        have hb4 := hbg.same s24
        refine ⟨.ref p4, rfl, .ref fa, rfl, 1, rfl, fa, _, -1, .ref b, rfl, rfl, SqL.of hf4, rs_last bs b, dl (spn n (swS last W)), dl last, h4.la.dp, hb4.la.dp, shL _, shL _, _, rfl, ?_⟩
        rw [eqvL]
        by_cases he : spn n (swS last W) = last
        · rw [decide_eq_true he]
          refine iteT ⟨.ref fa, rfl, q H4 fa (scg.trans s24) nfaH ⟨_, hf4, ?_⟩⟩
          have e9 : low n W (m + 1) last = [] := by rw [low, if_pos he]
          rw [eL, e9, List.append_nil]
          exact (hfsg.same s24).las
        · rw [decide_eq_false he]
          have p4fa : p4 ≠ fa := fun e => by rw [e, (s2.trans s3) _ _ hfg] at n4; cases n4
          have hfl := hfs.len
          refine iteF ⟨.ref fa, rfl, .inl ⟨rfl, _, SqL.of hf4⟩, .ref p4, rfl, fa, _, .ref p4, rfl, rfl, hf4, ?_, ?_⟩
          · rw [rs_len, hfl, List.length_append, hpre]; exact few (by simp; omega)
          · obtain ⟨d1, d2⟩ := low_step hL.n16 G hls
            have e9 : low n W (m + 1) last = spn n (swS last W) :: low n W m (spn n (swS last W)) := by rw [low, if_neg he]
            refine ⟨pre ++ [last], spn n (swS last W), bs ++ [b] ++ [p4], _, _, _, _, rfl, by rw [eL, e9, hm2]; simp, by rw [List.length_append, hpre]; rfl, d1, d2, same_put (scg.trans s24) nfaH, (hp1g.same s24).put hf4 (fun _ z => by cases z) p1fa, by rw [upd_same, rs_snoc], ?_, ?_⟩
            · exact ((hfsg.same s24).put hf4 (fun _ z => by cases z) hne).snoc (h4.put hf4 (fun _ z => by cases z) p4fa)
            · intro c hc
              rcases List.mem_append.mp hc with z | z
              · exact hne c z
              · rw [List.mem_singleton.mp z]; exact p4fa
    · obtain ⟨pre, last, fs, y5, y6, y7, y8, rfl, eL, hpre, _⟩ := h
      exfalso
      have : ((9 : Int)).toNat = 9 := rfl
      rw [eL, List.length_append, List.length_append, hpre, this] at hnine
      simp at hnine
      omega
end
end Lk
set_option Elab.async false
set_option linter.all false
set_option maxRecDepth 100000
namespace Lk
open PySem PySem.Spec PyProof.Rows L2 GxR
abbrev yWed : Stmt := topS 52
theorem syWed : FnScope ["_law_lock_here", "_law_prime", "_law_terms_here", "_law_found", "_law_weight", "_law_given", "_law_length", "_law_term", "_law_many", "_law_step", "_law_later", "_law_turn"] ["_law_lock_here", "_law_prime"] (defScope yWed) := ⟨rfl, rfl, rfl, by decide +kernel, rfl, by decide +kernel, by decide +kernel⟩
theorem mny_no {p j w m : Nat} (h : ¬ j * m < w) : ∀ k, mny p j w k m = m
  | 0 => rfl
  | k + 1 => by rw [mny, if_neg h]
section
variable {P : Program} {w : World} {K : PySem.W.Frag} {mg : Str → Option Value} {base : Heap}
def spWedY : Sp := fun vs H Q _ => ∃ (a : Addr) (n p : Nat) (lock W : List Tn) (wt : List (List Tn)), vs = [.ref a, nv p] ∧ LockP H a n p lock W wt ∧ Ret H Q fun H' q => LLA H' q wt
theorem ok_wedY {f : Addr} {fd : FuncData} {k : Nat} (F : Fun K "_law_weighed" "_law_weighed" yWed f fd) (cT : Cal P w K mg base k "_law_terms" spTermsY) (cS : Cal P w K mg base k "_law_span" spSpanY) (cP : Cal P w K mg base k "_law_power" spPowerY) (ml : mg "len" = none) (mr : mg "range" = none) (ms : mg "sorted" = none) (me : mg "set" = none) (mn : mg "enumerate" = none) :
    FnOk P w K mg base CX0 (k + 1) f fd ["_law_lock_here", "_law_prime"] spWedY := by
  refine F.ok syWed (fun vs H Q E h => ?_) (fun cdv A outer s H vs Q E hr h => ?_)
  · obtain ⟨a, n, p, lock, W, wt, rfl, _⟩ := h
    rfl
  · obtain ⟨a, n, p, lock, W, wt, rfl, hL, q⟩ := h
    have hu : A.units + 3 + 64 < cLine := by have := hr.un; have e : (A.deeper (envOfC "_law_weighed" (defScope yWed) s.heap.objs.size f cdv)).units = A.units + 3 := rfl; omega
    obtain ⟨ps, a0, t0, ha, hT, h0, hA0, hl0⟩ := hL.lk.fst
    refine ⟨_, pss_cons (ps_par (i := 2) (j := 3) (by rfl) syWed.nd rfl rfl (by decide) rfl rfl (pa_cons (pe_c cT hr (Nat.le_refl _) (by rfl) (pa_cons (pv 0) (pa_cons pe_bl pa_nil))) (pa_cons (pe_lst pa_nil) pa_nil)) (by rfl))
      (pss_cons (ps_for PassesOwn.never rfl (pi_range2 rfl mr (pa_cons pe_int (pa_cons pe_int pa_nil))) (pg_name (i := 4) syWed.nd rfl (.inl rfl))
        (pss_cons (ps_set (i := 5) syWed.nd rfl (.inl rfl) (pe_lst pa_nil))
        (pss_cons (ps_for PassesOwn.never rfl (pi_enum (by rfl) mn (pa_cons (pv 2) pa_nil)) (pg_tup rfl (pgs_cons (pg_name (i := 6) syWed.nd rfl (.inl rfl)) (pgs_cons (pg_name (i := 7) syWed.nd rfl (.inl rfl)) pgs_nil)))
          (pss_cons (ps_set (i := 8) syWed.nd rfl (.inr rfl) pe_int)
          (pss_cons (ps_for PassesOwn.never rfl (pi_range1 rfl mr (pa_cons pe_int pa_nil)) (pg_name (i := 9) syWed.nd rfl (.inl rfl))
            (pss_one (ps_set (i := 8) syWed.nd rfl (.inr rfl) (pe_ifExp (pt_cmpR op_lt (pe_op op_mulW (pe_op op_add (pv 6) pe_int) (pv 8)) (pv 4) (nomark _)) (pe_op op_mulW (pv 8) (pv 1)) (pv 8)))))
          (pss_one (ps_set (i := 5) syWed.nd rfl (.inl rfl) (pe_op op_cat (pv 5) (pe_lc (own := [("_law_turn", 11)]) (g := gName 11) (tt := tYes) (te := tCall spPowerY [] E0 (tCons (tVar 11) (tCons (tVar 8) tNil))) rfl syWed.nd
            (pi_list (pv 7)) (blkOk_by (N := ["_law_lock_here", "_law_prime", "_law_terms_here", "_law_found", "_law_weight", "_law_given", "_law_length", "_law_term", "_law_many", "_law_step", "_law_later", "_law_turn"]) (sc := defScope yWed) (by decide +kernel))
            (fun _ _ _ _ _ => pg_name (i := 11) syWed.nd rfl (Or.inl rfl)) (fun _ _ _ _ _ => pts_nil) (fun _ _ _ _ _ => pe_c cP hr (Nat.le_refl _) (by rfl) (pa_cons (pv 11) (pa_cons (pv 8) pa_nil))))))))))
        (pss_cons (ps_set (i := 10) syWed.nd rfl (.inl rfl) (pe_c cS hr (Nat.le_refl _) (by rfl) (pa_cons (pe_callB call_len_seq (by rfl) ml PySem.boot_len (pa_cons (pe_ix ix_tup (pv 0) pe_int (fun _ _ => rfl)) pa_nil)) (pa_cons (pe_callB (cr_sortedT rfl) (by rfl) ms (by decide +kernel) (pa_cons (pe_callTy (cr_setF rfl hu) (by rfl) me PyProof.Rows.boot_set (pa_cons (pv 5) pa_nil)) pa_nil)) pa_nil))))
        (pss_cons (ps_if (pt_cmpR op_eq (pe_callB call_len_seq (by rfl) ml PySem.boot_len (pa_cons (pv 10) pa_nil)) pe_int (nomark _)) (pss_one (ps_ret (pv 3))) pss_nil)
        (pss_one (ps_expr (pe_bm PySem.F.plainAttrs_list PySem.F.slot_list_append PySem.F.type_list_append mt_append (pv 3) (pa_cons (pv 10) pa_nil)))))))))
      (pss_one (ps_ret (pv 3)))), ?_⟩
    have hn60 : n ≤ 60 := by have := hL.lk.n16; omega
    have hp3 : p ≤ 3 ∧ 2 ≤ p := by rcases hL.pc.ok with z | z <;> omega
    have hlo := lower_ok hL.lk.n16 hL.grp
    have hlow : ∀ T ∈ lower n W, Sub T W := fun T hT => (hlo T hT).1
    refine ⟨.ref a, rfl, a, n, lock, W, rfl, hL.lk, by have := hL.l4; omega, hL.grp, hL.sub, hL.span, hL.pc.nine, fun H1 tl s1 nt htl => ?_⟩
    refine ⟨Nat.zero_le _, fun fa nfa => ⟨.ref tl, .ref fa, rfl, ?_⟩⟩
    have sA := same_put (o := .lst []) s1 (s1.free nfa)
    have nfaH := s1.free nfa
    have htlA := htl.same (same_upd (o := .lst []) nfa)
    have hnotin : ∀ as, H1 tl = some (.lst (rs as)) → tl ≠ fa ∧ ∀ b ∈ as, b ≠ fa := fun as h => by
      refine ⟨ne_of_none h nfa, fun b hb e => ?_⟩
      obtain ⟨as', z1, z2⟩ := htl
      rw [h] at z1
      have e9 : rs as = rs as' := by injection z1 with z1; injection z1
      rw [← rs_inj e9] at z2
      obtain ⟨i, hi⟩ := List.getElem?_of_mem hb
      obtain ⟨ts, _, ⟨_, z3, _⟩⟩ := z2.get hi
      rw [e, nfa] at z3
      cases z3
    obtain ⟨ls, hls1, hls2⟩ := id htlA
    obtain ⟨tne, lne⟩ := hnotin ls (by
      have := hls1
      rw [upd_ne (fun e => by obtain ⟨_, z, _⟩ := htl; rw [e, nfa] at z; cases z)] at this
      exact this)
    generalize hLs : lower n W = L at *
    have hLl : ls.length = L.length := hls2.len
    have hnine := hL.pc.nine
    rw [hLs] at hnine
    have hwt := hL.pc.hwt
    rw [hLs] at hwt
    refine ⟨1, 40, rfl, by decide, for_range (lo := 1) (n := ((40 : Int) - 1).toNat) (fun i σ Hc => ∃ (pre rest : List (List Tn)) (fs : List Addr) (y4 y5 y6 y7 y8 y9 y10 : Option V), σ = [some (.ref a), some (nv p), some (.ref tl), some (.ref fa), y4, y5, y6, y7, y8, y9, y10, none] ∧ wt = pre ++ rest ∧ wgh n p L (39 - i) (i + 1) = some rest ∧ pre.length = i ∧
        Same H Hc ∧ Hc tl = some (.lst (rs ls)) ∧ LAs Hc ls L ∧ Hc fa = some (.lst (rs fs)) ∧ LAs Hc fs pre ∧ (∀ b ∈ fs, b ≠ fa))
      ⟨[], wt, [], none, none, none, none, none, none, none, rfl, rfl, hwt, rfl, sA, hls1, hls2, upd_same, .nil, fun b hb => absurd hb List.not_mem_nil⟩ (fun i σ Hc hi h => ?_) (fun σ Hc h => ?_)⟩
    · obtain ⟨pre, rest, fs, y4, y5, y6, y7, y8, y9, y10, rfl, eW, hwg, hpre, sc, htc, hLc, hfc, hfs, hne⟩ := h
      have hi39 : i < 39 := by have : ((40 : Int) - 1).toNat = 39 := rfl; omega
      obtain ⟨m, hm⟩ : ∃ m, 39 - i = m + 1 := ⟨38 - i, by omega⟩
      have hm2 : 39 - (i + 1) = m := by omega
      rw [hm] at hwg
      rw [show (V.int (1 + (i : Int))) = nv (i + 1) from by show V.int _ = V.int _; congr 1; omega]
      refine ⟨Nat.zero_le _, fun g0 ng0 => ?_⟩
      have sg := same_upd (o := .lst []) ng0
      have hgg : (upd Hc g0 (.lst [])) g0 = some (.lst (rs [])) := upd_same
      have scg := sc.trans sg
      have htg := sg _ _ htc
      have hLg := hLc.same sg
      have hfg := sg _ _ hfc
      have hfsg := hfs.same sg
      generalize upd Hc g0 (.lst []) = Hg at *
      have hsub : ∀ T ∈ L, Sub T W ∧ Srt T := hlo
      refine ⟨.ref tl, rfl, tl, rs ls, rfl, SqL.of htg, for_it (walk_enum (xs := rs ls)) (fun j σ H' => ∃ gv y6 y7 y8 y9, σ = [some (.ref a), some (nv p), some (.ref tl), some (.ref fa), some (nv (i + 1)), some (.ref gv), y6, y7, y8, y9, y10, none] ∧ Same Hg H' ∧
          ∃ gs, H' gv = some (.lst (rs gs)) ∧ TAs H' gs (powG p (i + 1) 1 (L.take j))) ⟨g0, _, _, _, _, rfl, fun _ _ e => e, [], hgg, .nil⟩ (fun j σ H' _ h => ?_) (fun j x σ H' H2 hj h y => ?_) (fun σ H' h => ?_)⟩
      · obtain ⟨_, _, _, _, _, _, s2, _⟩ := h
        exact SqL.of (s2 _ _ htg)
      · obtain ⟨gv, y6, y7, y8, y9, rfl, s2, gs, hgv, hgs⟩ := h
        obtain ⟨T, x1, x2, rfl, nT, rfl, e1, e2⟩ := y
        obtain rfl := Option.some.inj e1
        obtain ⟨tA, htA, rfl⟩ := rs_get e2
        obtain ⟨term, hterm, hTA⟩ := hLg.get htA
        have hmem : term ∈ L := List.mem_of_getElem? hterm
        have hjl : j < L.length := get_lt hterm
        have sT := same_upd (o := .tup [V.int (j : Nat), .ref tA]) nT
        have hTu : (upd H' T (.tup [V.int (j : Nat), .ref tA])) T = some (.tup [V.int (j : Nat), .ref tA]) := upd_same
        have s3 := s2.trans sT
        have hgv2 := sT _ _ hgv
        have hgs2 := hgs.same sT
        generalize (upd H' T (.tup [V.int (j : Nat), .ref tA])) = H2 at *
        have hlenT : term.length ≤ 60 := Nat.le_trans (sub_len (hsub term hmem).1 (hsub term hmem).2) hL.grp.few
        refine ⟨T, [V.int (j : Nat), .ref tA], rfl, SqT.of hTu, rfl, V.int (j : Nat), [.ref tA], rfl, .ref tA, [], rfl, rfl, ?_⟩
        refine ⟨6, rfl, by decide, by decide, for_range (lo := 0) (n := ((6 : Int)).toNat) (fun r σ H'' => ∃ (m : Nat) (y9 : Option V), σ = [some (.ref a), some (nv p), some (.ref tl), some (.ref fa), some (nv (i + 1)), some (.ref gv), some (nv j), some (.ref tA), some (nv m), y9, y10, none] ∧ H2 = H'' ∧
            mny p (j + 1) (i + 1) (6 - r) m = mny p (j + 1) (i + 1) 6 1 ∧ m ≤ 3 * (i + 1) + 1) ⟨1, _, rfl, rfl, rfl, by omega⟩ (fun r σ H'' hr6 h => ?_) (fun σ H'' h => ?_)⟩
        · obtain ⟨m', y9, rfl, rfl, hm', hm1⟩ := h
          have hr7 : r < 6 := by have : ((6 : Int)).toNat = 6 := rfl; omega
          rw [show 6 - r = (6 - (r + 1)) + 1 by omega] at hm'
          refine ⟨nv j, rfl, (j : Int), 1, rfl, rfl, nv m', rfl, ((j + 1 : Nat) : Int), (m' : Int), rfl, rfl, mulW (by omega) (by omega), nv (i + 1), rfl, (((j + 1) * m' : Nat) : Int), ((i + 1 : Nat) : Int), rfl, rfl, _, rfl, ?_⟩
          by_cases hz : (j + 1) * m' < i + 1
          · rw [decide_eq_true (Int.ofNat_lt.mpr hz)]
            have hmv : m' ≤ (j + 1) * m' := Nat.le_mul_of_pos_left m' (by omega)
            have hmp : m' * p ≤ m' * 3 := Nat.mul_le_mul_left _ hp3.1
            refine iteT ⟨nv m', rfl, nv p, rfl, (m' : Int), (p : Int), rfl, rfl, mulW (by omega) (by omega), m' * p, _, rfl, rfl, ?_, by omega⟩
            rw [← hm', mny, if_pos hz]
          · rw [decide_eq_false fun z => hz (Int.ofNat_lt.mp z)]
            refine iteF ⟨nv m', rfl, m', _, rfl, rfl, ?_, hm1⟩
            rw [← hm', mny_no hz, mny_no hz]
        · obtain ⟨m', y9, rfl, rfl, hm', hm1⟩ := h
          have hm9 : mny p (j + 1) (i + 1) 6 1 = m' := by rw [← hm']; rfl
          obtain ⟨us, hus, hUs⟩ := hTA
          have hus2 := s3 _ _ hus
          refine ⟨.ref gv, rfl, .ref tA, rfl, tA, rfl, ⟨_, SqL.of hus2⟩, fun D nD => ?_⟩
          refine lc_list (xs := rs us) (fun r H' => Same H2 H' ∧ ∃ ds, H' D = some (.lst (rs ds)) ∧ TAs H' ds ((term.take r).map fun t => pwr t m')) ⟨same_upd nD, [], upd_same, .nil⟩ (fun r H' _ h => SqL.of (h.1 _ _ hus2)) (fun r x H' hx h => ?_) (fun H' h => ?_)
          · obtain ⟨smj, ds, hD, hds⟩ := h
            obtain ⟨ta, hta, rfl⟩ := rs_get hx
            obtain ⟨t, ht, hTt⟩ := hUs.get hta
            have htm : t ∈ term := List.mem_of_getElem? ht
            refine ⟨rfl, ?_⟩
            refine ⟨.ref ta, rfl, nv m', rfl, ta, t, n, m', rfl, (hTt.same s3).same smj, hL.grp.isP t ((hsub term hmem).1 t htm), hn60, by omega, fun H3 q3 s4 n3 h3 => ?_⟩
            have hD3 := s4 _ _ hD
            refine ⟨_, hD3, ?_, same_put (smj.trans s4) nD, ds ++ [q3], by rw [upd_same, rs_snoc], ?_⟩
            · have e := hds.len
              rw [List.length_map, List.length_take] at e
              rw [rs_len]
              exact few (by omega)
            · rw [take_succ ht, List.map_append]
              exact ((hds.same s4).put hD3 fun _ z => by cases z).snoc (h3.ta.put hD3 fun _ z => by cases z)
          · obtain ⟨smj, ds, hD, hds⟩ := h
            rw [rs_len, hUs.len, List.take_length] at hds
            have hg3 := smj _ _ hgv2
            have hlg : gs.length ≤ 600 := by
              have e := hgs.len
              have := powG_len hL.grp p (i + 1) (L.take j) 1 fun T hT => hsub T (List.mem_of_mem_take hT)
              rw [List.length_take] at this
              omega
            refine ⟨gv, D, rs gs, rs ds, rfl, rfl, hg3, hD, ?_, fun p5 n5 => ?_⟩
            · have e := hds.len
              rw [List.length_map] at e
              rw [rs_len, rs_len]
              exact fewe (by omega)
            · have s5 := same_upd (o := .lst (rs gs ++ rs ds)) n5
              refine ⟨p5, _, _, _, _, rfl, (s3.trans smj).trans s5, gs ++ ds, by rw [upd_same]; unfold rs; rw [List.map_append], ?_⟩
              rw [take_succ hterm, powG_snoc, List.length_take, show 1 + min j L.length = j + 1 by omega, hm9]
              exact ((hgs2.same smj).same s5).append (hds.same s5)
      · obtain ⟨gv, y6, y7, y8, y9, rfl, s2, gs, hgv, hgs⟩ := h
        rw [rs_len, hLl, List.take_length] at hgs
        have hsubP := powG_sub hL.grp p (i + 1) L 1 fun T hT => (hsub T hT).1
        have s2g := scg.trans s2
        have hPP := hL.grp.allP hsubP
        refine ⟨.ref a, rfl, a, rs ps, 0, .ref a0, rfl, rfl, SqT.of (s2g _ _ ha), h0, a0, tv t0, rfl, .inr (sqA (hA0.same s2g)), ta_setsort rfl hgv hgs hPP hL.lk.n1 hL.lk.n16 hsubP hL.grp.few fun H3 p3 s3 n3 h3 => ?_⟩
        have hset := sub_setS hL.lk.n16 hL.grp hsubP
        have hset60 : (setS (powG p (i + 1) 1 L)).length ≤ 60 := Nat.le_trans (pigeon _ W (srt_setS hL.lk.n16 hPP).nodup hset) hL.grp.few
        refine ⟨false, n, p3, setS (powG p (i + 1) 1 L), W, by rw [tv_len, hl0]; rfl, .inl h3, hL.grp.allP hset, hL.lk.n1, hL.lk.n16, hset60, hL.grp.box hset, fun H4 p4 s4 n4 h4 => ?_⟩
        have s24 := (s2.trans s3).trans s4
        have hf4 := s24 _ _ hfg
        have h4' : LA H4 p4 (trm n p L (i + 1)) := h4.la
        obtain ⟨ts, ht1, ht2⟩ := id h4'
        refine ⟨.ref p4, rfl, p4, rs ts, rfl, .inl (SqL.of ht1), rfl, _, rfl, ?_⟩
        rw [show decide (V.int ((rs ts).length : Int) = V.int 1) = decide ((rs ts).length = 1) from nv_eq _ 1, rs_len, ht2.len]
        by_cases hz : (trm n p L (i + 1)).length = 1
        · rw [decide_eq_true hz]
          have e9 : rest = [] := by
            rw [wgh, if_pos hz] at hwg
            exact (Option.some.inj hwg).symm
          refine iteT ⟨.ref fa, rfl, q H4 fa (scg.trans s24) nfaH ⟨fs, hf4, ?_⟩⟩
          rw [eW, e9, List.append_nil]
          exact hfsg.same s24
        · rw [decide_eq_false hz]
          rw [wgh, if_neg hz] at hwg
          cases e2 : wgh n p L m (i + 1 + 1) with
          | none => rw [e2] at hwg; cases hwg
          | some r' =>
            rw [e2] at hwg
            have hr' := Option.some.inj hwg
            have p4fa : p4 ≠ fa := fun e => by rw [e, (s2.trans s3) _ _ hfg] at n4; cases n4
            have hfl := hfs.len
            refine iteF ⟨.ref fa, rfl, .inl ⟨rfl, _, SqL.of hf4⟩, .ref p4, rfl, fa, rs fs, .ref p4, rfl, rfl, hf4, by rw [rs_len, hfl, hpre]; exact few (by omega), ?_⟩
            have tl4 := s24 _ _ htg
            refine ⟨pre ++ [trm n p L (i + 1)], r', fs ++ [p4], _, _, _, _, _, _, _, rfl, ?_, ?_, ?_, same_put (scg.trans s24) nfaH, by rw [upd_ne tne]; exact tl4, (hLg.same s24).put hf4 (fun _ z => by cases z) lne, by rw [upd_same, rs_snoc], ?_, ?_⟩
            · rw [eW, ← hr']; simp
            · rw [hm2]; exact e2
            · rw [List.length_append, hpre]; rfl
            · exact ((hfsg.same s24).put hf4 (fun _ z => by cases z) hne).snoc (h4'.put hf4 (fun _ z => by cases z) p4fa)
            · intro c hc
              rcases List.mem_append.mp hc with z | z
              · exact hne c z
              · rw [List.mem_singleton.mp z]; exact p4fa
    · obtain ⟨pre, rest, fs, y4, y5, y6, y7, y8, y9, y10, rfl, eW, hwg, _⟩ := h
      exfalso
      rw [show 39 - ((40 : Int) - 1).toNat = 0 from rfl] at hwg
      cases hwg
end
end Lk
set_option Elab.async false
set_option linter.all false
set_option maxRecDepth 100000
namespace Lk
open PySem PySem.Spec PyProof.Rows L2 GxR
abbrev yBases : Stmt := topS 53
theorem syBases : FnScope ["_law_told", "_law_prime", "_law_found", "_law_given", "_law_long", "_law_turn", "_law_many", "_law_other", "_law_step"] ["_law_told", "_law_prime"] (defScope yBases) := ⟨rfl, rfl, rfl, by decide +kernel, rfl, by decide +kernel, by decide +kernel⟩
/-- what _law_bases hands back -/
inductive BAs (q : Nat) (H : Hp) : List Addr → List Ch → Prop
  | nil : BAs q H [] []
  | cons {p ta : Addr} {ch : Ch} {as : List Addr} {chs : List Ch} : H p = some (.tup [.ref ta, nv (q ^ ch.long), nv ch.given.length]) → TA H ta (bturn ch.given) → BAs q H as chs → BAs q H (p :: as) (ch :: chs)
def BL (q : Nat) (H : Hp) (a : Addr) (chs : List Ch) : Prop := ∃ as, H a = some (.lst (rs as)) ∧ BAs q H as chs
section
variable {q : Nat} {H H' : Hp} {x p a : Addr} {o o' : HO} {as bs : List Addr} {chs dhs : List Ch} {ch : Ch}
theorem BAs.same (s : Same H H') (h : BAs q H as chs) : BAs q H' as chs := by
  induction h with
  | nil => exact .nil
  | cons h1 h2 _ ih => exact .cons (s _ _ h1) (h2.same s) ih
theorem BL.same (s : Same H H') (h : BL q H a chs) : BL q H' a chs := let ⟨as, h1, h2⟩ := h; ⟨as, s _ _ h1, h2.same s⟩
theorem BAs.put (h : BAs q H as chs) (hx : H x = some o) (no : Unit → ¬ IsTp o) : BAs q (upd H x o') as chs := by
  induction h with
  | nil => exact .nil
  | cons h1 h2 _ ih => exact .cons (by rw [upd_ne (ne_of h1 hx fun e => no () (by rw [← e]; trivial))]; exact h1) (h2.put hx no) ih
theorem BAs.len (h : BAs q H as chs) : as.length = chs.length := by
  induction h with
  | nil => rfl
  | cons _ _ _ ih => rw [List.length_cons, List.length_cons, ih]
theorem BAs.append (h : BAs q H as chs) (h' : BAs q H bs dhs) : BAs q H (as ++ bs) (chs ++ dhs) := by
  induction h with
  | nil => exact h'
  | cons h1 h2 _ ih => exact .cons h1 h2 ih
theorem BAs.get (h : BAs q H as chs) {i : Nat} (e : as[i]? = some p) : ∃ ch ta, chs[i]? = some ch ∧ H p = some (.tup [.ref ta, nv (q ^ ch.long), nv ch.given.length]) ∧ TA H ta (bturn ch.given) := by
  induction h generalizing i with
  | nil => simp at e
  | cons h1 h2 _ ih =>
    cases i with
    | zero => simp at e; subst e; exact ⟨_, _, rfl, h1, h2⟩
    | succ i => exact ih (by simpa using e)
end
/-- what is known of the chains -/
def ChK (n p : Nat) (chs : List Ch) : Prop := ∀ ch ∈ chs, ch.given ≠ [] ∧ AllP n ch.given ∧ p ^ ch.long ≤ 1000 ∧ ch.long ≤ 1000 ∧ ch.given.length ≤ 1000
theorem isP_foldswp {n : Nat} : ∀ (r : List Tn) (t : Tn), IsP n t → AllP n r → IsP n (r.foldl swp t)
  | [], _, h, _ => h
  | u :: r, t, h, hr => isP_foldswp r _ (isP_swp h (hr u List.mem_cons_self)) fun x hx => hr x (List.mem_cons_of_mem _ hx)
section
variable {P : Program} {w : World} {K : PySem.W.Frag} {mg : Str → Option Value} {base : Heap}
def spBasesY : Sp := fun vs H Q _ => ∃ (a : Addr) (n p : Nat) (chs : List Ch), vs = [.ref a, nv p] ∧ CT H a chs ∧ ChK n p chs ∧ 1 ≤ p ∧ p ≤ 1000 ∧ n ≤ 60 ∧ chs.length ≤ 3000 ∧ Ret H Q fun H' q => BL p H' q chs
theorem ok_basesY {f : Addr} {fd : FuncData} {k : Nat} (F : Fun K "_law_bases" "_law_bases" yBases f fd) (cW : Cal P w K mg base k "_law_swap" spSwapY) (ml : mg "len" = none) (mr : mg "range" = none) : FnOk P w K mg base CX0 (k + 1) f fd ["_law_told", "_law_prime"] spBasesY := by
  refine F.ok syBases (fun vs H Q E h => ?_) (fun cdv A outer s H vs Q E hr h => ?_)
  · obtain ⟨a, n, p, chs, rfl, _⟩ := h
    rfl
  · obtain ⟨a, n, p, chs, rfl, ⟨as, ha, hC⟩, hK, hp1, hp2, hn, hcl, q⟩ := h
    refine ⟨_, pss_cons (ps_set (i := 2) syBases.nd rfl (.inl rfl) (pe_lst pa_nil))
      (pss_cons (ps_for PassesOwn.never rfl (pi_tup (pv 0)) (pg_tup rfl (pgs_cons (pg_name (i := 3) syBases.nd rfl (.inl rfl)) (pgs_cons (pg_name (i := 4) syBases.nd rfl (.inl rfl)) pgs_nil)))
        (pss_cons (ps_par (i := 5) (j := 6) (by rfl) syBases.nd rfl rfl (by decide) rfl rfl (pa_cons (pe_ix ix_tup (pv 3) pe_int (fun _ _ => rfl)) (pa_cons pe_int pa_nil)) (by rfl))
        (pss_cons (ps_for PassesOwn.never rfl (pi_tup (pe_slice sl_tup (pv 3) (po_some pe_int) po_none)) (pg_name (i := 7) syBases.nd rfl (.inl rfl)) (pss_one (ps_set (i := 5) syBases.nd rfl (.inl rfl) (pe_c cW hr (Nat.le_refl _) (by rfl) (pa_cons (pv 5) (pa_cons (pv 7) pa_nil))))))
        (pss_cons (ps_for PassesOwn.never rfl (pi_range1 rfl mr (pa_cons (pv 4) pa_nil)) (pg_name (i := 8) syBases.nd rfl (.inl rfl)) (pss_one (ps_set (i := 6) syBases.nd rfl (.inl rfl) (pe_op op_mulW (pv 6) (pv 1)))))
        (pss_one (ps_expr (pe_bm PySem.F.plainAttrs_list PySem.F.slot_list_append PySem.F.type_list_append mt_append (pv 2) (pa_cons (pe_tup (pa_cons (pv 5) (pa_cons (pv 6) (pa_cons (pe_callB call_len_seq (by rfl) ml PySem.boot_len (pa_cons (pv 3) pa_nil)) pa_nil)))) pa_nil))))))))
      (pss_one (ps_ret (pv 2)))), ?_⟩
    refine ⟨Nat.zero_le _, fun fa nfa => ?_⟩
    have sF := same_upd (o := .lst []) nfa
    refine ⟨.ref a, rfl, a, rfl, ⟨_, SqT.of (sF _ _ ha)⟩, for_tup (xs := rs as) (fun i σ H' => ∃ y3 y4 y5 y6 y7 y8, σ = [some (.ref a), some (nv p), some (.ref fa), y3, y4, y5, y6, y7, y8] ∧ Same H H' ∧ ∃ bs, H' fa = some (.lst (rs bs)) ∧ BAs p H' bs (chs.take i))
      ⟨_, _, _, _, _, _, rfl, sF, [], upd_same, .nil⟩ (fun i σ H' _ h => ?_) (fun i x σ H' hx h => ?_) (fun σ H' h => ?_)⟩
    · obtain ⟨_, _, _, _, _, _, _, sm, _⟩ := h
      exact SqT.of (sm _ _ ha)
    · obtain ⟨y3, y4, y5, y6, y7, y8, rfl, sm, bs, hfa, hbs⟩ := h
      obtain ⟨pp, hpp, rfl⟩ := rs_get hx
      obtain ⟨ch, ga, hch, hpair, hga⟩ := hC.get hpp
      obtain ⟨k1, k2, k3, k4, k5⟩ := hK ch (List.mem_of_getElem? hch)
      have hil := get_lt hch
      refine ⟨pp, [.ref ga, nv ch.long], rfl, SqT.of (sm _ _ hpair), rfl, .ref ga, [nv ch.long], rfl, nv ch.long, [], rfl, rfl, ?_⟩
      obtain ⟨gs, hg1, hg2⟩ := hga
      have hg1' := sm _ _ hg1
      have hg2' := hg2.same sm
      cases hgv : ch.given with
      | nil => exact absurd hgv k1
      | cons t r =>
        rw [hgv] at hg2' k2 k5
        cases hg2' with
        | @cons ta _ gs' _ hta hr2 =>
          have hP := k2 t List.mem_cons_self
          have hPr : AllP n r := fun x hx => k2 x (List.mem_cons_of_mem _ hx)
          refine ⟨.ref ga, rfl, ga, rs (ta :: gs'), 0, .ref ta, rfl, rfl, SqT.of hg1', atI_nat (j := 0) rfl, .ref ta, .int 1, rfl, ?_⟩
          refine ⟨.ref ga, rfl, 1, rfl, ga, rs (ta :: gs'), rfl, SqT.of hg1', ?_, fun sl nsl => ?_⟩
          · intro hc
            have e := HT.sIx_nat (rs (ta :: gs')).length 0 1
            have e0 := hc.1
            have e3 : HT.sIx (rs (ta :: gs')).length 0 (some 1) = min 1 (rs (ta :: gs')).length := e
            rw [e3] at e0
            rw [rs_len, List.length_cons] at e0
            omega
          have ss := same_upd (o := .tup (cutV (rs (ta :: gs')) (some 1) none)) nsl
          have hsl : (upd H' sl (.tup (cutV (rs (ta :: gs')) (some 1) none))) sl = some (.tup (rs gs')) := by rw [upd_same, cut_tail]; rfl
          have sm2 := sm.trans ss
          have hfa2 := ss _ _ hfa
          have hbs2 := hbs.same ss
          have hta2 := hta.same ss
          have hr3 := hr2.same ss
          have hg12 := ss _ _ hg1'
          generalize upd H' sl (.tup (cutV (rs (ta :: gs')) (some 1) none)) = H2 at *
          refine ⟨sl, rfl, ⟨_, SqT.of hsl⟩, for_tup (xs := rs gs') (fun j σ H3 => ∃ tt y7, σ = [some (.ref a), some (nv p), some (.ref fa), some (.ref ga), some (nv ch.long), some (.ref tt), some (.int 1), y7, y8] ∧ Same H2 H3 ∧ TZ H3 tt ((r.take j).foldl swp t))
            ⟨ta, _, rfl, fun _ _ e => e, hta2⟩ (fun j σ H3 _ h => ?_) (fun j x σ H3 hx3 h => ?_) (fun σ H3 h => ?_)⟩
          · obtain ⟨_, _, _, s3, _⟩ := h
            exact SqT.of (s3 _ _ hsl)
          · obtain ⟨tt, y7, rfl, s3, htt⟩ := h
            obtain ⟨ua, hua, rfl⟩ := rs_get hx3
            obtain ⟨u, hu, hU⟩ := hr3.get hua
            refine ⟨.ref tt, rfl, .ref ua, rfl, true, tt, ua, _, u, n, rfl, htt, hU.same s3, isP_foldswp _ _ hP fun x hx => hPr x (List.mem_of_mem_take hx), hPr u (List.mem_of_getElem? hu), hn, fun H4 p4 s4 n4 h4 => ?_⟩
            refine ⟨p4, _, rfl, s3.trans s4, ?_⟩
            rw [fold_take hu]
            exact h4
          · obtain ⟨tt, y7, rfl, s3, htt⟩ := h
            rw [rs_len, hr3.len, List.take_length] at htt
            refine ⟨nv ch.long, rfl, (ch.long : Int), rfl, by omega, by omega, for_range (lo := 0) (n := ((ch.long : Int)).toNat) (fun j σ H4 => ∃ y8, σ = [some (.ref a), some (nv p), some (.ref fa), some (.ref ga), some (nv ch.long), some (.ref tt), some (nv (p ^ j)), y7, y8] ∧ H3 = H4) ⟨_, rfl, rfl⟩ (fun j σ H4 hj h => ?_) (fun σ H4 h => ?_)⟩
            · obtain ⟨y8, rfl, rfl⟩ := h
              have hle : p ^ j ≤ p ^ ch.long := Nat.pow_le_pow_right hp1 (by omega)
              refine ⟨nv (p ^ j), rfl, nv p, rfl, ((p ^ j : Nat) : Int), (p : Int), rfl, rfl, mulW (by omega) (by omega), some (V.int (0 + (j : Int))), ?_, rfl⟩
              show [some (.ref a), some (nv p), some (.ref fa), some (.ref ga), some (nv ch.long), some (.ref tt), some (V.int (((p ^ j : Nat) : Int) * (p : Int))), y7, some (V.int (0 + (j : Int)))] = _
              rw [Nat.pow_succ, show (V.int (((p ^ j : Nat) : Int) * (p : Int))) = nv (p ^ j * p) from congrArg V.int (Int.natCast_mul _ _).symm]
            · obtain ⟨y8, rfl, rfl⟩ := h
              rw [show ((ch.long : Int)).toNat = ch.long from rfl]
              have hfa3 := s3 _ _ hfa2
              have hg13 := s3 _ _ hg12
              refine ⟨.ref fa, rfl, .inl ⟨rfl, _, SqL.of hfa3⟩, .ref tt, rfl, nv (p ^ ch.long), rfl, .ref ga, rfl, ga, rs (ta :: gs'), rfl, .inr (SqT.of hg13), by show 3 ≤ sizeLine; exact fewe (by decide), fun p5 n5 => ?_⟩
              have s5 := same_upd (o := .tup [.ref tt, nv (p ^ ch.long), .int ((rs (ta :: gs')).length : Int)]) n5
              have hfa5 := s5 _ _ hfa3
              have hp5 : (upd H3 p5 (.tup [.ref tt, nv (p ^ ch.long), .int ((rs (ta :: gs')).length : Int)])) p5 = some (.tup [.ref tt, nv (p ^ ch.long), nv ch.given.length]) := by
                rw [upd_same, rs_len, hgv, List.length_cons, List.length_cons, hr3.len]; rfl
              have htt5 : TA (upd H3 p5 (.tup [.ref tt, nv (p ^ ch.long), .int ((rs (ta :: gs')).length : Int)])) tt (bturn ch.given) := by
                rw [hgv]; exact (htt.same s5).ta
              have hbs5 := (hbs2.same s3).same s5
              have smA := (sm2.trans s3).trans s5
              generalize upd H3 p5 (.tup [.ref tt, nv (p ^ ch.long), .int ((rs (ta :: gs')).length : Int)]) = H5 at *
              have hbl := hbs.len
              rw [List.length_take] at hbl
              refine ⟨fa, rs bs, .ref p5, rfl, rfl, hfa5, ?_, ?_⟩
              · rw [rs_len]; exact Nat.lt_of_le_of_lt (show bs.length ≤ 3000 by omega) (by rw [sizeLine_eq]; decide)
              · refine ⟨_, _, _, _, _, _, rfl, same_put smA nfa, bs ++ [p5], by rw [upd_same, rs_snoc], ?_⟩
                rw [take_succ hch]
                exact (hbs5.put hfa5 fun _ z => by cases z).append (.cons (by rw [upd_ne (ne_of hp5 hfa5 fun z => by cases z)]; exact hp5) (htt5.put hfa5 fun _ z => by cases z) .nil)
    · obtain ⟨y3, y4, y5, y6, y7, y8, rfl, sm, bs, hfa, hbs⟩ := h
      rw [rs_len, hC.len, List.take_length] at hbs
      exact ⟨.ref fa, rfl, q H' fa sm nfa ⟨bs, hfa, hbs⟩⟩
end
end Lk
set_option Elab.async false
set_option linter.all false
set_option maxRecDepth 100000
namespace Lk
open PySem PySem.Spec PyProof.Rows L2 GxR
/-! a written table of locks -/
def tInts : List Nat → L2.TA
  | [] => tNil
  | x :: t => tCons (tC (nv x)) (tInts t)
def tTups : List Tn → L2.TA
  | [] => tNil
  | t :: ts => tCons (tTup (tInts t)) (tTups ts)
theorem rd_ints {σ : L2.St} {H : Hp} : ∀ (t : Tn) {Q : List V → Hp → Prop}, Q (tv t) H → tInts t σ H Q
  | [], _, h => h
  | x :: t, Q, h => rd_ints t (Q := fun r H1 => Q (nv x :: r) H1) h
theorem rd_tups {σ : L2.St} : ∀ (ts : List Tn) {H : Hp} {Q : List V → Hp → Prop}, (∀ t ∈ ts, t.length ≤ 60) → (∀ H' as, Same H H' → TAs H' as ts → Q (rs as) H') → tTups ts σ H Q
  | [], H, Q, _, h => h H [] (fun _ _ e => e) .nil
  | t :: ts, H, Q, hl, h => rd_ints t (Q := fun xs H1 => xs.length ≤ sizeLine ∧ ∀ p, H1 p = none → tTups ts σ (upd H1 p (.tup xs)) fun r H2 => Q (.ref p :: r) H2)
      ⟨by rw [tv_len]; exact fewe (by have := hl t List.mem_cons_self; omega), fun p np => rd_tups ts (fun u hu => hl u (List.mem_cons_of_mem _ hu)) fun H' as s hT => by
        have sp := same_upd (o := .tup (tv t)) np
        have hp : TX (upd H p (.tup (tv t))) p t := upd_same
        exact h H' (p :: as) (sp.trans s) (.cons (hp.same s).ta hT)⟩
abbrev KE2 := Str × List Tn
def tTab (L : List KE2) : List (TE × TE) := L.map fun e => (tC (.str e.1), tTup (tTups e.2))
inductive KAs (H : Hp) : List Addr → List KE2 → Prop
  | nil : KAs H [] []
  | cons {q : Addr} {k : Str} {ts : List Tn} {qs : List Addr} {L : List KE2} : UA H q ts → KAs H qs L → KAs H (q :: qs) ((k, ts) :: L)
theorem KAs.same {H H' : Hp} {qs : List Addr} {L : List KE2} (s : Same H H') (h : KAs H qs L) : KAs H' qs L := by
  induction h with
  | nil => exact .nil
  | cons h _ ih => exact .cons (h.same s) ih
def kvT (L : List KE2) (qs : List Addr) : List (L2.Key × V) := (L.zip qs).map fun e => (.inr e.1.1, .ref e.2)
theorem rd_tab {σ : L2.St} : ∀ (L : List KE2) {H : Hp} {Q : List (V × V) → Hp → Prop}, (∀ e ∈ L, e.2.length ≤ 60 ∧ ∀ t ∈ e.2, t.length ≤ 60) → (∀ H' qs, Same H H' → KAs H' qs L → Q ((kvT L qs).map fun kv => (kV kv.1, kv.2)) H') → tPairs (tTab L) σ H Q
  | [], H, Q, _, h => h H [] (fun _ _ e => e) .nil
  | (k, ts) :: L, H, Q, hl, h => rd_tups ts (Q := fun xs H1 => xs.length ≤ sizeLine ∧ ∀ p, H1 p = none → tPairs (tTab L) σ (upd H1 p (.tup xs)) fun ps H2 => Q ((.str k, .ref p) :: ps) H2) (hl (k, ts) List.mem_cons_self).2
      fun H1 as s1 hT => ⟨by rw [rs_len, hT.len]; exact fewe (by have h9 : ts.length ≤ 60 := (hl (k, ts) List.mem_cons_self).1; omega), fun p np => rd_tab L (fun e he => hl e (List.mem_cons_of_mem _ he)) fun H' qs s hK => by
        have sp := same_upd (o := .tup (rs as)) np
        have hp : UA (upd H1 p (.tup (rs as))) p ts := ⟨as, upd_same, hT.same sp⟩
        exact h H' (p :: qs) ((s1.trans sp).trans s) (.cons (hp.same s) hK)⟩
theorem mergeK_new : ∀ (more acc : List (L2.Key × V)), ((acc ++ more).map (·.1)).Nodup → mergeK acc more = acc ++ more
  | [], acc, _ => by rw [List.append_nil]; rfl
  | (k, v) :: r, acc, h => by
    have hn : valV acc k = none := by
      have h1 : k ∉ acc.map (·.1) := fun hm => by
        rw [List.map_append, List.nodup_append] at h
        exact h.2.2 k hm k (by simp) rfl
      clear h
      induction acc with
      | nil => rfl
      | cons x acc ih =>
        rw [List.map_cons, List.mem_cons, not_or] at h1
        obtain ⟨x1, x2⟩ := x
        rw [valV_neg fun e => h1.1 e.symm]
        exact ih h1.2
    show mergeK (putK acc k v) r = _
    rw [putK_new _ hn, mergeK_new r (acc ++ [(k, v)]) (by rw [List.append_assoc]; exact h), List.append_assoc]
    rfl
theorem kvT_keys {H : Hp} {qs : List Addr} {L : List KE2} (h : KAs H qs L) : (kvT L qs).map (·.1) = L.map fun e => (Sum.inr e.1 : L2.Key) := by
  induction h with
  | nil => rfl
  | cons _ _ ih => unfold kvT at ih ⊢; rw [List.zip_cons_cons, List.map_cons, List.map_cons, List.map_cons, ih]
theorem kvT_get {H : Hp} {qs : List Addr} {L : List KE2} (h : KAs H qs L) (nd : (L.map (·.1)).Nodup) {k : Str} {ts : List Tn} (hm : (k, ts) ∈ L) : ∃ q, valV (kvT L qs) (.inr k) = some (.ref q) ∧ UA H q ts := by
  induction h with
  | nil => exact absurd hm List.not_mem_nil
  | @cons q k' ts' qs L hq hK ih =>
    rw [List.map_cons] at nd
    obtain ⟨n1, n2⟩ := List.nodup_cons.mp nd
    rcases List.mem_cons.mp hm with z | z
    · cases z
      exact ⟨q, valV_pos rfl, hq⟩
    · obtain ⟨q', g1, g2⟩ := ih n2 z
      refine ⟨q', ?_, g2⟩
      have hne : (Sum.inr k' : L2.Key) ≠ .inr k := fun e => n1 (by
        have e' : k' = k := Sum.inr.inj e
        rw [e']; exact List.mem_map.mpr ⟨(k, ts), z, rfl⟩)
      unfold kvT at g1 ⊢
      rw [List.zip_cons_cons, List.map_cons, valV_neg hne]
      exact g1
end Lk
set_option Elab.async false
set_option linter.all false
set_option maxRecDepth 100000
namespace Lk
open PySem PySem.Spec PyProof.Rows L2 GxR
def tabL : List KE2 := [(("four" : Str), [[1, 2, 3, 0]]),
  (("klein" : Str), [[1, 0, 3, 2], [2, 3, 0, 1]]),
  (("square" : Str), [[1, 2, 3, 0], [3, 2, 1, 0]]),
  (("cube" : Str), [[1, 0, 2, 3, 4, 5], [0, 1, 3, 2, 4, 5], [0, 1, 2, 3, 5, 4]]),
  (("eight" : Str), [[1, 2, 3, 4, 5, 6, 7, 0]]),
  (("nine" : Str), [[1, 2, 3, 4, 5, 6, 7, 8, 0]]),
  (("quaternions" : Str), [[1, 2, 3, 0, 5, 6, 7, 4], [4, 7, 6, 5, 2, 1, 0, 3]]),
  (("threes" : Str), [[1, 2, 0, 3, 4, 5], [0, 1, 2, 4, 5, 3]]),
  (("three" : Str), [[1, 2, 0], [1, 0, 2]]),
  (("tetra" : Str), [[1, 2, 0, 3], [1, 0, 3, 2]]),
  (("six" : Str), [[1, 2, 0, 3, 4], [0, 1, 2, 4, 3]]),
  (("heis" : Str), [[3, 4, 5, 6, 7, 8, 0, 1, 2], [0, 1, 2, 4, 5, 3, 8, 6, 7]]),
  (("five" : Str), [[1, 2, 3, 4, 0], [1, 2, 0, 3, 4]]),
  (("whole" : Str), [[1, 2, 3, 0], [1, 0, 2, 3]]),
  (("ten" : Str), [[1, 2, 3, 4, 0], [0, 4, 3, 2, 1]])]
/-- what is known of a lock that the law makes -/
structure GL (n : Nat) (lock W : List Tn) : Prop where
  good : Good n lock W
  n2 : 2 ≤ n
  n9 : n ≤ 9
  l1 : lock ≠ []
  l4 : lock.length ≤ 4
theorem GL.cnj {n : Nat} {lock W : List Tn} {o : Tn} (g : GL n lock W) (ho : IsP n o) : GL n (lock.map (cnj o)) (cS o W) :=
  ⟨Good.cnj (by have := g.n9; omega) ho g.good, g.n2, g.n9, fun e => g.l1 (List.map_eq_nil_iff.mp e), by rw [List.length_map]; exact g.l4⟩
/-- the kinds that the law picks -/
def KindOk (k : Str) : Prop := ∃ n lock W, (k, lock) ∈ tabL ∧ GL n lock W
/-- a turn with its places called otherwise, place by place -/
def cnN (o t : Tn) : Nat → Tn
  | 0 => List.replicate t.length 0
  | j + 1 => (cnN o t j).set (o.getD j 0) (o.getD (t.getD j 0) 0)
theorem cnN_len (o t : Tn) : ∀ j, (cnN o t j).length = t.length
  | 0 => List.length_replicate
  | j + 1 => by rw [cnN, List.length_set, cnN_len o t j]
theorem cnN_get {n : Nat} {o t : Tn} (ho : IsP n o) (h : IsP n t) : ∀ i, i ≤ n → ∀ p, p < i → (cnN o t i).getD (o.getD p 0) 0 = o.getD (t.getD p 0) 0
  | 0, _, p, hp => absurd hp (Nat.not_lt_zero _)
  | i + 1, hi, p, hp => by
    rw [cnN, getD_set (by rw [cnN_len, h.len]; exact ho.get (by omega))]
    by_cases e : p = i
    · rw [e, if_pos rfl]
    · rw [if_neg fun q => e (ho.inj (by omega) (by omega) q)]
      exact cnN_get ho h i (by omega) p (by omega)
theorem cnN_all {n : Nat} {o t : Tn} (ho : IsP n o) (h : IsP n t) : cnN o t n = cnj o t := by
  have hc : IsP n (cnj o t) := isP_beh (isP_beh (isP_bck ho) h) ho
  refine ext_getD (by rw [cnN_len, h.len, hc.len]) fun q hq => ?_
  rw [cnN_len, h.len] at hq
  have hm := ho.surj hq
  have hi := idx_lt hm
  rw [ho.len] at hi
  have e1 := cnN_get ho h n (Nat.le_refl _) (o.idxOf q) hi
  have e2 := cnj_at ho h hi
  rw [get_idx hm] at e1 e2
  rw [e1, e2]
theorem KAs.put {H : Hp} {x : Addr} {o o' : HO} {qs : List Addr} {L : List KE2} (h : KAs H qs L) (hx : H x = some o) (no : Unit → ¬ IsTp o) : KAs (upd H x o') qs L := by
  induction h with
  | nil => exact .nil
  | cons h _ ih => exact .cons (h.put hx no) ih
theorem Kr.tk {K : PySem.W.Frag} {r z : Addr} {H H' : Hp} (k : Kr r H H') (h : RowA K z H r) : TK H H' := fun b u ip e => k b u (fun e2 => by
  obtain ⟨xs, h2⟩ := h.at
  rw [e2, h2] at e; cases e; exact ip) e
abbrev yKnown : Stmt := topS 46
abbrev yLock : Stmt := topS 47
theorem syKnown : FnScope ["_law_row", "_law_kinds", "_law_locks", "_law_lock_here", "_law_order", "_law_found", "_law_turn", "_law_named", "_law_place", "_law_comes"] ["_law_row", "_law_kinds"] (defScope yKnown) := ⟨rfl, rfl, rfl, by decide +kernel, rfl, by decide +kernel, by decide +kernel⟩
theorem syLock : FnScope ["_law_row", "_law_kinds", "_law_places", "_law_turn"] ["_law_row", "_law_kinds"] (defScope yLock) := ⟨rfl, rfl, rfl, by decide +kernel, rfl, by decide +kernel, by decide +kernel⟩
theorem tabL_small : ∀ e ∈ tabL, e.2.length ≤ 60 ∧ ∀ t ∈ e.2, t.length ≤ 60 := by decide +kernel
theorem tabL_nodup : (tabL.map (·.1)).Nodup := by decide +kernel
section
variable {P : Program} {w : World} {K : PySem.W.Frag} {mg : Str → Option Value} {base : Heap}
def spKnown (K : PySem.W.Frag) : Sp := fun vs H Q _ => ∃ (r z t : Addr) (kn : List Str), vs = [.ref r, .ref t] ∧ RowA K z H r ∧ H t = some (.lst (kn.map V.str)) ∧ t ≠ r ∧ 1 ≤ kn.length ∧ kn.length ≤ 1000 ∧ (∀ k ∈ kn, KindOk k) ∧
  ∀ H' q n lock W, Kr r H H' → RowA K z H' r → H q = none → q ≠ r → GL n lock W → LockA H' q n lock → Q (.ref q) H'
theorem ok_known {f : Addr} {fd : FuncData} {k : Nat} (F : Fun K "_law_known" "_law_known" yKnown f fd) (cK : Cal P w K mg base k "_law_pick" (spPick K)) (cP : Cal P w K mg base k "_law_permutation" (spPerm K)) (ml : mg "len" = none) (mn : mg "enumerate" = none) (mt : mg "tuple" = none) :
    FnOk P w K mg base CX0 (k + 1) f fd ["_law_row", "_law_kinds"] (spKnown K) := by
  refine F.ok syKnown (fun vs H Q E h => ?_) (fun cdv A outer s H vs Q E hr h => ?_)
  · obtain ⟨r, z, t, kn, rfl, _⟩ := h
    rfl
  · obtain ⟨r, z, t, kn, rfl, hR, ht, ntr, hk1, hk2, hkn, q⟩ := h
    have hu : A.units + 3 + 1 < cLine := by have := hr.un; have e : (A.deeper (envOfC "_law_known" (defScope yKnown) s.heap.objs.size f cdv)).units = A.units + 3 := rfl; omega
    refine ⟨_, pss_cons (ps_set (i := 2) syKnown.nd rfl (.inl rfl) (pe_disp (trs := tTab tabL) (pps_cons pe_str (pe_tup (pa_cons (pe_tup (pa_cons pe_int (pa_cons pe_int (pa_cons pe_int (pa_cons pe_int pa_nil))))) pa_nil)) (pps_cons pe_str (pe_tup (pa_cons (pe_tup (pa_cons pe_int (pa_cons pe_int (pa_cons pe_int (pa_cons pe_int pa_nil))))) (pa_cons (pe_tup (pa_cons pe_int (pa_cons pe_int (pa_cons pe_int (pa_cons pe_int pa_nil))))) pa_nil))) (pps_cons pe_str (pe_tup (pa_cons (pe_tup (pa_cons pe_int (pa_cons pe_int (pa_cons pe_int (pa_cons pe_int pa_nil))))) (pa_cons (pe_tup (pa_cons pe_int (pa_cons pe_int (pa_cons pe_int (pa_cons pe_int pa_nil))))) pa_nil))) (pps_cons pe_str (pe_tup (pa_cons (pe_tup (pa_cons pe_int (pa_cons pe_int (pa_cons pe_int (pa_cons pe_int (pa_cons pe_int (pa_cons pe_int pa_nil))))))) (pa_cons (pe_tup (pa_cons pe_int (pa_cons pe_int (pa_cons pe_int (pa_cons pe_int (pa_cons pe_int (pa_cons pe_int pa_nil))))))) (pa_cons (pe_tup (pa_cons pe_int (pa_cons pe_int (pa_cons pe_int (pa_cons pe_int (pa_cons pe_int (pa_cons pe_int pa_nil))))))) pa_nil)))) (pps_cons pe_str (pe_tup (pa_cons (pe_tup (pa_cons pe_int (pa_cons pe_int (pa_cons pe_int (pa_cons pe_int (pa_cons pe_int (pa_cons pe_int (pa_cons pe_int (pa_cons pe_int pa_nil))))))))) pa_nil)) (pps_cons pe_str (pe_tup (pa_cons (pe_tup (pa_cons pe_int (pa_cons pe_int (pa_cons pe_int (pa_cons pe_int (pa_cons pe_int (pa_cons pe_int (pa_cons pe_int (pa_cons pe_int (pa_cons pe_int pa_nil)))))))))) pa_nil)) (pps_cons pe_str (pe_tup (pa_cons (pe_tup (pa_cons pe_int (pa_cons pe_int (pa_cons pe_int (pa_cons pe_int (pa_cons pe_int (pa_cons pe_int (pa_cons pe_int (pa_cons pe_int pa_nil))))))))) (pa_cons (pe_tup (pa_cons pe_int (pa_cons pe_int (pa_cons pe_int (pa_cons pe_int (pa_cons pe_int (pa_cons pe_int (pa_cons pe_int (pa_cons pe_int pa_nil))))))))) pa_nil))) (pps_cons pe_str (pe_tup (pa_cons (pe_tup (pa_cons pe_int (pa_cons pe_int (pa_cons pe_int (pa_cons pe_int (pa_cons pe_int (pa_cons pe_int pa_nil))))))) (pa_cons (pe_tup (pa_cons pe_int (pa_cons pe_int (pa_cons pe_int (pa_cons pe_int (pa_cons pe_int (pa_cons pe_int pa_nil))))))) pa_nil))) (pps_cons pe_str (pe_tup (pa_cons (pe_tup (pa_cons pe_int (pa_cons pe_int (pa_cons pe_int pa_nil)))) (pa_cons (pe_tup (pa_cons pe_int (pa_cons pe_int (pa_cons pe_int pa_nil)))) pa_nil))) (pps_cons pe_str (pe_tup (pa_cons (pe_tup (pa_cons pe_int (pa_cons pe_int (pa_cons pe_int (pa_cons pe_int pa_nil))))) (pa_cons (pe_tup (pa_cons pe_int (pa_cons pe_int (pa_cons pe_int (pa_cons pe_int pa_nil))))) pa_nil))) (pps_cons pe_str (pe_tup (pa_cons (pe_tup (pa_cons pe_int (pa_cons pe_int (pa_cons pe_int (pa_cons pe_int (pa_cons pe_int pa_nil)))))) (pa_cons (pe_tup (pa_cons pe_int (pa_cons pe_int (pa_cons pe_int (pa_cons pe_int (pa_cons pe_int pa_nil)))))) pa_nil))) (pps_cons pe_str (pe_tup (pa_cons (pe_tup (pa_cons pe_int (pa_cons pe_int (pa_cons pe_int (pa_cons pe_int (pa_cons pe_int (pa_cons pe_int (pa_cons pe_int (pa_cons pe_int (pa_cons pe_int pa_nil)))))))))) (pa_cons (pe_tup (pa_cons pe_int (pa_cons pe_int (pa_cons pe_int (pa_cons pe_int (pa_cons pe_int (pa_cons pe_int (pa_cons pe_int (pa_cons pe_int (pa_cons pe_int pa_nil)))))))))) pa_nil))) (pps_cons pe_str (pe_tup (pa_cons (pe_tup (pa_cons pe_int (pa_cons pe_int (pa_cons pe_int (pa_cons pe_int (pa_cons pe_int pa_nil)))))) (pa_cons (pe_tup (pa_cons pe_int (pa_cons pe_int (pa_cons pe_int (pa_cons pe_int (pa_cons pe_int pa_nil)))))) pa_nil))) (pps_cons pe_str (pe_tup (pa_cons (pe_tup (pa_cons pe_int (pa_cons pe_int (pa_cons pe_int (pa_cons pe_int pa_nil))))) (pa_cons (pe_tup (pa_cons pe_int (pa_cons pe_int (pa_cons pe_int (pa_cons pe_int pa_nil))))) pa_nil))) (pps_cons pe_str (pe_tup (pa_cons (pe_tup (pa_cons pe_int (pa_cons pe_int (pa_cons pe_int (pa_cons pe_int (pa_cons pe_int pa_nil)))))) (pa_cons (pe_tup (pa_cons pe_int (pa_cons pe_int (pa_cons pe_int (pa_cons pe_int (pa_cons pe_int pa_nil)))))) pa_nil))) pps_nil))))))))))))))) (by decide) (by decide) (by simp) (by decide)))
      (pss_cons (ps_set (i := 3) syKnown.nd rfl (.inl rfl) (pe_dget hu (pv 2) (pe_c cK hr (Nat.le_refl _) (by rfl) (pa_cons (pv 0) (pa_cons (pv 1) pa_nil))) (fun _ _ => rfl)))
      (pss_cons (ps_set (i := 4) syKnown.nd rfl (.inl rfl) (pe_c cP hr (Nat.le_refl _) (by rfl) (pa_cons (pv 0) (pa_cons (pe_callB call_len_seq (by rfl) ml PySem.boot_len (pa_cons (pe_ix ix_tup (pv 3) pe_int (fun _ _ => rfl)) pa_nil)) pa_nil))))
      (pss_cons (ps_set (i := 5) syKnown.nd rfl (.inl rfl) (pe_lst pa_nil))
      (pss_cons (ps_for PassesOwn.never rfl (pi_tup (pv 3)) (pg_name (i := 6) syKnown.nd rfl (.inl rfl))
        (pss_cons (ps_set (i := 7) syKnown.nd rfl (.inl rfl) (pe_op op_rep (pe_lst (pa_cons pe_int pa_nil)) (pe_callB call_len_seq (by rfl) ml PySem.boot_len (pa_cons (pv 6) pa_nil))))
        (pss_cons (ps_for PassesOwn.never rfl (pi_enumT (by rfl) mn (pa_cons (pv 6) pa_nil)) (pg_tup rfl (pgs_cons (pg_name (i := 8) syKnown.nd rfl (.inl rfl)) (pgs_cons (pg_name (i := 9) syKnown.nd rfl (.inl rfl)) pgs_nil)))
          (pss_one (ps_asg (pe_ix ix_tup (pv 4) (pv 9) (fun _ _ => rfl)) (pg_sub (pv 7) (pe_ix ix_tup (pv 4) (pv 8) (fun _ _ => rfl)) set_list))))
        (pss_one (ps_expr (pe_bm PySem.F.plainAttrs_list PySem.F.slot_list_append PySem.F.type_list_append mt_append (pv 5) (pa_cons (pe_tupleOf2 (by rfl) mt (pv 7)) pa_nil)))))))
      (pss_one (ps_ret (pe_tupleOf (by rfl) mt (pv 5)))))))), ?_⟩
    refine fun d nd => rd_tab tabL tabL_small fun H1 qs s1 hK1 => ⟨s1 _ _ upd_same, kvT tabL qs, rfl, ?_, ?_⟩
    · unfold kvT
      rw [List.length_map, List.length_zip]
      exact Nat.le_trans (Nat.min_le_left _ _) (by decide +kernel)
    have hmk : mergeK [] (kvT tabL qs) = kvT tabL qs := by
      have hnd : ((kvT tabL qs).map (·.1)).Nodup := by
        rw [kvT_keys hK1]
        have h9 : tabL.map (fun e => (Sum.inr e.1 : L2.Key)) = (tabL.map (·.1)).map Sum.inr := by rw [List.map_map]; rfl
        rw [h9]
        exact List.pairwise_map.mpr (List.Pairwise.imp (fun {a b} (hne : a ≠ b) e => hne (Sum.inr.inj e)) tabL_nodup)
      rw [mergeK_new _ [] (by rw [List.nil_append]; exact hnd), List.nil_append]
    rw [hmk]
    have sd := same_upd (o := .dK []) nd
    have hd1 : H1 d = some (.dK []) := s1 _ _ upd_same
    have s2 : Same H (upd H1 d (.dK (kvT tabL qs))) := same_put (sd.trans s1) nd
    have hd2 : (upd H1 d (.dK (kvT tabL qs))) d = some (.dK (kvT tabL qs)) := upd_same
    have hK2 : KAs (upd H1 d (.dK (kvT tabL qs))) qs tabL := hK1.put hd1 fun _ z => by cases z
    have dr := hR.lt nd
    generalize upd H1 d (.dK (kvT tabL qs)) = H2 at *
    have hR2 := hR.same s2
    refine ⟨.ref d, rfl, .ref r, rfl, .ref t, rfl, r, z, t, kn.map V.str, rfl, hR2, s2 _ _ ht, ntr, by rw [List.length_map]; exact hk1, by rw [List.length_map]; exact hk2, fun H3 v k3 hR3 hv => ?_⟩
    obtain ⟨kx, hkx, rfl⟩ := List.mem_map.mp hv
    obtain ⟨n, lock, W, hm, gl⟩ := hkn kx hkx
    obtain ⟨q0, hq0, hU2⟩ := kvT_get hK2 tabL_nodup hm
    have hU3 := (k3.tk hR2).ua hU2
    have g3 : DGet H3 d (.str kx) (some (.ref q0)) := by rw [← hq0]; exact DGet.k (k := .inr kx) (k3 _ _ dr hd2)
    refine ⟨d, .ref q0, rfl, g3, ?_⟩
    obtain ⟨as, hq1, hT⟩ := hU3
    have hP := gl.good.lk
    obtain ⟨a0, t0, h0, hA0, hl0⟩ : ∃ a0 t0, atI (rs as) 0 = some (.ref a0) ∧ TA H3 a0 t0 ∧ t0.length = n := by
      cases hT with
      | nil => exact absurd rfl gl.l1
      | @cons a0 t0 as' ts h3 h4 => exact ⟨a0, t0, atI_nat (j := 0) rfl, h3, (hP t0 List.mem_cons_self).len⟩
    have hn9 := gl.n9
    refine ⟨.ref r, rfl, .ref q0, rfl, q0, rs as, 0, .ref a0, rfl, rfl, SqT.of hq1, h0, a0, tv t0, rfl, .inr (sqA hA0), r, z, n, by rw [tv_len, hl0]; rfl, hR3, by omega, fun H4 op o k4 hR4 nop opr hO isO => ?_⟩
    have tk4 := k4.tk hR3
    have hq4 := tk4 q0 (.tup (rs as)) trivial hq1
    have hT4 := tk4.tas hT
    have kH4 : Kr r H H4 := (Kr.of s2).trans (k3.trans k4)
    refine ⟨Nat.zero_le _, fun fa nfa => ?_⟩
    have sf := same_upd (o := .lst []) nfa
    have nfaH := kH4.free hR4 nfa
    have far := hR4.lt nfa
    have hlk4 := gl.l4
    refine ⟨.ref q0, rfl, q0, rfl, ⟨_, SqT.of (sf _ _ hq4)⟩, for_tup (xs := rs as) (fun i σ H' => ∃ y6 y7 y8 y9, σ = [some (.ref r), some (.ref t), some (.ref d), some (.ref q0), some (.ref op), some (.ref fa), y6, y7, y8, y9] ∧ Same H4 H' ∧ ∃ fs, H' fa = some (.lst (rs fs)) ∧ TZs H' fs ((lock.take i).map (cnj o)))
      ⟨_, _, _, _, rfl, sf, [], upd_same, .nil⟩ (fun i σ H' _ h => ?_) (fun i x σ H' hx h => ?_) (fun σ H' h => ?_)⟩
    · obtain ⟨_, _, _, _, _, sm, _⟩ := h
      exact SqT.of (sm _ _ hq4)
    · obtain ⟨y6, y7, y8, y9, rfl, sm, fs, hf, hfs⟩ := h
      obtain ⟨ta, hta, rfl⟩ := rs_get hx
      obtain ⟨u, hu, hU⟩ := hT4.get hta
      have hPu := hP u (List.mem_of_getElem? hu)
      have hil := get_lt hu
      have hU' := hU.same sm
      refine ⟨fewe (by simp), fun l nl => ?_⟩
      have s5 := same_upd (o := .lst [.int 0]) nl
      refine ⟨.ref ta, rfl, ta, _, rfl, .inr (sqA (hU'.same s5)), l, (u.length : Int), _, rfl, by rw [tv_len], upd_same, by rw [hPu.len]; omega, by rw [hPu.len]; omega, by rw [hPu.len]; exact fewe (by simp; omega), fun D nD => ?_⟩
      have sD := same_put (o := .lst (List.replicate ((u.length : Int)).toNat [V.int 0]).flatten) s5 (s5.free nD)
      have smD := sm.trans sD
      have hD0 : (upd (upd H' l (.lst [.int 0])) D (.lst (List.replicate ((u.length : Int)).toNat [V.int 0]).flatten)) D = some (.lst (tv (cnN o u 0))) := by
        rw [upd_same, show ((u.length : Int)).toNat = u.length from rfl]
        have : (List.replicate u.length [V.int 0]).flatten = tv (cnN o u 0) := by
          unfold cnN tv
          rw [List.map_replicate]
          generalize u.length = m
          induction m with
          | zero => rfl
          | succ m ih => rw [List.replicate_succ, List.flatten_cons, ih, List.replicate_succ]; rfl
        rw [this]
      have hfD := sD _ _ hf
      have hfsD := hfs.same sD
      have Df : D ≠ fa := fun e => by rw [e, s5 _ _ hf] at nD; cases nD
      have nD4 := sm.free (s5.free nD)
      generalize (upd (upd H' l (.lst [.int 0])) D (.lst (List.replicate ((u.length : Int)).toNat [V.int 0]).flatten)) = H5 at *
      have hUD := hU.same smD
      refine ⟨.ref ta, rfl, ta, tv u, rfl, sqA hUD, for_enumT (xs := tv u) (fun j σ H6 => ∃ y8 y9, σ = [some (.ref r), some (.ref t), some (.ref d), some (.ref q0), some (.ref op), some (.ref fa), some (.ref ta), some (.ref D), y8, y9] ∧ Same H4 H6 ∧ H6 D = some (.lst (tv (cnN o u j))) ∧ H6 fa = some (.lst (rs fs)) ∧ TZs H6 fs ((lock.take i).map (cnj o)))
        ⟨_, _, rfl, smD, hD0, hfD, hfsD⟩ (fun j σ H6 _ h => ?_) (fun j x σ H6 T hx6 h nT => ?_) (fun σ H6 h => ?_)⟩
      · obtain ⟨_, _, _, s6, _⟩ := h
        exact sqA (hU.same s6)
      · obtain ⟨y8, y9, rfl, s6, hD6, hf6, hfs6⟩ := h
        obtain ⟨c, hc, rfl⟩ := tv_get hx6
        have sT := same_upd (o := .tup [V.int (j : Nat), nv c]) nT
        have s7 := s6.trans sT
        have hD7 := sT _ _ hD6
        have hf7 := sT _ _ hf6
        have hfs7 := hfs6.same sT
        have hO7 := hO.same s7
        have hjl : j < n := by rw [← hPu.len]; exact get_lt hc
        have hcl : c < n := hPu.lt c (List.mem_of_getElem? hc)
        have hoc : (tv o)[c]? = some (nv (o.getD c 0)) := tv_of (by rw [List.getD_eq_getElem?_getD, List.getElem?_eq_getElem (by rw [isO.len]; exact hcl)]; rfl)
        have hoj : (tv o)[j]? = some (nv (o.getD j 0)) := tv_of (by rw [List.getD_eq_getElem?_getD, List.getElem?_eq_getElem (by rw [isO.len]; exact hjl)]; rfl)
        refine ⟨T, [V.int (j : Nat), nv c], rfl, SqT.of upd_same, rfl, V.int (j : Nat), [nv c], rfl, nv c, [], rfl, rfl, ?_⟩
        refine ⟨.ref op, rfl, nv c, rfl, op, tv o, (c : Int), nv (o.getD c 0), rfl, rfl, sqA hO7.ta, atI_nat hoc, ?_⟩
        refine ⟨.ref D, rfl, .ref op, rfl, nv j, rfl, op, tv o, (j : Int), nv (o.getD j 0), rfl, rfl, sqA hO7.ta, atI_nat hoj, D, _, ((o.getD j 0 : Nat) : Int), o.getD j 0, rfl, rfl, hD7, by rw [tv_len, cnN_len, hPu.len]; exact ixN_nat (isO.get hjl), some (V.int (j : Nat)), some (nv c), rfl, ?_, ?_, ?_, ?_⟩
        · exact same_put s7 nD4
        · rw [upd_same, tv_set]
          have e : u.getD j 0 = c := by rw [List.getD_eq_getElem?_getD, hc]; rfl
          rw [cnN, e]
        · rw [upd_ne Df.symm]; exact hf7
        · exact hfs7.put hD7 fun _ z => by cases z
      · obtain ⟨y8, y9, rfl, s6, hD6, hf6, hfs6⟩ := h
        rw [tv_len, hPu.len, cnN_all isO hPu] at hD6
        refine ⟨.ref fa, rfl, .inl ⟨rfl, _, SqL.of hf6⟩, .ref D, rfl, D, _, rfl, SqL.of hD6, .inr fun p ho' dn np => ?_⟩
        have sp := same_upd (o := .frz ho' (.tup (tv (cnj o u)))) np
        have hf8 := sp _ _ hf6
        have hz : TZ (upd H6 p (.frz ho' (.tup (tv (cnj o u))))) p (cnj o u) := ⟨ho', dn, upd_same⟩
        have fl := hfs6.len
        rw [List.length_map, List.length_take] at fl
        refine ⟨fa, rs fs, .ref p, rfl, rfl, hf8, by rw [rs_len]; exact few (by omega), _, _, _, _, rfl, same_put (s6.trans sp) nfa, fs ++ [p], by rw [upd_same, rs_snoc], ?_⟩
        rw [take_succ hu, List.map_append]
        exact ((hfs6.same sp).put hf8 fun _ z => by cases z).snoc (hz.put hf8 fun _ z => by cases z)
    · obtain ⟨y6, y7, y8, y9, rfl, sm, fs, hf, hfs⟩ := h
      rw [rs_len, hT4.len, List.take_length] at hfs
      refine ⟨.ref fa, rfl, .inl ⟨fa, _, rfl, SqL.of hf, fun p np => ?_⟩⟩
      have sp := same_upd (o := .tup (rs fs)) np
      have kE := kH4.same (sm.trans sp)
      have hRE := hR4.same (sm.trans sp)
      have gl2 := gl.cnj isO
      exact q _ p n (lock.map (cnj o)) (cS o W) kE hRE ((kH4.same sm).free (hR4.same sm) np) ((hR4.same sm).lt np) gl2
        ⟨⟨fs, upd_same, hfs.same sp⟩, gl2.l1, gl2.good.lk, by have := gl.n2; omega, by omega⟩
end
end Lk
set_option Elab.async false
set_option linter.all false
set_option maxRecDepth 100000
namespace Lk
open PySem PySem.Spec PyProof.Rows L2 GxR
theorem Kr.putH {r a : Addr} {H H1 : Hp} {o : HO} (k : Kr r H H1) (n : H a = none) : Kr r H (upd H1 a o) := fun b x h e => by rw [upd_ne (ne_of_none e n)]; exact k b x h e
theorem gl_of {n : Nat} {ts : List Tn} (h2 : 2 ≤ n) (h4 : n ≤ 4) (hP : AllP n ts) (hl : ts.length = 1 ∨ ts.length = 2) : ∃ W, GL n ts W := by
  match ts, hl, hP with
  | [a], _, hP =>
    obtain ⟨W, g⟩ := good_one h2 h4 (hP a List.mem_cons_self)
    exact ⟨W, g, h2, by omega, by simp, by simp⟩
  | [a, b], _, hP =>
    obtain ⟨W, g⟩ := good_two h2 h4 (hP a List.mem_cons_self) (hP b (List.mem_cons_of_mem _ List.mem_cons_self))
    exact ⟨W, g, h2, by omega, by simp, by simp⟩
  | [], hl, _ => simp at hl
  | _ :: _ :: _ :: _, hl, _ => simp at hl
section
variable {P : Program} {w : World} {K : PySem.W.Frag} {mg : Str → Option Value} {base : Heap}
theorem ok_lockY {f : Addr} {fd : FuncData} {k : Nat} (F : Fun K "_law_lock" "_law_lock" yLock f fd) (cT : Cal P w K mg base k "_law_taken" (spTaken K)) (cK : Cal P w K mg base k "_law_known" (spKnown K)) (cP : Cal P w K mg base k "_law_permutation" (spPerm K)) (mr : mg "range" = none) (mt : mg "tuple" = none) :
    FnOk P w K mg base CX0 (k + 1) f fd ["_law_row", "_law_kinds"] (spKnown K) := by
  refine F.ok syLock (fun vs H Q E h => ?_) (fun cdv A outer s H vs Q E hr h => ?_)
  · obtain ⟨r, z, t, kn, rfl, _⟩ := h
    rfl
  · obtain ⟨r, z, t, kn, rfl, hR, ht, ntr, hk1, hk2, hkn, q⟩ := h
    refine ⟨_, pss_cons (ps_if (pt_cmpR op_gt (pe_c cT hr (Nat.le_refl _) (by rfl) (pa_cons (pv 0) (pa_cons pe_int pa_nil))) pe_int (nomark _)) (pss_one (ps_ret (pe_c cK hr (Nat.le_refl _) (by rfl) (pa_cons (pv 0) (pa_cons (pv 1) pa_nil))))) pss_nil)
      (pss_cons (ps_set (i := 2) syLock.nd rfl (.inr rfl) (pe_op op_add pe_int (pe_c cT hr (Nat.le_refl _) (by rfl) (pa_cons (pv 0) (pa_cons pe_int pa_nil)))))
      (pss_one (ps_ret (pe_tupleOf (by rfl) mt (pe_lc (own := [("_law_turn", 3)]) (g := gName 3) (tt := tYes) (te := tCall (spPerm K) [] E0 (tCons (tVar 0) (tCons (tVar 2) tNil))) rfl syLock.nd
        (pi_range1 rfl mr (pa_cons (pe_op op_add pe_int (pe_c cT hr (Nat.le_refl _) (by rfl) (pa_cons (pv 0) (pa_cons pe_int pa_nil)))) pa_nil)) (blkOk_by (N := ["_law_row", "_law_kinds", "_law_places", "_law_turn"]) (sc := defScope yLock) (by decide +kernel))
        (fun _ _ _ _ _ => pg_name (i := 3) syLock.nd rfl (Or.inl rfl)) (fun _ _ _ _ _ => pts_nil) (fun _ _ _ _ _ => pe_c cP hr (Nat.le_refl _) (by rfl) (pa_cons (pv 0) (pa_cons (pv 2) pa_nil)))))))), ?_⟩
    refine ⟨.ref r, rfl, r, z, 3, rfl, hR, by omega, by omega, fun H1 v k1 hR1 hv => ⟨(v : Int), 0, rfl, rfl, _, rfl, ?_⟩⟩
    by_cases h0 : (v : Int) > 0
    · rw [decide_eq_true h0]
      refine iteT ⟨.ref r, rfl, .ref t, rfl, r, z, t, kn, rfl, hR1, k1 _ _ ntr ht, ntr, hk1, hk2, hkn, fun H2 p n lock W k2 hR2 np npr gl hL => ?_⟩
      exact q H2 p n lock W (k1.trans k2) hR2 (k1.free hR1 np) npr gl hL
    · rw [decide_eq_false h0]
      refine iteF ⟨.ref r, rfl, r, z, 3, rfl, hR1, by omega, by omega, fun H2 v2 k2 hR2 hv2 => ?_⟩
      have k12 := k1.trans k2
      refine ⟨2, (v2 : Int), rfl, rfl, ?_⟩
      refine ⟨.ref r, rfl, r, z, 2, rfl, hR2, by omega, by omega, fun H3 v3 k3 hR3 hv3 => ?_⟩
      have k13 := k12.trans k3
      refine ⟨1, (v3 : Int), rfl, rfl, ((1 + v3 : Nat) : Int), rfl, by omega, by omega, fun D nD => ?_⟩
      have Dr := hR3.lt nD
      have sD := same_upd (o := .lst []) nD
      have nDH := k13.free hR3 nD
      refine lc_range (lo := 0) (n := (((1 + v3 : Nat) : Int)).toNat) (fun i H' => Kr r H H' ∧ RowA K z H' r ∧ ∃ ds ts, H' D = some (.lst (rs ds)) ∧ TZs H' ds ts ∧ AllP (2 + v2) ts ∧ ts.length = i) ⟨k13.same sD, hR3.same sD, [], [], upd_same, .nil, fun t ht => absurd ht List.not_mem_nil, rfl⟩ (fun i H' hi h => ?_) (fun H' h => ?_)
      · obtain ⟨k4, hR4, ds, ts, hD, hds, hP, hl⟩ := h
        refine ⟨rfl, ?_⟩
        refine ⟨.ref r, rfl, nv (2 + v2), rfl, r, z, 2 + v2, rfl, hR4, by omega, fun H5 p5 u k5 hR5 n5 p5r h5 hu => ?_⟩
        have hD5 := k5 _ _ Dr hD
        have hds5 := (k5.tk hR4).tzs hds
        have hlen := hds.len
        have hi' : i < 1 + v3 := by omega
        refine ⟨_, hD5, by rw [rs_len]; exact few (by omega), (k4.trans k5).putH nDH, ?_, ds ++ [p5], ts ++ [u], by rw [upd_same, rs_snoc], ?_, ?_, by rw [List.length_append, hl]; rfl⟩
        · obtain ⟨i', x, rr, e5⟩ := hR5.row
          exact ((k4.trans k5).putH nDH).row hR ⟨i', x, rr, by rw [upd_ne Dr.symm]; exact e5⟩
        · exact (hds5.put hD5 fun _ z => by cases z).snoc (h5.put hD5 fun _ z => by cases z)
        · intro x hx
          rcases List.mem_append.mp hx with y | y
          · exact hP x y
          · rw [List.mem_singleton.mp y]; exact hu
      · obtain ⟨k4, hR4, ds, ts, hD, hds, hP, hl⟩ := h
        have hl2 : ts.length = 1 + v3 := hl
        obtain ⟨W, gl⟩ := gl_of (n := 2 + v2) (by omega) (by omega) hP (by omega)
        refine .inl ⟨D, rs ds, rfl, SqL.of hD, fun p np => ?_⟩
        have sp := same_upd (o := .tup (rs ds)) np
        exact q _ p (2 + v2) ts W (k4.same sp) (hR4.same sp) (k4.free hR4 np) (hR4.lt np) gl ⟨⟨ds, upd_same, hds.same sp⟩, gl.l1, hP, by omega, by omega⟩
end
end Lk
set_option linter.all false
namespace Lk
/-! reduced rows are few: their leads are unlike -/
structure Ech (p m : Nat) (found : List (Nat × Rw)) : Prop where
  row : ∀ lo ∈ found, RowOk p m lo.2 ∧ lo.1 < m ∧ lo.2.getD lo.1 0 = 1
  low : found.Pairwise fun a b => b.2.getD a.1 0 = 0
  nd : (found.map (·.1)).Nodup
theorem Ech.few {p m : Nat} {found : List (Nat × Rw)} (e : Ech p m found) : found.length ≤ m := by
  have := pigeon (found.map (·.1)) (List.range m) e.nd fun x hx => by
    obtain ⟨lo, hlo, rfl⟩ := List.mem_map.mp hx
    exact List.mem_range.mpr (e.row lo hlo).2.1
  rw [List.length_map, List.length_range] at this
  exact this
theorem elim1_row {p m : Nat} (hp : 0 < p) {one : Rw} {lo : Nat × Rw} (h1 : RowOk p m one) (h2 : RowOk p m lo.2) : RowOk p m (elim1 p one lo) := by
  unfold elim1
  split
  · exact rowOk_zip (fun x y => Nat.mod_lt _ hp) h1.len h2.len
  · exact h1
theorem elim1_get {p m : Nat} (hp : 0 < p) {one : Rw} {lo : Nat × Rw} (h1 : RowOk p m one) (h2 : RowOk p m lo.2) {i : Nat} (hi : i < m) (h0 : one.getD i 0 = 0) (h3 : lo.2.getD i 0 = 0) : (elim1 p one lo).getD i 0 = 0 := by
  unfold elim1
  split
  · rw [getD_zip (by rw [h1.len, h2.len]) (by rw [h1.len]; exact hi), h0, h3]
    simp
  · exact h0
theorem elim1_lead {p m : Nat} (hp : 1 < p) {one : Rw} {lo : Nat × Rw} (h1 : RowOk p m one) (h2 : RowOk p m lo.2) (hi : lo.1 < m) (h3 : lo.2.getD lo.1 0 = 1) : (elim1 p one lo).getD lo.1 0 = 0 := by
  unfold elim1
  split
  · rename_i hne
    have hx : one.getD lo.1 0 < p := by
      rw [getD_lt (by rw [h1.len]; exact hi)]
      exact h1.lt _ (List.getElem_mem _)
    rw [getD_zip (by rw [h1.len, h2.len]) (by rw [h1.len]; exact hi), h3, Nat.mul_one, show one.getD lo.1 0 + (p - one.getD lo.1 0) = p by omega, Nat.mod_self]
  · rename_i hne
    exact Classical.byContradiction fun h => hne h
theorem elim_zero {p m : Nat} (hp : 1 < p) : ∀ (found : List (Nat × Rw)) (done : List Nat) (one : Rw), (∀ lo ∈ found, RowOk p m lo.2 ∧ lo.1 < m ∧ lo.2.getD lo.1 0 = 1) → found.Pairwise (fun a b => b.2.getD a.1 0 = 0) →
    (∀ i ∈ done, i < m ∧ ∀ lo ∈ found, lo.2.getD i 0 = 0) → RowOk p m one → (∀ i ∈ done, one.getD i 0 = 0) → RowOk p m (elim p found one) ∧ ∀ i ∈ done ++ found.map (·.1), (elim p found one).getD i 0 = 0
  | [], done, one, _, _, _, h1, h0 => ⟨h1, fun i hi => h0 i (by simpa using hi)⟩
  | lo :: r, done, one, hr, hp2, hd, h1, h0 => by
    have h := hr lo List.mem_cons_self
    have hp3 := List.pairwise_cons.mp hp2
    have q := elim_zero hp r (done ++ [lo.1]) (elim1 p one lo) (fun x hx => hr x (List.mem_cons_of_mem _ hx)) hp3.2
      (fun i hi => by
        rcases List.mem_append.mp hi with z | z
        · exact ⟨(hd i z).1, fun x hx => (hd i z).2 x (List.mem_cons_of_mem _ hx)⟩
        · rw [List.mem_singleton.mp z]; exact ⟨h.2.1, fun x hx => hp3.1 x hx⟩)
      (elim1_row (by omega) h1 h.1)
      (fun i hi => by
        rcases List.mem_append.mp hi with z | z
        · exact elim1_get (by omega) h1 h.1 (hd i z).1 (h0 i z) ((hd i z).2 lo List.mem_cons_self)
        · rw [List.mem_singleton.mp z]; exact elim1_lead hp h1 h.1 h.2.1 h.2.2)
    refine ⟨q.1, fun i hi => q.2 i ?_⟩
    rw [List.append_assoc]
    exact hi
theorem lead_at {p m : Nat} {one : Rw} {l : Nat} (h1 : RowOk p m one) (h : lead one = some l) : l < m ∧ one.getD l 0 ≠ 0 ∧ one.getD l 0 < p := by
  unfold lead at h
  obtain ⟨hl, hx, _⟩ := List.findIdx?_eq_some_iff_getElem.mp h
  rw [h1.len] at hl
  have e : one.getD l 0 = one[l]'(by rw [h1.len]; exact hl) := getD_lt (by rw [h1.len]; exact hl)
  rw [e]
  exact ⟨hl, by simpa using hx, h1.lt _ (List.getElem_mem _)⟩
theorem norm_get {p : Nat} {one : Rw} {l i : Nat} (hi : i < one.length) : (norm p one l).getD i 0 = invp p (one.getD l 0) * one.getD i 0 % p := by
  unfold norm
  rw [getD_lt (by rw [List.length_map]; exact hi), List.getElem_map, getD_lt hi]
theorem ech_red1 {p m : Nat} (hp : PrOk p) {found : List (Nat × Rw)} {one : Rw} (e : Ech p m found) (h : RowOk p m one) : Ech p m (red1 p found one) := by
  have hp1 := hp.pos
  have q := elim_zero hp1 found [] one e.row e.low (fun i hi => absurd hi List.not_mem_nil) h fun i hi => absurd hi List.not_mem_nil
  unfold red1
  cases hl : lead (elim p found one) with
  | none => exact e
  | some l =>
    obtain ⟨l1, l2, l3⟩ := lead_at q.1 hl
    have hlen := q.1.len
    have hinv := (invp_ok hp l2 l3).1
    have hn : RowOk p m (norm p (elim p found one) l) := ⟨by unfold norm; rw [List.length_map, hlen], fun x hx => by
      unfold norm at hx
      obtain ⟨y, _, rfl⟩ := List.mem_map.mp hx
      exact Nat.mod_lt _ (by omega)⟩
    have hone : (norm p (elim p found one) l).getD l 0 = 1 := by rw [norm_get (by rw [hlen]; exact l1)]; exact hinv
    refine ⟨fun lo hlo => ?_, ?_, ?_⟩
    · rcases List.mem_append.mp hlo with z | z
      · exact e.row lo z
      · rw [List.mem_singleton.mp z]; exact ⟨hn, l1, hone⟩
    · refine List.pairwise_append.mpr ⟨e.low, List.pairwise_singleton _ _, fun a ha b hb => ?_⟩
      rw [List.mem_singleton.mp hb]
      have z := q.2 a.1 (by rw [List.nil_append]; exact List.mem_map.mpr ⟨a, ha, rfl⟩)
      have := (e.row a ha).2.1
      rw [norm_get (by rw [hlen]; exact this), z]
      simp
    · rw [List.map_append]
      refine List.nodup_append.mpr ⟨e.nd, List.pairwise_singleton _ _, fun a ha b hb he => ?_⟩
      have hb2 : b = l := by simpa using hb
      have z := q.2 a (by rw [List.nil_append]; exact ha)
      rw [he, hb2] at z
      exact l2 z
theorem ech_fold {p m : Nat} (hp : PrOk p) : ∀ (rows : List Rw) (found : List (Nat × Rw)), Ech p m found → (∀ r ∈ rows, RowOk p m r) → Ech p m (rows.foldl (red1 p) found)
  | [], _, e, _ => e
  | r :: rs, found, e, h => ech_fold hp rs _ (ech_red1 hp e (h r List.mem_cons_self)) fun x hx => h x (List.mem_cons_of_mem _ hx)
theorem ech_redF {p m : Nat} (hp : PrOk p) {rows : List Rw} (h : ∀ r ∈ rows, RowOk p m r) : Ech p m (redF p rows) :=
  ech_fold hp rows [] ⟨fun lo hlo => absurd hlo List.not_mem_nil, List.Pairwise.nil, List.nodup_nil⟩ h
theorem reduce_row {p m : Nat} (hp : PrOk p) {rows : List Rw} (h : ∀ r ∈ rows, RowOk p m r) : (∀ r ∈ reduce p rows, RowOk p m r) ∧ (reduce p rows).length ≤ m := by
  have e := ech_redF hp h
  refine ⟨fun r hr => ?_, by unfold reduce; rw [List.length_map]; exact e.few⟩
  unfold reduce at hr
  obtain ⟨lo, hlo, rfl⟩ := List.mem_map.mp hr
  exact (e.row lo hlo).1
end Lk
set_option Elab.async false
set_option linter.all false
set_option maxRecDepth 100000
namespace Lk
open PySem PySem.Spec PyProof.Rows L2 GxR
abbrev yRed : Stmt := topS 49
theorem syRed : FnScope ["_law_prime", "_law_rows", "_law_found", "_law_one", "_law_lead", "_law_own", "_law_factor", "_law_leads", "_law_turned", "_law_left", "_law_right", "_law_place", "_law_number"] ["_law_prime", "_law_rows"] (defScope yRed) := ⟨rfl, rfl, rfl, by decide +kernel, rfl, by decide +kernel, by decide +kernel⟩
section
variable {P : Program} {w : World} {K : PySem.W.Frag} {mg : Str → Option Value} {base : Heap}
abbrev nmRed : List Str := ["_law_prime", "_law_rows", "_law_found", "_law_one", "_law_lead", "_law_own", "_law_factor", "_law_leads", "_law_turned", "_law_left", "_law_right", "_law_place", "_law_number"]
/-- lists of numbers; a list of such -/
inductive RAs (H : Hp) : List Addr → List Rw → Prop
  | nil : RAs H [] []
  | cons {a : Addr} {r : Rw} {as : List Addr} {rows : List Rw} : H a = some (.lst (tv r)) → RAs H as rows → RAs H (a :: as) (r :: rows)
def RL (H : Hp) (a : Addr) (rows : List Rw) : Prop := ∃ as, H a = some (.lst (rs as)) ∧ RAs H as rows
/-- the rows found, with their leads; their lists are not the list at x -/
inductive LOs (x : Addr) (H : Hp) : List Addr → List (Nat × Rw) → Prop
  | nil : LOs x H [] []
  | cons {a b : Addr} {l : Nat} {r : Rw} {as : List Addr} {found : List (Nat × Rw)} : H a = some (.tup [nv l, .ref b]) → b ≠ x → H b = some (.lst (tv r)) → LOs x H as found → LOs x H (a :: as) ((l, r) :: found)
theorem LOs.same {x : Addr} {H H' : Hp} {as : List Addr} {found : List (Nat × Rw)} (s : Same H H') (h : LOs x H as found) : LOs x H' as found := by
  induction h with
  | nil => exact .nil
  | cons h1 h2 h3 _ ih => exact .cons (s _ _ h1) h2 (s _ _ h3) ih
theorem LOs.put {x : Addr} {H : Hp} {o' : HO} {xs : List V} {as : List Addr} {found : List (Nat × Rw)} (h : LOs x H as found) (hx : H x = some (.lst xs)) : LOs x (upd H x o') as found := by
  induction h with
  | nil => exact .nil
  | cons h1 h2 h3 _ ih => exact .cons (by rw [upd_ne (ne_of h1 hx fun z => by cases z)]; exact h1) h2 (by rw [upd_ne h2]; exact h3) ih
theorem LOs.len {x : Addr} {H : Hp} {as : List Addr} {found : List (Nat × Rw)} (h : LOs x H as found) : as.length = found.length := by
  induction h with
  | nil => rfl
  | cons _ _ _ _ ih => rw [List.length_cons, List.length_cons, ih]
theorem LOs.append {x : Addr} {H : Hp} {as bs : List Addr} {found more : List (Nat × Rw)} (h : LOs x H as found) (h' : LOs x H bs more) : LOs x H (as ++ bs) (found ++ more) := by
  induction h with
  | nil => exact h'
  | cons h1 h2 h3 _ ih => exact .cons h1 h2 h3 ih
theorem LOs.get {x a : Addr} {H : Hp} {as : List Addr} {found : List (Nat × Rw)} (h : LOs x H as found) {i : Nat} (e : as[i]? = some a) : ∃ l r b, found[i]? = some (l, r) ∧ H a = some (.tup [nv l, .ref b]) ∧ H b = some (.lst (tv r)) := by
  induction h generalizing i with
  | nil => simp at e
  | cons h1 h2 h3 _ ih =>
    cases i with
    | zero => simp at e; subst e; exact ⟨_, _, _, rfl, h1, h3⟩
    | succ i => exact ih (by simpa using e)
theorem RAs.same {H H' : Hp} {as : List Addr} {rows : List Rw} (s : Same H H') (h : RAs H as rows) : RAs H' as rows := by
  induction h with
  | nil => exact .nil
  | cons h1 _ ih => exact .cons (s _ _ h1) ih
theorem RL.same {H H' : Hp} {a : Addr} {rows : List Rw} (s : Same H H') (h : RL H a rows) : RL H' a rows := let ⟨as, h1, h2⟩ := h; ⟨as, s _ _ h1, h2.same s⟩
theorem RAs.len {H : Hp} {as : List Addr} {rows : List Rw} (h : RAs H as rows) : as.length = rows.length := by
  induction h with
  | nil => rfl
  | cons _ _ ih => rw [List.length_cons, List.length_cons, ih]
theorem RAs.append {H : Hp} {as bs : List Addr} {rows more : List Rw} (h : RAs H as rows) (h' : RAs H bs more) : RAs H (as ++ bs) (rows ++ more) := by
  induction h with
  | nil => exact h'
  | cons h1 _ ih => exact .cons h1 ih
theorem RAs.put {H : Hp} {x : Addr} {o : HO} {as : List Addr} {rows : List Rw} (h : RAs H as rows) (ne : ∀ b ∈ as, b ≠ x) : RAs (upd H x o) as rows := by
  induction h with
  | nil => exact .nil
  | cons h1 _ ih => exact .cons (by rw [upd_ne (ne _ List.mem_cons_self)]; exact h1) (ih fun b hb => ne b (List.mem_cons_of_mem _ hb))
theorem RAs.get {H : Hp} {a : Addr} {as : List Addr} {rows : List Rw} (h : RAs H as rows) {i : Nat} (e : as[i]? = some a) : ∃ r, rows[i]? = some r ∧ H a = some (.lst (tv r)) := by
  induction h generalizing i with
  | nil => simp at e
  | cons h1 _ ih =>
    cases i with
    | zero => simp at e; subst e; exact ⟨_, rfl, h1⟩
    | succ i => exact ih (by simpa using e)
/-- numbers modulo p -/
theorem sub_mod {l f r p : Nat} (hf : f ≤ p) : ((l : Int) - (f : Int) * (r : Int)) % (p : Int) = (((l + (p - f) * r) % p : Nat) : Int) := by
  have e : ((l + (p - f) * r : Nat) : Int) = ((l : Int) - (f : Int) * (r : Int)) + (p : Int) * (r : Int) := by
    rw [Int.natCast_add, Int.natCast_mul, Int.natCast_sub hf, Int.sub_mul]
    omega
  rw [Int.natCast_emod, e, Int.add_mul_emod_self_left]
/-- the places of a row that are not nought -/
def nzs (one : Rw) : List Nat := (List.range one.length).filter fun i => one.getD i 0 != 0
theorem nzs_lead (one : Rw) : (nzs one).head? = lead one := by
  unfold nzs lead
  rw [List.head?_filter]
  cases h : one.findIdx? (fun x => x != 0) with
  | none =>
    rw [List.find?_eq_none]
    intro i hi
    rw [List.findIdx?_eq_none_iff] at h
    have hl := List.mem_range.mp hi
    rw [getD_lt hl]
    have := h _ (List.getElem_mem hl)
    simp only [this, Bool.false_eq_true, not_false_eq_true]
  | some l =>
    obtain ⟨hl, hx, hno⟩ := List.findIdx?_eq_some_iff_getElem.mp h
    have e : one.getD l 0 = one[l] := getD_lt hl
    rw [List.range_eq_range']
    have := find_some (f := fun i => one.getD i 0 != 0) one.length 0 l hl (fun j hj => by
      rw [Nat.zero_add, getD_lt (show j < one.length by omega)]
      have := hno j hj
      simpa using this) (by rw [Nat.zero_add, e]; exact hx)
    rw [Nat.zero_add] at this
    exact this
def di (t : Tn) : PyData := .list (t.map fun x : Nat => .int (x : Int))
theorem shI (t : Tn) : SeqAt.shaped (di t) = true := by
  unfold SeqAt.shaped di
  rw [PyData.canLay0, canI, PyData.depth, depI]
  rfl
theorem eqvDi (t u : Tn) : PyData.eqv (di t) (di u) = decide (t = u) := by unfold di; rw [PyData.eqv]; exact eqvI t u
theorem dpDi {K : PySem.W.Frag} {H : Hp} {a : Addr} {t : Tn} (h : H a = some (.lst (tv t))) : Dp K H (.ref a) (di t) := .lst (SqL.of h) (dpI t)
theorem filter_succ (q : Nat → Bool) (k : Nat) : (List.range (k + 1)).filter q = (List.range k).filter q ++ (if q k = true then [k] else []) := by
  rw [List.range_succ, List.filter_append]
  cases h : q k <;> simp [h]
theorem filter_succ1 (q : Nat → Bool) (k : Nat) : (List.range' 1 (k + 1)).filter q = (List.range' 1 k).filter q ++ (if q (1 + k) = true then [1 + k] else []) := by
  rw [List.range'_concat, List.filter_append, Nat.one_mul]
  cases h : q (1 + k) <;> simp [h]
def spRed : Sp := fun vs H Q _ => ∃ (a : Addr) (p m : Nat) (rows : List Rw), vs = [nv p, .ref a] ∧ RL H a rows ∧ PrOk p ∧ m ≤ 60 ∧ rows.length ≤ 1000 ∧ (∀ r ∈ rows, RowOk p m r) ∧ Ret H Q fun H' q => RL H' q (reduce p rows)
theorem ok_red {f : Addr} {fd : FuncData} {k : Nat} (F : Fun K "_law_reduced" "_law_reduced" yRed f fd) (mr : mg "range" = none) (mz : mg "zip" = none) (mn : mg "enumerate" = none) : FnOk P w K mg base CX0 (k + 1) f fd ["_law_prime", "_law_rows"] spRed := by
  refine F.ok syRed (fun vs H Q E h => ?_) (fun cdv A outer s H vs Q E hr h => ?_)
  · obtain ⟨a, p, m, rows, rfl, _⟩ := h
    rfl
  · obtain ⟨a, p, m, rows, rfl, hR, hp, hm, hrl, hrow, q⟩ := h
    have hu : A.units + 3 + 64 < cLine := by have := hr.un; have e : (A.deeper (envOfC "_law_reduced" (defScope yRed) s.heap.objs.size f cdv)).units = A.units + 3 := rfl; omega
    refine ⟨_, pss_cons (ps_set (i := 2) syRed.nd rfl (.inl rfl) (pe_lst pa_nil))
      (pss_cons (ps_for PassesOwn.never rfl (pi_list (pv 1)) (pg_name (i := 3) syRed.nd rfl (.inr rfl))
        (pss_cons (ps_for PassesOwn.never rfl (pi_list (pv 2)) (pg_tup rfl (pgs_cons (pg_name (i := 4) syRed.nd rfl (.inl rfl)) (pgs_cons (pg_name (i := 5) syRed.nd rfl (.inl rfl)) pgs_nil)))
          (pss_cons (ps_set (i := 6) syRed.nd rfl (.inr rfl) (pe_ix ix_list (pv 3) (pv 4) (fun _ _ => rfl)))
          (pss_one (ps_set (i := 3) syRed.nd rfl (.inr rfl) (pe_ifExp (pt_cmpR op_ne (pv 6) pe_int (nomark _))
            (pe_lc (own := [("_law_left", 9), ("_law_right", 10)]) (g := gTup K 2 (gCons (gName 9) (gCons (gName 10) gNil))) (tt := tYes) (te := tOp (rI (fun _ j => 0 < j) fun i j => .int (i % j)) (tOp (rI0 fun i j => .int (i - j)) (tVar 9) (tOp (rI CMulW fun i j => .int (i * j)) (tVar 6) (tVar 10))) (tVar 0)) rfl syRed.nd
              (pi_zip (by rfl) mz (pa_cons (pv 3) (pa_cons (pv 5) pa_nil))) (blkOk_by (N := nmRed) (sc := defScope yRed) (by decide +kernel))
              (fun _ _ _ _ _ => pg_tup rfl (pgs_cons (pg_name (i := 9) syRed.nd rfl (Or.inl rfl)) (pgs_cons (pg_name (i := 10) syRed.nd rfl (Or.inl rfl)) pgs_nil))) (fun _ _ _ _ _ => pts_nil) (fun _ _ _ _ _ => pe_op op_mod (pe_op op_sub (pv 9) (pe_op op_mulW (pv 6) (pv 10))) (pv 0)))
            (pv 3))))))
        (pss_cons (ps_set (i := 7) syRed.nd rfl (.inr rfl) (pe_lc (own := [("_law_place", 11), ("_law_number", 12)]) (g := gTup K 2 (gCons (gName 11) (gCons (gName 12) gNil))) (tt := tTest (tOp rNe (tVar 12) (tC (.int 0)))) (te := tVar 11) rfl syRed.nd
              (pi_enum (by rfl) mn (pa_cons (pv 3) pa_nil)) (blkOk_by (N := nmRed) (sc := defScope yRed) (by decide +kernel))
              (fun _ _ _ _ _ => pg_tup rfl (pgs_cons (pg_name (i := 11) syRed.nd rfl (Or.inl rfl)) (pgs_cons (pg_name (i := 12) syRed.nd rfl (Or.inl rfl)) pgs_nil))) (fun _ _ _ _ _ => pts_one (pt_cmpR op_ne (pv 12) pe_int (nomark _))) (fun _ _ _ _ _ => pv 11)))
        (pss_one (ps_if (pt_cmpR (op_neD hu) (pv 7) (pe_lst pa_nil) (nomark _))
          (pss_cons (ps_set (i := 8) syRed.nd rfl (.inr rfl) (pe_ix ix_list (pe_lc (own := [("_law_number", 12)]) (g := gName 12) (tt := tTest (tOp rEq (tOp (rI (fun _ j => 0 < j) fun i j => .int (i % j)) (tOp (rI CMulW fun i j => .int (i * j)) (tVar 12) (tOp (rIxL K) (tVar 3) (tOp (rIxL K) (tVar 7) (tC (.int 0))))) (tVar 0)) (tC (.int 1)))) (te := tVar 12) rfl syRed.nd
              (pi_range2 rfl mr (pa_cons pe_int (pa_cons (pv 0) pa_nil))) (blkOk_by (N := nmRed) (sc := defScope yRed) (by decide +kernel))
              (fun _ _ _ _ _ => pg_name (i := 12) syRed.nd rfl (Or.inl rfl)) (fun _ _ _ _ _ => pts_one (pt_cmpR op_eq (pe_op op_mod (pe_op op_mulW (pv 12) (pe_ix ix_list (pv 3) (pe_ix ix_list (pv 7) pe_int (fun _ _ => rfl)) (fun _ _ => rfl))) (pv 0)) pe_int (nomark _))) (fun _ _ _ _ _ => pv 12)) pe_int (fun _ _ => rfl)))
          (pss_one (ps_expr (pe_bm PySem.F.plainAttrs_list PySem.F.slot_list_append PySem.F.type_list_append mt_append (pv 2) (pa_cons (pe_tup (pa_cons (pe_ix ix_list (pv 7) pe_int (fun _ _ => rfl)) (pa_cons
            (pe_lc (own := [("_law_number", 12)]) (g := gName 12) (tt := tYes) (te := tOp (rI (fun _ j => 0 < j) fun i j => .int (i % j)) (tOp (rI CMulW fun i j => .int (i * j)) (tVar 8) (tVar 12)) (tVar 0)) rfl syRed.nd
              (pi_list (pv 3)) (blkOk_by (N := nmRed) (sc := defScope yRed) (by decide +kernel))
              (fun _ _ _ _ _ => pg_name (i := 12) syRed.nd rfl (Or.inl rfl)) (fun _ _ _ _ _ => pts_nil) (fun _ _ _ _ _ => pe_op op_mod (pe_op op_mulW (pv 8) (pv 12)) (pv 0))) pa_nil))) pa_nil))))) pss_nil)))))
      (pss_one (ps_ret (pe_lc (own := [("_law_lead", 4), ("_law_own", 5)]) (g := gTup K 2 (gCons (gName 4) (gCons (gName 5) gNil))) (tt := tYes) (te := tVar 5) rfl syRed.nd
              (pi_list (pv 2)) (blkOk_by (N := nmRed) (sc := defScope yRed) (by decide +kernel))
              (fun _ _ _ _ _ => pg_tup rfl (pgs_cons (pg_name (i := 4) syRed.nd rfl (Or.inl rfl)) (pgs_cons (pg_name (i := 5) syRed.nd rfl (Or.inl rfl)) pgs_nil))) (fun _ _ _ _ _ => pts_nil) (fun _ _ _ _ _ => pv 5))))), ?_⟩
    obtain ⟨as, ha, hRs⟩ := hR
    have hp1 := hp.pos
    have hp3 : p ≤ 3 := by rcases hp with z | z <;> omega
    refine ⟨Nat.zero_le _, fun fa nfa => ?_⟩
    have sF := same_upd (o := .lst []) nfa
    refine ⟨.ref a, rfl, a, rfl, ⟨_, SqL.of (sF _ _ ha)⟩, for_list (xs := rs as) (fun i σ H' => ∃ y3 y4 y5 y6 y7 y8, σ = [some (nv p), some (.ref a), some (.ref fa), y3, y4, y5, y6, y7, y8, none, none, none, none] ∧ Same H H' ∧ ∃ fs, H' fa = some (.lst (rs fs)) ∧ LOs fa H' fs ((rows.take i).foldl (red1 p) []))
      ⟨_, _, _, _, _, _, rfl, sF, [], upd_same, .nil⟩ (fun i σ H' _ h => ?_) (fun i x σ H' hx h => ?_) (fun σ H' h => ?_)⟩
    · obtain ⟨_, _, _, _, _, _, _, sm, _⟩ := h
      exact SqL.of (sm _ _ ha)
    · obtain ⟨y3, y4, y5, y6, y7, y8, rfl, sm, fs, hf, hfs⟩ := h
      obtain ⟨oa, hoa, rfl⟩ := rs_get hx
      obtain ⟨one, hone, hoH⟩ := hRs.get hoa
      have hrow1 := hrow one (List.mem_of_getElem? hone)
      have hnext : (rows.take (i + 1)).foldl (red1 p) [] = red1 p ((rows.take i).foldl (red1 p) []) one := fold_take hone
      have EC : Ech p m ((rows.take i).foldl (red1 p) []) := ech_redF hp fun r hr => hrow r (List.mem_of_mem_take hr)
      rw [hnext]
      generalize (rows.take i).foldl (red1 p) [] = found at *
      have hfl := hfs.len
      have hfew := EC.few
      have hn1 : oa ≠ fa := fun e => by rw [e, nfa] at hoH; cases hoH
      refine ⟨.ref fa, rfl, fa, rfl, ⟨_, SqL.of hf⟩, for_list (xs := rs fs) (fun j σ H2 => ∃ ob cur y4 y5 y6, σ = [some (nv p), some (.ref a), some (.ref fa), some (.ref ob), y4, y5, y6, y7, y8, none, none, none, none] ∧ Same H' H2 ∧ H2 ob = some (.lst (tv cur)) ∧ cur = (found.take j).foldl (elim1 p) one ∧ RowOk p m cur)
        ⟨oa, one, _, _, _, rfl, fun _ _ e => e, sm _ _ hoH, rfl, hrow1⟩ (fun j σ H2 _ h => ?_) (fun j x σ H2 hx2 h => ?_) (fun σ H2 h => ?_)⟩
      · obtain ⟨_, _, _, _, _, _, s2, _⟩ := h
        exact SqL.of (s2 _ _ hf)
      · obtain ⟨ob, cur, y4, y5, y6, rfl, s2, hob, hcur, hro⟩ := h
        obtain ⟨pa, hpa, rfl⟩ := rs_get hx2
        obtain ⟨l, own, b, hlo, hpair, hbo⟩ := hfs.get hpa
        obtain ⟨e1, e2, e3⟩ := EC.row (l, own) (List.mem_of_getElem? hlo)
        have hb2 := s2 _ _ hbo
        have hcl : (tv cur)[l]? = some (nv (cur.getD l 0)) := tv_of (by rw [List.getD_eq_getElem?_getD, List.getElem?_eq_getElem (by rw [hro.len]; exact e2)]; rfl)
        have hfp : cur.getD l 0 < p := by
          rw [getD_lt (by rw [hro.len]; exact e2)]
          exact hro.lt _ (List.getElem_mem _)
        have hstep : (found.take (j + 1)).foldl (elim1 p) one = elim1 p cur (l, own) := by rw [fold_take hlo, ← hcur]
        refine ⟨pa, [nv l, .ref b], rfl, SqT.of (s2 _ _ hpair), rfl, nv l, [.ref b], rfl, .ref b, [], rfl, rfl, ?_⟩
        refine ⟨.ref ob, rfl, nv l, rfl, ob, tv cur, (l : Int), nv (cur.getD l 0), rfl, rfl, SqL.of hob, atI_nat hcl, ?_⟩
        refine ⟨nv (cur.getD l 0), rfl, rfl, _, rfl, ?_⟩
        rw [show decide (nv (cur.getD l 0) = V.int 0) = decide (cur.getD l 0 = 0) from nv_eq _ 0]
        by_cases hz : cur.getD l 0 = 0
        · rw [decide_eq_true hz]
          refine iteF ⟨.ref ob, rfl, ob, cur, _, _, _, rfl, s2, hob, ?_, hro⟩
          rw [hstep]
          unfold elim1
          rw [if_neg fun z => z hz]
        · rw [decide_eq_false hz]
          have hel : elim1 p cur (l, own) = List.zipWith (fun l' r => (l' + (p - cur.getD l 0) * r) % p) cur own := by
            unfold elim1
            rw [if_pos hz]
          have hze : (List.zipWith (fun l' r => (l' + (p - cur.getD l 0) * r) % p) cur own).length = m := by rw [List.length_zipWith, hro.len, e1.len, Nat.min_self]
          refine iteT ⟨.ref ob, rfl, .ref b, rfl, ob, b, tv cur, tv own, rfl, SqL.of hob, SqL.of hb2, fun D nD => ?_⟩
          refine lc_it (walk_zip (xs := tv cur) (ys := tv own) (n := m) (by rw [tv_len, tv_len, hro.len, e1.len, Nat.min_self])) (fun k H3 => Same H2 H3 ∧ H3 D = some (.lst (tv ((List.zipWith (fun l' r => (l' + (p - cur.getD l 0) * r) % p) cur own).take k)))) ⟨same_upd nD, upd_same⟩ (fun k H3 _ h => ⟨SqL.of (h.1 _ _ hob), SqL.of (h.1 _ _ hb2)⟩) (fun k x H3 H4 hk h y => ?_) (fun H3 h => ?_)
          · obtain ⟨s3, hD⟩ := h
            obtain ⟨T, x1, x2, rfl, nT, rfl, g1, g2⟩ := y
            obtain ⟨c1, hc1, rfl⟩ := tv_get g1
            obtain ⟨c2, hc2, rfl⟩ := tv_get g2
            have sT := same_upd (o := .tup [nv c1, nv c2]) nT
            have hlt2 : c2 < p := e1.lt c2 (List.mem_of_getElem? hc2)
            have hzk : (List.zipWith (fun l' r => (l' + (p - cur.getD l 0) * r) % p) cur own)[k]? = some ((c1 + (p - cur.getD l 0) * c2) % p) := by rw [List.getElem?_zipWith, hc1, hc2]
            refine ⟨T, [nv c1, nv c2], rfl, SqT.of upd_same, rfl, nv c1, [nv c2], rfl, nv c2, [], rfl, rfl, rfl, ?_⟩
            refine ⟨nv c1, rfl, nv (cur.getD l 0), rfl, nv c2, rfl, ((cur.getD l 0 : Nat) : Int), (c2 : Int), rfl, rfl, mulW (by omega) (by omega), (c1 : Int), ((cur.getD l 0 : Nat) : Int) * (c2 : Int), rfl, rfl, nv p, rfl, (c1 : Int) - ((cur.getD l 0 : Nat) : Int) * (c2 : Int), (p : Int), rfl, rfl, (show (0 : Int) < (p : Int) by omega), _, sT _ _ hD, ?_, same_put (s3.trans sT) nD, ?_⟩
            · rw [tv_len, List.length_take]; exact few (by omega)
            · rw [upd_same, take_succ hzk, ← tv_snoc]
              show some (HO.lst (_ ++ [V.int (((c1 : Int) - ((cur.getD l 0 : Nat) : Int) * (c2 : Int)) % (p : Int))])) = _
              rw [sub_mod (Nat.le_of_lt hfp)]
              rfl
          · obtain ⟨s3, hD⟩ := h
            rw [← hze, List.take_length, ← hel] at hD
            refine ⟨D, elim1 p cur (l, own), _, _, _, rfl, s2.trans s3, hD, hstep.symm, elim1_row (by omega) hro e1⟩
      · obtain ⟨ob, cur, y4, y5, y6, rfl, s2, hob, hcur, hro⟩ := h
        rw [rs_len, hfl, List.take_length] at hcur
        have hcur : cur = elim p found one := hcur
        have smA := sm.trans s2
        -- the places that are not nought
        refine ⟨.ref ob, rfl, ob, tv cur, rfl, SqL.of hob, fun D nD => ?_⟩
        refine lc_it (walk_enum (xs := tv cur)) (fun k H3 => Same H2 H3 ∧ H3 D = some (.lst (tv ((List.range k).filter fun i => cur.getD i 0 != 0)))) ⟨same_upd nD, upd_same⟩ (fun k H3 _ h => SqL.of (h.1 _ _ hob)) (fun k x H3 H4 hk h y => ?_) (fun H3 h => ?_)
        · obtain ⟨s3, hD⟩ := h
          obtain ⟨T, x1, x2, rfl, nT, rfl, g1, g2⟩ := y
          obtain rfl := Option.some.inj g1
          obtain ⟨c, hc, rfl⟩ := tv_get g2
          have sT := same_upd (o := .tup [V.int (k : Nat), nv c]) nT
          have hck : cur.getD k 0 = c := by rw [List.getD_eq_getElem?_getD, hc]; rfl
          have hkm : k < m := by rw [← hro.len]; exact get_lt hc
          refine ⟨T, [V.int (k : Nat), nv c], rfl, SqT.of upd_same, rfl, V.int (k : Nat), [nv c], rfl, nv c, [], rfl, rfl, rfl, ?_⟩
          refine ⟨nv c, rfl, rfl, _, rfl, ?_⟩
          rw [show decide (nv c = V.int 0) = decide (c = 0) from nv_eq _ 0, filter_succ, hck]
          by_cases hz : c = 0
          · rw [decide_eq_true hz]
            refine iteF ⟨s3.trans sT, ?_⟩
            rw [if_neg (by simp [hz]), List.append_nil]
            exact sT _ _ hD
          · rw [decide_eq_false hz]
            refine iteT ⟨nv k, rfl, _, sT _ _ hD, ?_, same_put (s3.trans sT) nD, ?_⟩
            · have := List.length_filter_le (fun i => cur.getD i 0 != 0) (List.range k)
              rw [List.length_range] at this
              rw [tv_len]; exact few (by omega)
            · rw [upd_same, tv_snoc, if_pos (by simp [hz])]
        · obtain ⟨s3, hD⟩ := h
          have hnz : (List.range (tv cur).length).filter (fun i => cur.getD i 0 != 0) = nzs cur := by rw [tv_len]; rfl
          rw [hnz] at hD
          have hlead := nzs_lead cur
          refine ⟨.ref D, rfl, Nat.zero_le _, fun e0 ne0 => ?_⟩
          have s0 := same_upd (o := .lst []) ne0
          have hD0 := s0 _ _ hD
          refine ⟨di (nzs cur), di [], dpDi hD0, dpDi (t := []) upd_same, shI _, shI _, _, rfl, ?_⟩
          rw [eqvDi]
          have s23 := s3.trans s0
          have hob0 := s23 _ _ hob
          have hf0 := s23 _ _ (s2 _ _ hf)
          have hfs0 := (hfs.same s2).same s23
          have smB := smA.trans s23
          generalize upd H3 e0 (.lst []) = H4 at *
          cases hz : nzs cur with
          | nil =>
            rw [decide_eq_true rfl]
            rw [hz] at hlead
            have hr : red1 p found one = found := by
              unfold red1
              rw [← hcur, ← hlead]
              rfl
            refine iteF ⟨_, _, _, _, _, _, rfl, smB, fs, hf0, ?_⟩
            rw [hr]
            exact hfs0
          | cons l rest =>
            rw [decide_eq_false fun z => by cases z]
            rw [hz] at hlead hD0
            have hlead : lead cur = some l := hlead.symm
            obtain ⟨l1, l2, l3⟩ := lead_at hro hlead
            have hr : red1 p found one = found ++ [(l, norm p cur l)] := by
              unfold red1
              rw [← hcur, hlead]
            have hinv := (invp_ok hp l2 l3).2
            have hcl : (tv cur)[l]? = some (nv (cur.getD l 0)) := tv_of (by rw [List.getD_eq_getElem?_getD, List.getElem?_eq_getElem (by rw [hro.len]; exact l1)]; rfl)
            refine iteT ?_
            refine ⟨nv p, rfl, 1, (p : Int), rfl, by omega, fun G nG => ?_⟩
            refine lc_range (lo := 1) (n := ((p : Int) - 1).toNat) (fun k H5 => Same H4 H5 ∧ H5 G = some (.lst (tv ((List.range' 1 k).filter fun k => k * cur.getD l 0 % p == 1)))) ⟨same_upd nG, upd_same⟩ (fun k H5 hk h => ?_) (fun H5 h => ?_)
            · obtain ⟨s5, hG⟩ := h
              have hkp : k < p := by omega
              refine ⟨rfl, ?_⟩
              rw [show (V.int (1 + (k : Int))) = nv (1 + k) from by show V.int _ = V.int _; congr 1]
              refine ⟨nv (1 + k), rfl, .ref ob, rfl, .ref D, rfl, D, tv (l :: rest), 0, nv l, rfl, rfl, SqL.of (s5 _ _ hD0), atI_nat (j := 0) rfl, ob, tv cur, (l : Int), nv (cur.getD l 0), rfl, rfl, SqL.of (s5 _ _ hob0), atI_nat hcl, ((1 + k : Nat) : Int), ((cur.getD l 0 : Nat) : Int), rfl, rfl, mulW (by omega) (by omega), nv p, rfl, (((1 + k) * cur.getD l 0 : Nat) : Int), (p : Int), rfl, rfl, (show (0 : Int) < (p : Int) by omega), rfl, _, rfl, ?_⟩
              rw [show decide (V.int ((((1 + k) * cur.getD l 0 : Nat) : Int) % (p : Int)) = V.int 1) = decide ((1 + k) * cur.getD l 0 % p = 1) from by rw [← Int.natCast_emod]; exact nv_eq _ 1, filter_succ1]
              by_cases hq : (1 + k) * cur.getD l 0 % p = 1
              · rw [decide_eq_true hq]
                refine iteT ⟨nv (1 + k), rfl, _, hG, ?_, same_put s5 nG, ?_⟩
                · have := List.length_filter_le (fun k => k * cur.getD l 0 % p == 1) (List.range' 1 k)
                  rw [List.length_range'] at this
                  rw [tv_len]; exact few (by omega)
                · rw [upd_same, tv_snoc, if_pos (beq_iff_eq.mpr hq)]
              · rw [decide_eq_false hq]
                refine iteF ⟨s5, ?_⟩
                rw [if_neg (fun z => hq (beq_iff_eq.mp z)), List.append_nil]
                exact hG
            · obtain ⟨s5, hG⟩ := h
              rw [show ((p : Int) - 1).toNat = p - 1 by omega] at hG
              obtain ⟨tl, htl⟩ : ∃ tl, (List.range' 1 (p - 1)).filter (fun k => k * cur.getD l 0 % p == 1) = invp p (cur.getD l 0) :: tl := by
                cases hc : (List.range' 1 (p - 1)).filter (fun k => k * cur.getD l 0 % p == 1) with
                | nil => rw [hc] at hinv; cases hinv
                | cons y ys => rw [hc] at hinv; exact ⟨ys, by rw [Option.some.inj hinv]⟩
              rw [htl] at hG
              have hinvp : invp p (cur.getD l 0) < p := by
                have hm1 : invp p (cur.getD l 0) ∈ (List.range' 1 (p - 1)).filter (fun k => k * cur.getD l 0 % p == 1) := by rw [htl]; exact List.mem_cons_self
                have := List.mem_range'_1.mp (List.mem_filter.mp hm1).1
                omega
              generalize hiv : invp p (cur.getD l 0) = iv at *
              have hD5 := s5 _ _ hD0
              have hob5 := s5 _ _ hob0
              refine ⟨G, tv (iv :: tl), 0, nv iv, rfl, rfl, SqL.of hG, atI_nat (j := 0) rfl, ?_⟩
              refine ⟨.ref fa, rfl, .inl ⟨rfl, _, SqL.of (s5 _ _ hf0)⟩, .ref D, rfl, D, tv (l :: rest), 0, nv l, rfl, rfl, SqL.of hD5, atI_nat (j := 0) rfl, ?_⟩
              refine ⟨.ref ob, rfl, ob, rfl, ⟨_, SqL.of hob5⟩, fun N nN => ?_⟩
              have Nf : N ≠ fa := fun e => by rw [e, s5 _ _ hf0] at nN; cases nN
              refine lc_list (xs := tv cur) (fun k H6 => Same H5 H6 ∧ H6 N = some (.lst (tv ((norm p cur l).take k)))) ⟨same_upd nN, upd_same⟩ (fun k H6 _ h => SqL.of (h.1 _ _ hob5)) (fun k x H6 hx6 h => ?_) (fun H6 h => ?_)
              · obtain ⟨s6, hN⟩ := h
                obtain ⟨c, hc, rfl⟩ := tv_get hx6
                have hcp : c < p := hro.lt c (List.mem_of_getElem? hc)
                have hkm : k < m := by rw [← hro.len]; exact get_lt hc
                have hnk : (norm p cur l)[k]? = some (iv * c % p) := by unfold norm; rw [List.getElem?_map, hc, hiv]; rfl
                refine ⟨rfl, ?_⟩
                refine ⟨nv iv, rfl, nv c, rfl, (iv : Int), (c : Int), rfl, rfl, mulW (by omega) (by omega), nv p, rfl, ((iv * c : Nat) : Int), (p : Int), rfl, rfl, (show (0 : Int) < (p : Int) by omega), _, hN, ?_, same_put s6 nN, ?_⟩
                · rw [tv_len, List.length_take]; exact few (by omega)
                · rw [upd_same, take_succ hnk, ← tv_snoc]
                  show some (HO.lst (_ ++ [V.int (((iv * c : Nat) : Int) % (p : Int))])) = _
                  rw [← Int.natCast_emod]
                  rfl
              · obtain ⟨s6, hN⟩ := h
                have hnl : (tv cur).length = (norm p cur l).length := by unfold norm; rw [tv_len, List.length_map]
                rw [hnl, List.take_length] at hN
                refine ⟨fewe (by simp), fun T nT => ?_⟩
                have s7 := same_upd (o := .tup [nv l, .ref N]) nT
                have s57 := (s5.trans s6).trans s7
                have hf7 := s57 _ _ hf0
                have hT7 : (upd H6 T (.tup [nv l, .ref N])) T = some (.tup [nv l, .ref N]) := upd_same
                have hN7 := s7 _ _ hN
                have hfs7 := hfs0.same s57
                have smC := smB.trans s57
                generalize upd H6 T (.tup [nv l, .ref N]) = H7 at *
                refine ⟨fa, rs fs, .ref T, rfl, rfl, hf7, by rw [rs_len, hfl]; exact few (by omega), _, _, _, _, _, _, rfl, same_put smC nfa, fs ++ [T], by rw [upd_same, rs_snoc], ?_⟩
                rw [hr]
                exact (hfs7.put hf7).append (.cons (by rw [upd_ne (ne_of hT7 hf7 fun z => by cases z)]; exact hT7) Nf (by rw [upd_ne Nf]; exact hN7) .nil)
    · obtain ⟨y3, y4, y5, y6, y7, y8, rfl, sm, fs, hf, hfs⟩ := h
      rw [rs_len, hRs.len, List.take_length] at hfs
      have EC : Ech p m (rows.foldl (red1 p) []) := ech_redF hp hrow
      have hfew := EC.few
      have hfl := hfs.len
      have hred : reduce p rows = (rows.foldl (red1 p) []).map (·.2) := rfl
      generalize rows.foldl (red1 p) [] = found at *
      refine ⟨.ref fa, rfl, fa, rfl, ⟨_, SqL.of hf⟩, fun D nD => ?_⟩
      refine lc_list (xs := rs fs) (fun k H2 => Same H' H2 ∧ ∃ bs, H2 D = some (.lst (rs bs)) ∧ RAs H2 bs ((found.take k).map (·.2)) ∧ ∀ b ∈ bs, b ≠ D) ⟨same_upd nD, [], upd_same, .nil, fun b hb => absurd hb List.not_mem_nil⟩ (fun k H2 _ h => SqL.of (h.1 _ _ hf)) (fun k x H2 hx h => ?_) (fun H2 h => ?_)
      · obtain ⟨s2, bs, hD, hbs, hne⟩ := h
        obtain ⟨pa, hpa, rfl⟩ := rs_get hx
        obtain ⟨l, own, b, hlo, hpair, hbo⟩ := hfs.get hpa
        have hb2 := s2 _ _ hbo
        have bD : b ≠ D := fun e => by rw [e, nD] at hbo; cases hbo
        refine ⟨pa, [nv l, .ref b], rfl, SqT.of (s2 _ _ hpair), rfl, nv l, [.ref b], rfl, .ref b, [], rfl, rfl, rfl, ?_⟩
        have hbl := hbs.len
        rw [List.length_map, List.length_take] at hbl
        refine ⟨.ref b, rfl, _, hD, by rw [rs_len]; exact few (by omega), same_put s2 nD, bs ++ [b], by rw [upd_same, rs_snoc], ?_, ?_⟩
        · rw [take_succ hlo, List.map_append]
          have hput := hbs.put (o := .lst (rs bs ++ [.ref b])) hne
          exact hput.append (.cons (by rw [upd_ne bD]; exact hb2) .nil)
        · intro c hc
          rcases List.mem_append.mp hc with z | z
          · exact hne c z
          · rw [List.mem_singleton.mp z]; exact bD
      · obtain ⟨s2, bs, hD, hbs, hne⟩ := h
        rw [rs_len, hfl, List.take_length, ← hred] at hbs
        exact q H2 D (sm.trans s2) (sm.free nD) ⟨bs, hD, hbs⟩
end
end Lk
set_option Elab.async false
set_option linter.all false
set_option maxRecDepth 100000
namespace Lk
open PySem PySem.Spec PyProof.Rows L2
/-! dict(l), l a list of pairs whose first is a tuple -/
section
variable {X : Cx}
theorem pairsT_of {pins : List (Addr × Obj)} {σ : L2.St} {H : Hp} {s : Shared} (I : Inv X pins σ H s) : ∀ {ps : List Addr} {kvs : List (List L2.Key × V)}, Paired (fun p kv => ∃ q, SqT X.K H p [.ref q, kv.2] ∧ H q = some (.tup (kv.1.map kV))) ps kvs →
    ∃ prs : List (List L2.Key × Addr × Value), KT H kvs prs ∧ prs.length = ps.length ∧ ∀ (j : Nat) (k v : Value), (prs.map fun x => (Value.ref x.2.1, x.2.2))[j]? = some (k, v) → (ps.map Value.ref)[j]? = some (.ref (ps.getD j 0)) ∧ PairAt s.heap (ps.getD j 0) k v
  | _, _, .nil => ⟨[], .nil, rfl, fun j k v e => by simp at e⟩
  | _, _, .cons (a := p) (b := kv) h t => by
    obtain ⟨prs, r, hl, hp⟩ := pairsT_of I t
    obtain ⟨q, h1, h2⟩ := h
    obtain ⟨its, rv, ht, _⟩ := I.tuple h1
    obtain ⟨u, y, ei, ru, ry⟩ := vals2 rv
    subst ei
    cases (show u = Value.ref q from ru)
    refine ⟨(kv.1, q, y) :: prs, .cons ⟨rfl, h2, ry⟩ r, by rw [List.length_cons, List.length_cons, hl], fun j k v e => ?_⟩
    cases j with
    | zero =>
      have e' : (Value.ref q, y) = (k, v) := Option.some.inj e
      cases e'
      exact ⟨rfl, .inl ht⟩
    | succ j => exact hp j k v (by simpa using e)
theorem kt_keys {H : Hp} {kvs : List (List L2.Key × V)} {prs : List (List L2.Key × Addr × Value)} (r : KT H kvs prs) : prs.map (·.1) = kvs.map (·.1) := by
  unfold KT at r
  induction r with
  | nil => rfl
  | cons h _ ih => rw [List.map_cons, List.map_cons, ih, h.1]
theorem kt_is {P : Program} {w : World} {H : Hp} {h : Heap} (ok : HOk P w H h) {kvs : List (List L2.Key × V)} {prs : List (List L2.Key × Addr × Value)} (r : KT H kvs prs) : ∀ x ∈ prs, (tupleKind (mixKind P w)).is h x.1 x.2.1 := by
  unfold KT at r
  induction r with
  | nil => intro x hx; exact nomatch hx
  | cons h _ ih =>
    intro x hx
    rcases List.mem_cons.mp hx with e | hx
    · subst e
      exact key_of ok (by rw [← h.1]; exact h.2.1)
    · exact ih x hx
theorem call_dictPT (hcalm : X.calm = true) (hu : X.A.units + 3 < cLine) : CallR X (.type "dict") (fun xs H Q => ∃ (a : Addr) (ps : List Addr) (kvs : List (List L2.Key × V)), xs = [.ref a] ∧ SqL X.K H a (ps.map V.ref) ∧
    Paired (fun p kv => ∃ q, SqT X.K H p [.ref q, kv.2] ∧ H q = some (.tup (kv.1.map kV))) ps kvs ∧ (kvs.map (·.1)).Nodup ∧ ∀ p, H p = none → Q (.ref p) (upd H p (.dT kvs))) := by
  intro pins s σ H xs us Q I r q
  obtain ⟨a, ps, kvs, ex, hq, hp, nd, q⟩ := q
  subst ex
  obtain ⟨u, eu, rx⟩ := vals1 r
  subst eu
  cases rx
  obtain ⟨its, rv, pl, hz⟩ := I.list hq
  have ei := refs_at rv
  subst ei
  rw [List.length_map] at hz
  obtain ⟨prs, rel, hl, hpr⟩ := pairsT_of I hp
  obtain ⟨o, n, ho, hc, hd, hdat⟩ := pl
  have his := kt_is I.hok rel
  refine PySem.call_dict_pairsH (knd := tupleKind (mixKind X.prog X.w)) (ps := prs) (PairArg.list (prog := X.prog) (w := X.w) a (ps.map Value.ref).toArray (fun j => ps.getD j 0) (prs.map fun x => (Value.ref x.2.1, x.2.2))) (I.ok.hd hcalm) (tupleKind_room_in1 (by show X.A.units + 1 + 1 < cLine; omega))
    ⟨⟨o, n, ho, hc, hd, hdat⟩, by simp [hl], fun j k v e => by obtain ⟨e1, e2⟩ := hpr j k v e; exact ⟨by simpa using e1, e2⟩⟩ ⟨by simp, fun i key v e => ?_⟩ (fun h' hk x hx => ?_) (by rw [List.length_map, hl]; exact hz) fun h' tk hd' k => ?_
  · rw [PairRel, List.getElem?_map] at e
    obtain ⟨x, e1, e2⟩ := Option.map_eq_some_iff.mp e
    cases e2
    exact ⟨x.1, x.2.1, e1, rfl⟩
  · obtain ⟨o1, its1, n1, g1, g2, g3, g4⟩ := his x hx
    exact ⟨o1, its1, n1, hk _ _ (Nat.ne_of_lt (Heap.lt_size g1)) (by simp) g1, g2, g3, g4⟩
  · have hm : (s.heap.objs.size == sysModules) = false := beq_eq_false_iff_ne.mpr (Nat.ne_of_gt I.big)
    rw [storedAllH_nil_of_nodup prs (by rw [kt_keys rel]; exact nd)] at hd'
    obtain ⟨o1, es, epo, ho1, h2, h3, h4, _, h5⟩ := hd'
    have hn := I.hok.fresh (Nat.le_refl s.heap.objs.size)
    have hlen : kvs.length ≤ sizeLine := by
      have e1 := rel.length
      rw [hl] at e1
      omega
    exact ⟨.ref s.heap.objs.size, upd H s.heap.objs.size (.dT kvs), I.laid (t' := tk) (fun b o e => k b o (by simp) e) (Nat.le_refl _) (show ObjOk X.prog X.w _ _ _ (.dT kvs) from ⟨hlen, hm, prs, rel.keeps fun c ys ec => by
      rw [upd_ne (fun z => by rw [z, hn] at ec; cases ec)]; exact ec, o1, es, epo, ho1, h2, h3, h4, h5⟩), rfl, q _ hn⟩
end
end Lk
set_option Elab.async false
set_option linter.all false
set_option maxRecDepth 100000
namespace Lk
open PySem PySem.Spec PyProof.Rows L2 GxR
/-! the spots of turns in a list, as a dict -/
def spk : Nat → List Tn → List (List Key × V)
  | _, [] => []
  | i, t :: W => (tk t, nv i) :: spk (i + 1) W
theorem spk_get : ∀ (W : List Tn) (i : Nat) {t : Tn}, t ∈ W → valV (spk i W) (tk t) = some (nv (i + W.idxOf t))
  | [], _, _, h => absurd h List.not_mem_nil
  | u :: W, i, t, h => by
    unfold spk
    by_cases e : u = t
    · subst e
      rw [List.idxOf_cons_self]
      exact valV_pos rfl
    · rw [valV_neg fun e' => e (tk_inj e'), spk_get W (i + 1) ((List.mem_cons.mp h).resolve_left fun z => e z.symm)]
      have e1 : (u :: W).idxOf t = W.idxOf t + 1 := by rw [List.idxOf_cons, beq_false_of_ne e]; rfl
      rw [e1, show i + 1 + W.idxOf t = i + (W.idxOf t + 1) by omega]
theorem spk_keys : ∀ (W : List Tn) (i : Nat), (spk i W).map (·.1) = W.map tk
  | [], _ => rfl
  | u :: W, i => by unfold spk; rw [List.map_cons, spk_keys W, List.map_cons]
theorem spk_snoc : ∀ (W : List Tn) (i : Nat) (t : Tn), spk i (W ++ [t]) = spk i W ++ [(tk t, nv (i + W.length))]
  | [], i, t => rfl
  | u :: W, i, t => by
    rw [List.cons_append]
    unfold spk
    rw [spk_snoc W (i + 1) t, List.length_cons, List.cons_append, show i + 1 + W.length = i + (W.length + 1) by omega]
theorem spk_nodup {W : List Tn} (h : W.Nodup) (i : Nat) : ((spk i W).map (·.1)).Nodup := by
  rw [spk_keys]
  exact List.pairwise_map.mpr (List.Pairwise.imp (fun {a b} hne e => hne (tk_inj e)) h)
/-- pairs (turn, spot) -/
def PrA (H : Hp) (ps : List Addr) (kvs : List (List Key × V)) : Prop := Paired (fun p kv => ∃ q, H p = some (.tup [.ref q, kv.2]) ∧ H q = some (.tup (kv.1.map kV))) ps kvs
theorem PrA.same {H H' : Hp} {ps : List Addr} {kvs : List (List Key × V)} (s : Same H H') (h : PrA H ps kvs) : PrA H' ps kvs :=
  Paired.mapP h fun _ _ z => let ⟨q, h1, h2⟩ := z; ⟨q, s _ _ h1, s _ _ h2⟩
theorem PrA.put {H : Hp} {x : Addr} {xs : List V} {o : HO} {ps : List Addr} {kvs : List (List Key × V)} (h : PrA H ps kvs) (hx : H x = some (.lst xs)) : PrA (upd H x o) ps kvs :=
  Paired.mapP h fun _ _ z => let ⟨q, h1, h2⟩ := z; ⟨q, by rw [upd_ne (ne_of h1 hx fun z => by cases z)]; exact h1, by rw [upd_ne (ne_of h2 hx fun z => by cases z)]; exact h2⟩
theorem PrA.len {H : Hp} {ps : List Addr} {kvs : List (List Key × V)} (h : PrA H ps kvs) : ps.length = kvs.length := Paired.length h
theorem PrA.sq {K : PySem.W.Frag} {H : Hp} {ps : List Addr} {kvs : List (List Key × V)} (h : PrA H ps kvs) : Paired (fun p kv => ∃ q, SqT K H p [.ref q, kv.2] ∧ H q = some (.tup (kv.1.map kV))) ps kvs :=
  Paired.mapP h fun _ _ z => let ⟨q, h1, h2⟩ := z; ⟨q, SqT.of h1, h2⟩
theorem spk_len (W : List Tn) (i : Nat) : (spk i W).length = W.length := by
  have := congrArg List.length (spk_keys W i)
  rwa [List.length_map, List.length_map] at this
/-! rows -/
def iRow (p n : Nat) (W : List Tn) (t : Tn) : Rw := ((List.replicate W.length 0).set (W.idxOf t) 1).set (W.idxOf (stl n)) (p - 1)
def iRows (p n : Nat) (W : List Tn) (t : Tn) : List Rw := if W.idxOf t ≠ W.idxOf (stl n) then [iRow p n W t] else []
theorem initR_eq (p n : Nat) (W : List Tn) : initR p n W = W.flatMap (iRows p n W) := rfl
theorem iRow_ok {p n : Nat} (hp : 1 < p) (W : List Tn) (t : Tn) : RowOk p W.length (iRow p n W t) := by
  unfold iRow
  refine ⟨by rw [List.length_set, List.length_set, List.length_replicate], fun x hx => ?_⟩
  rcases List.mem_or_eq_of_mem_set hx with h | h
  · rcases List.mem_or_eq_of_mem_set h with h | h
    · rw [(List.mem_replicate.mp h).2]; omega
    · omega
  · omega
theorem iRows_ok {p n : Nat} (hp : 1 < p) (W : List Tn) (t : Tn) : (∀ r ∈ iRows p n W t, RowOk p W.length r) ∧ (iRows p n W t).length ≤ 1 := by
  unfold iRows
  split
  · exact ⟨fun r hr => by rw [List.mem_singleton.mp hr]; exact iRow_ok hp W t, Nat.le_refl _⟩
  · exact ⟨fun r hr => absurd hr List.not_mem_nil, Nat.zero_le _⟩
theorem flatMap_le {α β : Type} (f : α → List β) (c : Nat) (h : ∀ x, (f x).length ≤ c) : ∀ l : List α, (l.flatMap f).length ≤ c * l.length
  | [] => Nat.zero_le _
  | x :: l => by
    rw [List.flatMap_cons, List.length_append, List.length_cons, Nat.mul_succ]
    have := flatMap_le f c h l
    have := h x
    omega
theorem flat_take {α β : Type} {f : α → List β} {l : List α} {i : Nat} {x : α} (h : l[i]? = some x) : (l.take (i + 1)).flatMap f = (l.take i).flatMap f ++ f x := by
  rw [take_succ h, List.flatMap_append, List.flatMap_cons, List.flatMap_nil, List.append_nil]
def mRow (p : Nat) (W : List Tn) (one : Rw) (g : Tn) : Rw := minus p (moved p W.length (tab W g) one) one
theorem stepR_eq (p : Nat) (W lock : List Tn) (rows : List Rw) : stepR p W lock rows = rows.flatMap fun one => lock.map (mRow p W one) := rfl
theorem mov1_len (p : Nat) (mv : Rw) (sx : Nat × Nat) : (mov1 p mv sx).length = mv.length := List.length_set
theorem movf_len (p : Nat) : ∀ (l : List (Nat × Nat)) (mv : Rw), (l.foldl (mov1 p) mv).length = mv.length
  | [], _ => rfl
  | x :: l, mv => by rw [List.foldl_cons, movf_len p l, mov1_len]
theorem moved_len (p m : Nat) (tb : List Nat) (one : Rw) : (moved p m tb one).length = m := by unfold moved; rw [movf_len, List.length_replicate]
theorem mRow_ok {p : Nat} (hp : 0 < p) {W : List Tn} {one : Rw} (h : RowOk p W.length one) (g : Tn) : RowOk p W.length (mRow p W one g) :=
  rowOk_zip (fun _ _ => Nat.mod_lt _ hp) (moved_len _ _ _ _) h.len
/-- lists of rows as data -/
def dr (rows : List Rw) : PyData := .list (rows.map di)
theorem RAs.dp {K : PySem.W.Frag} {H : Hp} {as : List Addr} {rows : List Rw} (h : RAs H as rows) : DpAll K H (rs as) (rows.map di) := by
  induction h with
  | nil => exact .nil
  | cons h _ ih => exact .cons (dpDi h) ih
theorem RL.dp {K : PySem.W.Frag} {H : Hp} {a : Addr} {rows : List Rw} (h : RL H a rows) : Dp K H (.ref a) (dr rows) := let ⟨_, h1, h2⟩ := h; .lst (SqL.of h1) h2.dp
theorem eqvR (rows : List Rw) : PyData.eqv (dr rows) (dr []) = decide (rows = []) := by
  unfold dr
  rw [PyData.eqv]
  cases rows with
  | nil => rfl
  | cons r rows => rw [decide_eq_false fun z => by cases z]; rfl
theorem canR : ∀ ts : List Rw, PyData.canLayAll0 (ts.map di) = true ∧ PyData.depthAll (ts.map di) ≤ 1
  | [] => ⟨rfl, Nat.zero_le _⟩
  | t :: ts => by
    obtain ⟨h1, h2⟩ := canR ts
    have h3 : PyData.canLay0 (di t) = true ∧ PyData.depth (di t) = 1 := by
      unfold di
      rw [PyData.canLay0, canI, PyData.depth, depI]
      exact ⟨rfl, rfl⟩
    rw [List.map_cons, PyData.canLayAll0, PyData.depthAll, h1, h3.1, h3.2]
    exact ⟨rfl, by omega⟩
theorem shR (ts : List Rw) : SeqAt.shaped (dr ts) = true := by
  obtain ⟨h1, h2⟩ := canR ts
  unfold SeqAt.shaped dr
  rw [PyData.canLay0, h1, PyData.depth, decide_eq_true (by omega)]
  rfl
end Lk
set_option Elab.async false
set_option linter.all false
set_option maxRecDepth 100000
namespace Lk
open PySem PySem.Spec PyProof.Rows L2 GxR
abbrev yDies : Stmt := topS 50
abbrev nmDies : List Str := ["_law_lock_here", "_law_whole", "_law_prime", "_law_nought", "_law_spots", "_law_now", "_law_turn", "_law_one", "_law_many", "_law_step", "_law_later", "_law_other", "_law_moved", "_law_number", "_law_spot", "_law_at", "_law_left", "_law_right"]
theorem syDies : FnScope nmDies ["_law_lock_here", "_law_whole", "_law_prime"] (defScope yDies) := ⟨rfl, rfl, rfl, by decide +kernel, rfl, by decide +kernel, by decide +kernel⟩
section
variable {P : Program} {w : World} {K : PySem.W.Frag} {mg : Str → Option Value} {base : Heap}
theorem tv_rep (m : Nat) : (List.replicate m [V.int 0]).flatten = tv (List.replicate m 0) := by
  unfold tv
  rw [List.map_replicate]
  induction m with
  | zero => rfl
  | succ m ih => rw [List.replicate_succ, List.flatten_cons, ih, List.replicate_succ]; rfl
theorem LF.dp {K : PySem.W.Frag} {z : Bool} {H : Hp} {a : Addr} {ts : List Tn} (h : LF z H a ts) : Dp K H (.ref a) (dl ts) := let ⟨_, h1, h2⟩ := h; .lst (SqL.of h1) h2.tas.dp
def spDies : Sp := fun vs H Q _ => ∃ (la wa : Addr) (n p v : Nat) (lock W : List Tn), vs = [.ref la, .ref wa, nv p] ∧ UA H la lock ∧ LF false H wa W ∧ lock ≠ [] ∧ lock.length ≤ 16 ∧ 1 ≤ n ∧ n ≤ 16 ∧ Grp n W ∧ Sub lock W ∧ PrOk p ∧ dies p n W lock = some v ∧ ∀ H', Same H H' → Q (nv v) H'
set_option maxHeartbeats 4000000 in
theorem ok_dies {f : Addr} {fd : FuncData} {k : Nat} (F : Fun K "_law_dies" "_law_dies" yDies f fd) (cB : Cal P w K mg base k "_law_behind" spBehindY) (cR : Cal P w K mg base k "_law_reduced" spRed)
    (mt : mg "tuple" = none) (mr : mg "range" = none) (ml : mg "len" = none) (md : mg "dict" = none) (mn : mg "enumerate" = none) (mz : mg "zip" = none) : FnOk P w K mg base CX0 (k + 1) f fd ["_law_lock_here", "_law_whole", "_law_prime"] spDies := by
  refine F.ok syDies (fun vs H Q E h => ?_) (fun cdv A outer s H vs Q E hr h => ?_)
  · obtain ⟨la, wa, n, p, v, lock, W, rfl, _⟩ := h
    rfl
  · obtain ⟨la, wa, n, p, v, lock, W, rfl, hL, hW, hne, hl4, hn1, hn, G, hs, hp, hd, q⟩ := h
    have hu : A.units + 3 + 65 < cLine := by have := hr.un; have e : (A.deeper (envOfC "_law_dies" (defScope yDies) s.heap.objs.size f cdv)).units = A.units + 3 := rfl; omega
    refine ⟨_, pss_cons (ps_par (i := 3) (j := 4) (by rfl) syDies.nd rfl rfl (by decide) rfl rfl
        (pa_cons (pe_bm PySem.F.plainAttrs_list PySem.F.slot_list_index PySem.F.type_list_index (mt_indexD hu) (pv 1) (pa_cons (pe_tupRg2 rfl (by rfl) mt (prg_1 (by rfl) mr (pe_callB call_len_seq (by rfl) ml PySem.boot_len (pa_cons (pe_ix ix_tup (pv 0) pe_int (fun _ _ => rfl)) pa_nil)))) pa_nil))
        (pa_cons (pe_callTy (call_dictPT rfl (show A.units + 3 + 3 < cLine by omega)) (by rfl) md (by decide +kernel) (pa_cons (pe_lc (own := [("_law_at", 15), ("_law_turn", 6)]) (g := gTup K 2 (gCons (gName 15) (gCons (gName 6) gNil))) (tt := tYes) (te := tTup (tCons (tVar 6) (tCons (tVar 15) tNil))) rfl syDies.nd
            (pi_enum (by rfl) mn (pa_cons (pv 1) pa_nil)) (blkOk_by (N := nmDies) (sc := defScope yDies) (by decide +kernel))
            (fun _ _ _ _ _ => pg_tup rfl (pgs_cons (pg_name (i := 15) syDies.nd rfl (Or.inl rfl)) (pgs_cons (pg_name (i := 6) syDies.nd rfl (Or.inl rfl)) pgs_nil))) (fun _ _ _ _ _ => pts_nil) (fun _ _ _ _ _ => pe_tup (pa_cons (pv 6) (pa_cons (pv 15) pa_nil)))) pa_nil)) pa_nil)) (by rfl))
      (pss_cons (ps_set (i := 5) syDies.nd rfl (.inl rfl) (pe_lst pa_nil))
      (pss_cons (ps_for PassesOwn.never rfl (pi_list (pv 1)) (pg_name (i := 6) syDies.nd rfl (.inl rfl))
        (pss_cons (ps_set (i := 7) syDies.nd rfl (.inl rfl) (pe_op op_rep (pe_lst (pa_cons pe_int pa_nil)) (pe_callB call_len_seq (by rfl) ml PySem.boot_len (pa_cons (pv 1) pa_nil))))
        (pss_cons (ps_asg (pe_tup (pa_cons pe_int (pa_cons (pe_op op_sub (pv 2) pe_int) pa_nil))) (pg_tup rfl (pgs_cons (pg_sub (pv 7) (pe_dget (show A.units + 3 + 1 < cLine by omega) (pv 4) (pv 6) (fun _ _ => rfl)) set_list) (pgs_cons (pg_sub (pv 7) (pv 3) set_list) pgs_nil))))
        (pss_one (ps_set (i := 5) syDies.nd rfl (.inl rfl) (pe_op op_cat (pv 5) (pe_ifExp (pt_cmpR op_ne (pe_dget (show A.units + 3 + 1 < cLine by omega) (pv 4) (pv 6) (fun _ _ => rfl)) (pv 3) (nomark _)) (pe_lst (pa_cons (pv 7) pa_nil)) (pe_lst pa_nil))))))))
      (pss_cons (ps_par (i := 5) (j := 8) (by rfl) syDies.nd rfl rfl (by decide) rfl rfl (pa_cons (pe_c cR hr (Nat.le_refl _) (by rfl) (pa_cons (pv 2) (pa_cons (pv 5) pa_nil))) (pa_cons pe_int pa_nil)) (by rfl))
      (pss_cons (ps_for PassesOwn.never rfl (pi_range1 rfl mr (pa_cons pe_int pa_nil)) (pg_name (i := 9) syDies.nd rfl (.inl rfl))
        (pss_cons (ps_if (pt_cmpR (op_eqD (show A.units + 3 + 64 < cLine by omega)) (pv 5) (pe_lst pa_nil) (nomark _)) (pss_one (ps_ret (pv 8))) pss_nil)
        (pss_cons (ps_set (i := 10) syDies.nd rfl (.inl rfl) (pe_lst pa_nil))
        (pss_cons (ps_for PassesOwn.never rfl (pi_list (pv 5)) (pg_name (i := 7) syDies.nd rfl (.inl rfl))
          (pss_one (ps_for PassesOwn.never rfl (pi_tup (pv 0)) (pg_name (i := 11) syDies.nd rfl (.inl rfl))
            (pss_cons (ps_set (i := 12) syDies.nd rfl (.inl rfl) (pe_op op_rep (pe_lst (pa_cons pe_int pa_nil)) (pe_callB call_len_seq (by rfl) ml PySem.boot_len (pa_cons (pv 1) pa_nil))))
            (pss_cons (ps_for PassesOwn.never rfl (pi_zip (by rfl) mz (pa_cons (pv 1) (pa_cons (pv 7) pa_nil))) (pg_tup rfl (pgs_cons (pg_name (i := 6) syDies.nd rfl (.inl rfl)) (pgs_cons (pg_name (i := 13) syDies.nd rfl (.inl rfl)) pgs_nil)))
              (pss_cons (ps_set (i := 14) syDies.nd rfl (.inl rfl) (pe_dget (show A.units + 3 + 1 < cLine by omega) (pv 4) (pe_c cB hr (Nat.le_refl _) (by rfl) (pa_cons (pv 6) (pa_cons (pv 11) pa_nil))) (fun _ _ => rfl)))
              (pss_one (ps_asg (pe_op op_mod (pe_op op_add (pe_ix ix_list (pv 12) (pv 14) (fun _ _ => rfl)) (pv 13)) (pv 2)) (pg_sub (pv 12) (pv 14) set_list)))))
            (pss_one (ps_expr (pe_bm PySem.F.plainAttrs_list PySem.F.slot_list_append PySem.F.type_list_append mt_append (pv 10) (pa_cons
              (pe_lc (own := [("_law_left", 16), ("_law_right", 17)]) (g := gTup K 2 (gCons (gName 16) (gCons (gName 17) gNil))) (tt := tYes) (te := tOp (rI (fun _ j => 0 < j) fun i j => .int (i % j)) (tOp (rI0 fun i j => .int (i - j)) (tVar 16) (tVar 17)) (tVar 2)) rfl syDies.nd
                (pi_zip (by rfl) mz (pa_cons (pv 12) (pa_cons (pv 7) pa_nil))) (blkOk_by (N := nmDies) (sc := defScope yDies) (by decide +kernel))
                (fun _ _ _ _ _ => pg_tup rfl (pgs_cons (pg_name (i := 16) syDies.nd rfl (Or.inl rfl)) (pgs_cons (pg_name (i := 17) syDies.nd rfl (Or.inl rfl)) pgs_nil))) (fun _ _ _ _ _ => pts_nil) (fun _ _ _ _ _ => pe_op op_mod (pe_op op_sub (pv 16) (pv 17)) (pv 2))) pa_nil)))))))))
        (pss_one (ps_par (i := 5) (j := 8) (by rfl) syDies.nd rfl rfl (by decide) rfl rfl (pa_cons (pe_c cR hr (Nat.le_refl _) (by rfl) (pa_cons (pv 2) (pa_cons (pv 10) pa_nil))) (pa_cons (pe_op op_add (pv 8) pe_int) pa_nil)) (by rfl)))))))
      (pss_one (ps_ret pe_non)))))), ?_⟩
    obtain ⟨ls, hl1, hl2⟩ := hL
    have hWd : LF false H wa W := hW
    obtain ⟨ws, hw1, hw2⟩ := hW
    have hp1 := hp.pos
    have hm := G.few
    have hWn := G.srt.nodup
    have hz := G.zero
    have hwl : ws.length = W.length := hw2.tas.len
    obtain ⟨l0, t0, hl0, hA0, ht0⟩ : ∃ l0 t0, atI (rs ls) 0 = some (.ref l0) ∧ TA H l0 t0 ∧ t0.length = n := by
      cases hl2 with
      | nil => exact absurd rfl hne
      | @cons l0 t0 _ _ h3 h4 => exact ⟨l0, t0, atI_nat (j := 0) rfl, h3, (G.isP t0 (hs t0 List.mem_cons_self)).len⟩
    refine ⟨.ref wa, rfl, .inl ⟨rfl, _, SqL.of hw1⟩, .ref la, rfl, la, rs ls, 0, .ref l0, rfl, rfl, SqT.of hl1, hl0, l0, tv t0, rfl, .inr (sqA hA0), n, by rw [tv_len, ht0], RgOk.of_le (by decide) (by omega) (by omega) (by omega), ?_⟩
    rw [rgV_tv]
    refine newT_of (z := false) fun H1 p1 s1 np1 hp1' => ?_
    have hzi := idxT hz
    refine ⟨wa, .ref p1, dt (stl n), W.map dt, W.idxOf (stl n), dt (stl n), rfl, rfl, (hWd.same s1).dp, TA.dp hp1'.ta, shL W, shT _, by rw [List.getElem?_map, List.getElem?_eq_getElem hzi, idxT_get hz]; rfl, by rw [eqvT]; simp, fun m' z' hm' hz' => ?_, ?_⟩
    · rw [List.getElem?_map] at hz'
      obtain ⟨u, hu1, rfl⟩ := Option.map_eq_some_iff.mp hz'
      rw [eqvT]
      refine decide_eq_false fun e => ?_
      subst e
      obtain ⟨h1, h2⟩ := List.getElem?_eq_some_iff.mp hu1
      have := idxT_of hWn h1
      rw [h2] at this
      omega
    have hw1' := s1 _ _ hw1
    refine ⟨.ref wa, rfl, wa, rs ws, rfl, SqL.of hw1', fun D nD => ?_⟩
    refine lc_it (walk_enum (xs := rs ws)) (fun k H3 => Same H1 H3 ∧ ∃ ps, H3 D = some (.lst (rs ps)) ∧ PrA H3 ps (spk 0 (W.take k))) ⟨same_upd nD, [], upd_same, .nil⟩ (fun k H3 _ h => SqL.of (h.1 _ _ hw1')) (fun k x H3 H4 hk h y => ?_) (fun H3 h => ?_)
    · obtain ⟨s3, ps, hD, hps⟩ := h
      obtain ⟨T, x1, x2, rfl, nT, rfl, g1, g2⟩ := y
      obtain rfl := Option.some.inj g1
      obtain ⟨wt, hwt, rfl⟩ := rs_get g2
      obtain ⟨t, ht, hT⟩ := hw2.get hwt
      have hkl := get_lt ht
      have sT := same_upd (o := .tup [V.int (k : Nat), .ref wt]) nT
      refine ⟨T, [V.int (k : Nat), .ref wt], rfl, SqT.of upd_same, rfl, V.int (k : Nat), [.ref wt], rfl, .ref wt, [], rfl, rfl, rfl, ?_⟩
      refine ⟨.ref wt, rfl, nv k, rfl, fewe (by simp), fun U nU => ?_⟩
      have sU := same_upd (o := .tup [.ref wt, nv k]) nU
      have hD2 := sU _ _ (sT _ _ hD)
      have hps2 := (hps.same sT).same sU
      have hU : (upd (upd H3 T (.tup [V.int (k : Nat), .ref wt])) U (.tup [.ref wt, nv k])) U = some (.tup [.ref wt, nv k]) := upd_same
      have hX : TX (upd (upd H3 T (.tup [V.int (k : Nat), .ref wt])) U (.tup [.ref wt, nv k])) wt t := sU _ _ (sT _ _ (s3 _ _ (s1 _ _ hT)))
      have s4 := (s3.trans sT).trans sU
      generalize upd (upd H3 T (.tup [V.int (k : Nat), .ref wt])) U (.tup [.ref wt, nv k]) = H5 at *
      have hpl := hps.len
      rw [spk_len, List.length_take] at hpl
      refine ⟨_, hD2, by rw [rs_len]; exact few (by omega), same_put s4 nD, ps ++ [U], by rw [upd_same, rs_snoc], ?_⟩
      rw [take_succ ht, spk_snoc, Nat.zero_add, List.length_take, Nat.min_eq_left (Nat.le_of_lt hkl)]
      exact Paired.snoc (hps2.put hD2) ⟨wt, by rw [upd_ne (ne_of hU hD2 fun z => by cases z)]; exact hU, by rw [upd_ne (ne_of hX hD2 fun z => by cases z)]; exact hX.key⟩
    obtain ⟨s3, ps, hD, hps⟩ := h
    rw [rs_len, hwl, List.take_length] at hps
    refine ⟨D, ps, spk 0 W, rfl, SqL.of hD, hps.sq, spk_nodup hWn 0, fun sp nsp => ⟨nv (W.idxOf (stl n)), .ref sp, rfl, ?_⟩⟩
    have s4 := (s1.trans s3).trans (same_upd (o := .dT (spk 0 W)) nsp)
    have hsp : (upd H3 sp (.dT (spk 0 W))) sp = some (.dT (spk 0 W)) := upd_same
    generalize upd H3 sp (.dT (spk 0 W)) = H4 at *
    clear hps hD ps nsp s3 nD D hw1' hp1' np1 s1 p1 H1 H3
    have hw1 := s4 _ _ hw1
    have hl1 := s4 _ _ hl1
    have hw2 := hw2.same s4
    have hl2 := hl2.same s4
    replace q : ∀ H', Same H4 H' → Q (nv v) H' := fun H' s => q H' (s4.trans s)
    have spot : ∀ {H' : Hp} {b : Addr} {t : Tn}, Same H4 H' → TX H' b t → t ∈ W → DGet H' sp (.ref b) (some (nv (W.idxOf t))) := fun s hX ht => by
      have e := spk_get W 0 ht
      rw [Nat.zero_add] at e
      rw [← e]
      exact DGet.t (s _ _ hsp) hX.key
    refine ⟨Nat.zero_le _, fun na nna => ?_⟩
    refine ⟨.ref wa, rfl, wa, rfl, ⟨_, SqL.of (same_upd nna _ _ hw1)⟩, for_list (xs := rs ws) (fun i σ H' => ∃ na y6 y7, σ = [some (.ref la), some (.ref wa), some (nv p), some (nv (W.idxOf (stl n))), some (.ref sp), some (.ref na), y6, y7, none, none, none, none, none, none, none, none, none, none] ∧ Same H4 H' ∧ RL H' na ((W.take i).flatMap (iRows p n W)))
      ⟨na, _, _, rfl, same_upd nna, [], upd_same, .nil⟩ (fun i σ H' _ h => ?_) (fun i x σ H' hx h => ?_) (fun σ H' h => ?_)⟩
    · obtain ⟨_, _, _, _, sm, _⟩ := h
      exact SqL.of (sm _ _ hw1)
    · obtain ⟨na, y6, y7, rfl, sm, as, hna, hRs⟩ := h
      obtain ⟨wt, hwt, rfl⟩ := rs_get hx
      obtain ⟨t, ht, hT⟩ := hw2.get hwt
      have htW := List.mem_of_getElem? ht
      have hil := get_lt ht
      refine ⟨fewe (by simp), fun l nl => ?_⟩
      have s5 := same_upd (o := .lst [.int 0]) nl
      refine ⟨.ref wa, rfl, wa, _, rfl, .inl (SqL.of (s5 _ _ (sm _ _ hw1))), l, (W.length : Int), _, rfl, by rw [rs_len, hwl], upd_same, by omega, by omega, fewe (by simp; omega), fun D nD => ?_⟩
      have sD := same_put (o := .lst (List.replicate ((W.length : Int)).toNat [V.int 0]).flatten) s5 (s5.free nD)
      have hD0 : (upd (upd H' l (.lst [.int 0])) D (.lst (List.replicate ((W.length : Int)).toNat [V.int 0]).flatten)) D = some (.lst (tv (List.replicate W.length 0))) := by
        rw [upd_same, show ((W.length : Int)).toNat = W.length from rfl, tv_rep]
      have nD' := s5.free nD
      generalize (upd (upd H' l (.lst [.int 0])) D (.lst (List.replicate ((W.length : Int)).toNat [V.int 0]).flatten)) = H5 at *
      refine ⟨nv p, rfl, (p : Int), 1, rfl, rfl, fewe (by simp), fun T nT => ?_⟩
      have sT := same_upd (o := .tup [V.int 1, V.int ((p : Int) - 1)]) nT
      have hTT : (upd H5 T (.tup [V.int 1, V.int ((p : Int) - 1)])) T = some (.tup [V.int 1, V.int ((p : Int) - 1)]) := upd_same
      have hD1 := sT _ _ hD0
      have s6 := sD.trans sT
      generalize upd H5 T (.tup [V.int 1, V.int ((p : Int) - 1)]) = H6 at *
      have s46 := sm.trans s6
      have hix := idxT htW
      refine ⟨T, [V.int 1, V.int ((p : Int) - 1)], rfl, SqT.of hTT, rfl, V.int 1, [V.int ((p : Int) - 1)], rfl, ?_⟩
      refine ⟨.ref D, rfl, .ref sp, rfl, .ref wt, rfl, sp, nv (W.idxOf t), rfl, spot s46 (s46 _ _ hT) htW, D, _, (W.idxOf t : Int), W.idxOf t, rfl, rfl, hD1, by rw [tv_len, List.length_replicate]; exact ixN_nat hix, ?_⟩
      have e1 : (tv (List.replicate W.length 0)).set (W.idxOf t) (V.int 1) = tv ((List.replicate W.length 0).set (W.idxOf t) 1) := tv_set _ _ 1
      rw [e1]
      have s7 : Same H' (upd H6 D (.lst (tv ((List.replicate W.length 0).set (W.idxOf t) 1)))) := same_put s6 nD'
      have hD2 : (upd H6 D (.lst (tv ((List.replicate W.length 0).set (W.idxOf t) 1)))) D = some (.lst (tv ((List.replicate W.length 0).set (W.idxOf t) 1))) := upd_same
      generalize upd H6 D (.lst (tv ((List.replicate W.length 0).set (W.idxOf t) 1))) = H7 at *
      refine ⟨V.int ((p : Int) - 1), [], rfl, .ref D, rfl, nv (W.idxOf (stl n)), rfl, D, _, (W.idxOf (stl n) : Int), W.idxOf (stl n), rfl, rfl, hD2, by rw [tv_len, List.length_set, List.length_replicate]; exact ixN_nat hzi, rfl, ?_⟩
      have e2 : (tv ((List.replicate W.length 0).set (W.idxOf t) 1)).set (W.idxOf (stl n)) (V.int ((p : Int) - 1)) = tv (iRow p n W t) := by
        rw [show V.int ((p : Int) - 1) = nv (p - 1) from congrArg V.int (by omega)]
        exact tv_set _ _ _
      rw [e2]
      have s8 : Same H' (upd H7 D (.lst (tv (iRow p n W t)))) := same_put s7 nD'
      have hD3 : (upd H7 D (.lst (tv (iRow p n W t)))) D = some (.lst (tv (iRow p n W t))) := upd_same
      generalize upd H7 D (.lst (tv (iRow p n W t))) = H8 at *
      have s48 := sm.trans s8
      have hna8 := s8 _ _ hna
      have hRs8 := hRs.same s8
      have hal := hRs.len
      have hfl := flatMap_le (iRows p n W) 1 (fun x => (iRows_ok hp1 W x).2) (W.take i)
      rw [List.length_take] at hfl
      refine ⟨.ref na, rfl, .ref sp, rfl, .ref wt, rfl, sp, nv (W.idxOf t), rfl, spot s48 (s48 _ _ hT) htW, nv (W.idxOf (stl n)), rfl, rfl, _, rfl, ?_⟩
      rw [nv_eq, flat_take ht]
      by_cases hc : W.idxOf t = W.idxOf (stl n)
      · rw [decide_eq_true hc, show iRows p n W t = [] from if_neg fun z => z hc]
        refine iteF ⟨Nat.zero_le _, fun l2 n2 => ?_⟩
        have s9 := same_upd (o := .lst []) n2
        refine ⟨na, l2, rs as, [], rfl, rfl, s9 _ _ hna8, upd_same, by rw [rs_len]; exact fewe (by simp; omega), fun n3 nn3 => ⟨n3, _, _, rfl, (s48.trans s9).trans (same_upd nn3), as, by rw [upd_same, List.append_nil], ?_⟩⟩
        exact (List.append_nil ((W.take i).flatMap (iRows p n W))).symm ▸ (hRs8.same s9).same (same_upd nn3)
      · rw [decide_eq_false hc, show iRows p n W t = [iRow p n W t] from if_pos hc]
        refine iteT ⟨.ref D, rfl, fewe (by simp), fun l2 n2 => ?_⟩
        have s9 := same_upd (o := .lst [.ref D]) n2
        refine ⟨na, l2, rs as, [.ref D], rfl, rfl, s9 _ _ hna8, upd_same, by rw [rs_len]; exact fewe (by simp; omega), fun n3 nn3 => ⟨n3, _, _, rfl, (s48.trans s9).trans (same_upd nn3), as ++ [D], by rw [upd_same, rs_snoc], ?_⟩⟩
        exact ((hRs8.same s9).same (same_upd nn3)).append (.cons (same_upd nn3 _ _ (s9 _ _ hD3)) .nil)
    obtain ⟨na, y6, y7, rfl, sm, hRL⟩ := h
    rw [rs_len, hwl, List.take_length, ← initR_eq] at hRL
    have hrow0 : ∀ r ∈ initR p n W, RowOk p W.length r := fun r hr => by
      rw [initR_eq] at hr
      obtain ⟨t, _, ht⟩ := List.mem_flatMap.mp hr
      exact (iRows_ok hp1 W t).1 r ht
    have hfl : (initR p n W).length ≤ 60 := by
      have := flatMap_le (iRows p n W) 1 (fun x => (iRows_ok hp1 W x).2) W
      rw [initR_eq]; omega
    have red0 := reduce_row hp hrow0
    refine ⟨nv p, rfl, .ref na, rfl, na, p, W.length, initR p n W, rfl, hRL, hp, hm, by omega, hrow0, fun H5 r5 s5 n5 h5 => ⟨.ref r5, .int 0, rfl, ?_⟩⟩
    refine ⟨60, rfl, by decide, by decide, for_range (lo := 0) (n := ((60 : Int)).toNat) (fun i σ H' => ∃ na R y6 y7 y9 y10 y11 y12 y13 y14, σ = [some (.ref la), some (.ref wa), some (nv p), some (nv (W.idxOf (stl n))), some (.ref sp), some (.ref na), y6, y7, some (nv i), y9, y10, y11, y12, y13, y14, none, none, none] ∧ Same H4 H' ∧ RL H' na R ∧ (∀ r ∈ R, RowOk p W.length r) ∧ R.length ≤ W.length ∧ die p W lock (60 - i) i R = some v)
      ⟨r5, reduce p (initR p n W), _, _, _, _, _, _, _, _, rfl, sm.trans s5, h5, red0.1, red0.2, hd⟩ (fun i σ H' hi h => ?_) (fun σ H' h => ?_)⟩
    · obtain ⟨na, R, y6, y7, y9, y10, y11, y12, y13, y14, rfl, s6, hR, hro, hrl, hdie⟩ := h
      have hi : i < 60 := hi
      rw [show (V.int (0 + (i : Int))) = nv i from by rw [Int.zero_add]; rfl]
      rw [show 60 - i = (60 - (i + 1)) + 1 by omega] at hdie
      unfold die at hdie
      refine ⟨.ref na, rfl, Nat.zero_le _, fun e0 ne0 => ?_⟩
      have s7 := same_upd (o := .lst []) ne0
      have hR7 := hR.same s7
      refine ⟨dr R, dr [], hR7.dp, RL.dp (rows := []) ⟨[], upd_same, .nil⟩, shR R, shR [], _, rfl, ?_⟩
      rw [eqvR]
      have s67 := s6.trans s7
      generalize upd H' e0 (.lst []) = H7 at *
      by_cases hRe : R = []
      · rw [decide_eq_true hRe]
        rw [if_pos hRe] at hdie
        refine iteT ⟨nv i, rfl, ?_⟩
        rw [Option.some.inj hdie]
        exact q _ s67
      rw [decide_eq_false hRe]
      rw [if_neg hRe] at hdie
      refine iteF ?_
      obtain ⟨as, hna, hRs⟩ := hR7
      have hal := hRs.len
      refine ⟨Nat.zero_le _, fun lt nlt => ?_⟩
      have s8 := same_upd (o := .lst []) nlt
      refine ⟨.ref na, rfl, na, rfl, ⟨_, SqL.of (s8 _ _ hna)⟩, for_list (xs := rs as) (fun j σ H' => ∃ y6 y7 y11 y12 y13 y14, σ = [some (.ref la), some (.ref wa), some (nv p), some (nv (W.idxOf (stl n))), some (.ref sp), some (.ref na), y6, y7, some (nv i), some (nv i), some (.ref lt), y11, y12, y13, y14, none, none, none] ∧ Same H7 H' ∧ ∃ bs, H' lt = some (.lst (rs bs)) ∧ RAs H' bs ((R.take j).flatMap fun one => lock.map (mRow p W one)) ∧ ∀ b ∈ bs, b ≠ lt)
        ⟨_, _, _, _, _, _, rfl, s8, [], upd_same, .nil, fun b hb => absurd hb List.not_mem_nil⟩ (fun j σ H' _ h => ?_) (fun j x σ H' hx h => ?_) (fun σ H' h => ?_)⟩
      · obtain ⟨_, _, _, _, _, _, _, sm, _⟩ := h
        exact SqL.of (sm _ _ hna)
      · obtain ⟨y6, y7, y11, y12, y13, y14, rfl, s9, bs, hlt, hbs, hbn⟩ := h
        obtain ⟨oa, hoa, rfl⟩ := rs_get hx
        obtain ⟨one, hone, hoH⟩ := hRs.get hoa
        have hro1 := hro one (List.mem_of_getElem? hone)
        have hjl := get_lt hone
        rw [flat_take hone]
        have hfl2 := flatMap_le (fun one => lock.map (mRow p W one)) lock.length (fun x => by rw [List.length_map]; exact Nat.le_refl _) (R.take j)
        rw [List.length_take, Nat.min_eq_left (Nat.le_of_lt hjl)] at hfl2
        have hpr : lock.length * j ≤ 16 * 60 := Nat.mul_le_mul hl4 (by omega)
        generalize (R.take j).flatMap (fun one => lock.map (mRow p W one)) = rows at *
        have s79 := s67.trans s9
        refine ⟨.ref la, rfl, la, rfl, ⟨_, SqT.of (s79 _ _ hl1)⟩, for_tup (xs := rs ls) (fun k σ H' => ∃ y6 y11 y12 y13 y14, σ = [some (.ref la), some (.ref wa), some (nv p), some (nv (W.idxOf (stl n))), some (.ref sp), some (.ref na), y6, some (.ref oa), some (nv i), some (nv i), some (.ref lt), y11, y12, y13, y14, none, none, none] ∧ Same H7 H' ∧ ∃ bs, H' lt = some (.lst (rs bs)) ∧ RAs H' bs (rows ++ (lock.take k).map (mRow p W one)) ∧ ∀ b ∈ bs, b ≠ lt)
          ⟨_, _, _, _, _, rfl, s9, bs, hlt, by rw [List.take_zero, List.map_nil, List.append_nil]; exact hbs, hbn⟩ (fun k σ H' _ h => ?_) (fun k x σ H' hx h => ?_) (fun σ H' h => ?_)⟩
        · obtain ⟨_, _, _, _, _, _, sm, _⟩ := h
          exact SqT.of (sm _ _ (s67 _ _ hl1))
        · clear s79 hbs hbn hlt bs s9
          obtain ⟨y6, y11, y12, y13, y14, rfl, s9, bs, hlt, hbs, hbn⟩ := h
          obtain ⟨ga, hga, rfl⟩ := rs_get hx
          obtain ⟨g, hg, hG⟩ := hl2.get hga
          have hgW := hs g (List.mem_of_getElem? hg)
          have hgP := G.isP g hgW
          have hkl := get_lt hg
          have s69 := s67.trans s9
          refine ⟨fewe (by simp), fun l nl => ?_⟩
          have s10 := same_upd (o := .lst [.int 0]) nl
          refine ⟨.ref wa, rfl, wa, _, rfl, .inl (SqL.of (s10 _ _ (s69 _ _ hw1))), l, (W.length : Int), _, rfl, by rw [rs_len, hwl], upd_same, by omega, by omega, fewe (by simp; omega), fun D nD => ?_⟩
          have sD := same_put (o := .lst (List.replicate ((W.length : Int)).toNat [V.int 0]).flatten) s10 (s10.free nD)
          have hD0 : (upd (upd H' l (.lst [.int 0])) D (.lst (List.replicate ((W.length : Int)).toNat [V.int 0]).flatten)) D = some (.lst (tv (List.replicate W.length 0))) := by
            rw [upd_same, show ((W.length : Int)).toNat = W.length from rfl, tv_rep]
          have nD' := s10.free nD
          generalize (upd (upd H' l (.lst [.int 0])) D (.lst (List.replicate ((W.length : Int)).toNat [V.int 0]).flatten)) = H10 at *
          have hoN := s9 _ _ hoH
          have htab : (tab W g).length = W.length := List.length_map _
          refine ⟨.ref wa, rfl, .ref oa, rfl, wa, oa, rs ws, tv one, rfl, SqL.of (sD _ _ (s69 _ _ hw1)), SqL.of (sD _ _ hoN), for_it (walk_zip (xs := rs ws) (ys := tv one) (n := W.length) (by rw [rs_len, hwl, tv_len, hro1.len, Nat.min_self]))
            (fun m σ H2 => ∃ y6 y13 y14, σ = [some (.ref la), some (.ref wa), some (nv p), some (nv (W.idxOf (stl n))), some (.ref sp), some (.ref na), y6, some (.ref oa), some (nv i), some (nv i), some (.ref lt), some (.ref ga), some (.ref D), y13, y14, none, none, none] ∧ Same H' H2 ∧ H2 D = some (.lst (tv ((((tab W g).zip one).take m).foldl (mov1 p) (List.replicate W.length 0)))))
            ⟨_, _, _, rfl, sD, hD0⟩ (fun m σ H2 _ h => ?_) (fun m x σ H2 H3 hm h y => ?_) (fun σ H2 h => ?_)⟩
          · obtain ⟨_, _, _, _, sm, _⟩ := h
            exact ⟨SqL.of (sm _ _ (s69 _ _ hw1)), SqL.of (sm _ _ hoN)⟩
          · clear hD0 sD
            obtain ⟨y6, y13, y14, rfl, s11, hD⟩ := h
            obtain ⟨T, x1, x2, rfl, nT, rfl, g1, g2⟩ := y
            obtain ⟨wt, hwt, rfl⟩ := rs_get g1
            obtain ⟨c, hc, rfl⟩ := tv_get g2
            obtain ⟨t, ht, hT⟩ := hw2.get hwt
            have htW := List.mem_of_getElem? ht
            have htP := G.isP t htW
            have sT := same_upd (o := .tup [.ref wt, nv c]) nT
            have hD3 := sT _ _ hD
            have s12 := s11.trans sT
            have hTu : (upd H2 T (.tup [.ref wt, nv c])) T = some (.tup [.ref wt, nv c]) := upd_same
            generalize upd H2 T (.tup [.ref wt, nv c]) = H3 at *
            have s13 := s69.trans s12
            refine ⟨T, [.ref wt, nv c], rfl, SqT.of hTu, rfl, .ref wt, [nv c], rfl, nv c, [], rfl, rfl, ?_⟩
            have hbW := G.mul t htW g hgW
            refine ⟨.ref sp, rfl, .ref wt, rfl, .ref ga, rfl, false, wt, ga, t, g, rfl, (hT.same s13).ta, hG.same s13, by rw [htP.len]; omega, fun x hx => by rw [hgP.len]; exact htP.lt x hx, fun H8 b8 s8' n8 h8 => ?_⟩
            refine ⟨sp, nv (W.idxOf (beh t g)), rfl, spot (s13.trans s8') h8 hbW, ?_⟩
            have hD8 := s8' _ _ hD3
            have hix := idxT hbW
            have hzip : ((tab W g).zip one)[m]? = some (W.idxOf (beh t g), c) := by
              rw [List.getElem?_zip_eq_some]
              exact ⟨by unfold tab; rw [List.getElem?_map, ht]; rfl, hc⟩
            rw [fold_take hzip]
            have hml : ((((tab W g).zip one).take m).foldl (mov1 p) (List.replicate W.length 0)).length = W.length := by rw [movf_len, List.length_replicate]
            generalize (((tab W g).zip one).take m).foldl (mov1 p) (List.replicate W.length 0) = mv at *
            have hmvx : (tv mv)[W.idxOf (beh t g)]? = some (nv (mv.getD (W.idxOf (beh t g)) 0)) := tv_of (by rw [List.getD_eq_getElem?_getD, List.getElem?_eq_getElem (by rw [hml]; exact hix)]; rfl)
            refine ⟨.ref D, rfl, nv (W.idxOf (beh t g)), rfl, D, tv mv, (W.idxOf (beh t g) : Int), nv (mv.getD (W.idxOf (beh t g)) 0), rfl, rfl, SqL.of hD8, atI_nat hmvx, nv c, rfl, ((mv.getD (W.idxOf (beh t g)) 0 : Nat) : Int), (c : Int), rfl, rfl, nv p, rfl, ((mv.getD (W.idxOf (beh t g)) 0 : Nat) : Int) + (c : Int), (p : Int), rfl, rfl, (show (0 : Int) < (p : Int) by omega), ?_⟩
            refine ⟨.ref D, rfl, nv (W.idxOf (beh t g)), rfl, D, _, (W.idxOf (beh t g) : Int), W.idxOf (beh t g), rfl, rfl, hD8, by rw [tv_len, hml]; exact ixN_nat hix, ?_⟩
            refine ⟨_, _, _, rfl, same_put (s12.trans s8') nD', ?_⟩
            rw [upd_same]
            show some (HO.lst ((tv mv).set (W.idxOf (beh t g)) (V.int ((((mv.getD (W.idxOf (beh t g)) 0 : Nat) : Int) + (c : Int)) % (p : Int))))) = _
            rw [show V.int ((((mv.getD (W.idxOf (beh t g)) 0 : Nat) : Int) + (c : Int)) % (p : Int)) = nv ((mv.getD (W.idxOf (beh t g)) 0 + c) % p) from congrArg V.int (by rw [Int.natCast_emod, Int.natCast_add]), tv_set]
            rfl
          · clear hD0 sD
            obtain ⟨y6, y13, y14, rfl, s11, hD⟩ := h
            have hzl : ((tab W g).zip one).length = W.length := by rw [List.length_zip, htab, hro1.len, Nat.min_self]
            rw [show ((tab W g).zip one).take W.length = (tab W g).zip one from by rw [← hzl, List.take_length]] at hD
            have hD : H2 D = some (.lst (tv (moved p W.length (tab W g) one))) := hD
            have hlt2 := s11 _ _ hlt
            have hmln := moved_len p W.length (tab W g) one
            have hmm : mRow p W one g = minus p (moved p W.length (tab W g) one) one := rfl
            have hmo := mRow_ok (by omega : 0 < p) hro1 g
            generalize moved p W.length (tab W g) one = mv at *
            refine ⟨.ref lt, rfl, .inl ⟨rfl, _, SqL.of hlt2⟩, .ref D, rfl, .ref oa, rfl, D, oa, tv mv, tv one, rfl, SqL.of hD, SqL.of (s11 _ _ hoN), fun C nC => ?_⟩
            refine lc_it (walk_zip (xs := tv mv) (ys := tv one) (n := W.length) (by rw [tv_len, tv_len, hmln, hro1.len, Nat.min_self])) (fun m H3 => Same H2 H3 ∧ H3 C = some (.lst (tv ((mRow p W one g).take m)))) ⟨same_upd nC, upd_same⟩ (fun m H3 _ h => ⟨SqL.of (h.1 _ _ hD), SqL.of (h.1 _ _ (s11 _ _ hoN))⟩) (fun m x H3 H4' hm' h y => ?_) (fun H3 h => ?_)
            · obtain ⟨s14, hC⟩ := h
              obtain ⟨T, x1, x2, rfl, nT, rfl, g1, g2⟩ := y
              obtain ⟨c1, hc1, rfl⟩ := tv_get g1
              obtain ⟨c2, hc2, rfl⟩ := tv_get g2
              have sT := same_upd (o := .tup [nv c1, nv c2]) nT
              have hlt2' : c2 < p := hro1.lt c2 (List.mem_of_getElem? hc2)
              have hzk : (mRow p W one g)[m]? = some ((c1 + (p - c2)) % p) := by rw [hmm]; unfold minus; rw [List.getElem?_zipWith, hc1, hc2]
              refine ⟨T, [nv c1, nv c2], rfl, SqT.of upd_same, rfl, nv c1, [nv c2], rfl, nv c2, [], rfl, rfl, rfl, ?_⟩
              refine ⟨nv c1, rfl, nv c2, rfl, (c1 : Int), (c2 : Int), rfl, rfl, nv p, rfl, (c1 : Int) - (c2 : Int), (p : Int), rfl, rfl, (show (0 : Int) < (p : Int) by omega), _, sT _ _ hC, ?_, same_put (s14.trans sT) nC, ?_⟩
              · rw [tv_len, List.length_take]; exact few (by omega)
              · rw [upd_same, take_succ hzk, ← tv_snoc]
                show some (HO.lst (_ ++ [V.int (((c1 : Int) - (c2 : Int)) % (p : Int))])) = _
                have e := sub_mod (l := c1) (f := c2) (r := 1) (p := p) (Nat.le_of_lt hlt2')
                rw [show (c2 : Int) * ((1 : Nat) : Int) = (c2 : Int) by omega, Nat.mul_one] at e
                rw [e]
                rfl
            · obtain ⟨s14, hC⟩ := h
              rw [← hmo.len, List.take_length] at hC
              have s15 := s11.trans s14
              have hlt3 := s15 _ _ hlt
              have hbl := hbs.len
              rw [List.length_append, List.length_map, List.length_take] at hbl
              have nCl : C ≠ lt := fun e => by rw [e, hlt2] at nC; cases nC
              refine ⟨lt, rs bs, .ref C, rfl, rfl, hlt3, by rw [rs_len]; exact few (by omega), _, _, _, _, _, rfl, same_put (s9.trans s15) nlt, bs ++ [C], by rw [upd_same, rs_snoc], ?_, ?_⟩
              · rw [take_succ hg, List.map_append, ← List.append_assoc]
                exact ((hbs.same s15).put hbn).append (.cons (by rw [upd_ne nCl]; exact hC) .nil)
              · intro b hb
                rcases List.mem_append.mp hb with z | z
                · exact hbn b z
                · rw [List.mem_singleton.mp z]; exact nCl
        · obtain ⟨y6, y11, y12, y13, y14, rfl, s9', bs', hlt', hbs', hbn'⟩ := h
          rw [rs_len, hl2.len, List.take_length] at hbs'
          exact ⟨_, _, _, _, _, _, rfl, s9', bs', hlt', hbs', hbn'⟩
      · obtain ⟨y6, y7, y11, y12, y13, y14, rfl, s9, bs, hlt, hbs, hbn⟩ := h
        rw [rs_len, hal, List.take_length, ← stepR_eq] at hbs
        have hrow1 : ∀ r ∈ stepR p W lock R, RowOk p W.length r := fun r hr => by
          rw [stepR_eq] at hr
          obtain ⟨one, h1, h2⟩ := List.mem_flatMap.mp hr
          obtain ⟨g, hg, rfl⟩ := List.mem_map.mp h2
          exact mRow_ok (by omega) (hro one h1) g
        have hfl2 := flatMap_le (fun one => lock.map (mRow p W one)) lock.length (fun x => by rw [List.length_map]; exact Nat.le_refl _) R
        rw [← stepR_eq] at hfl2
        have hpr : lock.length * R.length ≤ 16 * 60 := Nat.mul_le_mul hl4 (by omega)
        have red1 := reduce_row hp hrow1
        refine ⟨nv p, rfl, .ref lt, rfl, lt, p, W.length, stepR p W lock R, rfl, ⟨bs, hlt, hbs⟩, hp, hm, by omega, hrow1, fun H9 r9 s10 n9 h9 => ⟨nv i, rfl, (i : Int), 1, rfl, rfl, .ref r9, .int ((i : Int) + 1), rfl, ?_⟩⟩
        exact ⟨r9, reduce p (stepR p W lock R), _, _, _, _, _, _, _, _, rfl, (s67.trans s9).trans s10, h9, red1.1, red1.2, hdie⟩
    · obtain ⟨na, R, y6, y7, y9, y10, y11, y12, y13, y14, rfl, s6, hR, hro, hrl, hdie⟩ := h
      cases hdie
end
end Lk
set_option Elab.async false
set_option linter.all false
set_option maxRecDepth 100000
namespace Lk
open PySem PySem.Spec PyProof.Rows L2 GxR
abbrev yAlike : Stmt := topS 40
abbrev nmAlike : List Str := ["_law_found", "_law_due", "_law_k"]
theorem syAlike : FnScope nmAlike ["_law_found", "_law_due"] (defScope yAlike) := ⟨rfl, rfl, rfl, by decide +kernel, rfl, by decide +kernel, by decide +kernel⟩
/-- alike: ints that are the same, tuples of the same length whose items are alike -/
inductive Alk (K : PySem.W.Frag) (H : Hp) : Nat → V → V → Prop
  | int (d : Nat) (i : Int) : Alk K H d (.int i) (.int i)
  | tup {d : Nat} {a b : Addr} {xs ys : List V} : SqT K H a xs → SqT K H b ys → xs.length = ys.length → xs.length ≤ 1000 → (∀ (i : Nat) (x y : V), xs[i]? = some x → ys[i]? = some y → Alk K H d x y) → Alk K H (d + 1) (.ref a) (.ref b)
theorem SqT.same {K : PySem.W.Frag} {H H' : Hp} {a : Addr} {xs : List V} (s : Same H H') (h : SqT K H a xs) : SqT K H' a xs := by
  rcases h with (z | ⟨o, z⟩) | z
  · exact .inl (.inl (s _ _ z))
  · exact .inl (.inr ⟨o, s _ _ z⟩)
  · exact .inr z
theorem Alk.same {K : PySem.W.Frag} {H H' : Hp} {d : Nat} {x y : V} (s : Same H H') (h : Alk K H d x y) : Alk K H' d x y := by
  induction h with
  | int d i => exact .int d i
  | tup h1 h2 h3 h4 _ ih => exact .tup (SqT.same s h1) (SqT.same s h2) h3 h4 ih
theorem SqT.tyx {K : PySem.W.Frag} {H : Hp} {a : Addr} {xs : List V} (h : SqT K H a xs) : TyX K H (.ref a) (.type "tuple") := by
  rcases h with (z | ⟨o, z⟩) | ⟨o, its, n, hk, hc, _⟩
  · exact .base (.tup z)
  · exact .fTuple z
  · exact .kTuple hk hc
/-- the promise, by depth -/
def spAlk (K : PySem.W.Frag) : Nat → Sp
  | 0 => fun _ _ _ _ => False
  | d + 1 => fun vs H Q _ => ∃ x y, vs = [x, y] ∧ Alk K H d x y ∧ ∀ H', Same H H' → Q (.bl true) H'
section
variable {P : Program} {w : World} {K : PySem.W.Frag} {mg : Str → Option Value} {base : Heap}
theorem kit2T : PySem.W.kitAny K (.type "tuple") [.type "tuple", .type "list"] = some true :=
  kitAny_cons (b := true) (kit_ty (by decide +kernel)) (fun z => by cases z) fun _ => rfl
theorem kit2I : PySem.W.kitAny K (.type "int") [.type "tuple", .type "list"] = some false :=
  kitAny_cons (b := false) (kit_ty (by decide +kernel)) (fun _ => kitAny_cons (b := false) (kit_ty (by decide +kernel)) (fun _ => kitAny_nil) fun z => by cases z) fun z => by cases z
theorem cls2 : Paired ClsV [V.ty "tuple", V.ty "list"] [Value.type "tuple", Value.type "list"] := .cons (.ty _) (.cons (.ty _) .nil)
set_option maxHeartbeats 4000000 in
theorem ok_alike {f : Addr} {fd : FuncData} {k d : Nat} (F : Fun K "_law_alike" "_law_alike" yAlike f fd) (cA : Cal P w K mg base k "_law_alike" (spAlk K d))
    (mi : mg "isinstance" = none) (mt : mg "tuple" = none) (ml : mg "list" = none) (mr : mg "range" = none) (mn : mg "len" = none) (ms : mg "str" = none) (mx : mg "int" = none) (mb : mg "bool" = none) : FnOk P w K mg base CX0 (k + 1) f fd ["_law_found", "_law_due"] (spAlk K (d + 1)) := by
  refine F.ok syAlike (fun vs H Q E h => ?_) (fun cdv A outer s H vs Q E hr h => ?_)
  · obtain ⟨x, y, rfl, _⟩ := h
    rfl
  · obtain ⟨x, y, rfl, hA, q⟩ := h
    have hu : A.units + 3 + 64 < cLine := by have := hr.un; have e : (A.deeper (envOfC "_law_alike" (defScope yAlike) s.heap.objs.size f cdv)).units = A.units + 3 := rfl; omega
    refine ⟨_, pss_cons (ps_if (pt_val (pe_callB call_isiT (by rfl) mi (by decide +kernel) (pa_cons (pv 1) (pa_cons (pe_tup (pa_cons (pe_bltn (by rfl) mt (by decide +kernel) (show RelV (.ty "tuple") (.type "tuple") from rfl)) (pa_cons (pe_bltn (by rfl) ml (by decide +kernel) (show RelV (.ty "list") (.type "list") from rfl)) pa_nil))) pa_nil))))
        (pss_cons (ps_if (PW.pt (pw_or (pt_not (pt_val (pe_callB call_isiT (by rfl) mi (by decide +kernel) (pa_cons (pv 0) (pa_cons (pe_tup (pa_cons (pe_bltn (by rfl) mt (by decide +kernel) (show RelV (.ty "tuple") (.type "tuple") from rfl)) (pa_cons (pe_bltn (by rfl) ml (by decide +kernel) (show RelV (.ty "list") (.type "list") from rfl)) pa_nil))) pa_nil)))))
            (pw_or1 (pt_cmpR op_ne (pe_callB call_isi (by rfl) mi (by decide +kernel) (pa_cons (pv 0) (pa_cons (pe_bltn (by rfl) ml (by decide +kernel) (show RelV (.ty "list") (.type "list") from rfl)) pa_nil))) (pe_callB call_isi (by rfl) mi (by decide +kernel) (pa_cons (pv 1) (pa_cons (pe_bltn (by rfl) ml (by decide +kernel) (show RelV (.ty "list") (.type "list") from rfl)) pa_nil))) (nomark _))))) pss_never pss_nil)
        (pss_cons (ps_if (pt_cmpR op_ne (pe_callB call_len_seq (by rfl) mn PySem.boot_len (pa_cons (pv 0) pa_nil)) (pe_callB call_len_seq (by rfl) mn PySem.boot_len (pa_cons (pv 1) pa_nil)) (nomark _)) pss_never pss_nil)
        (pss_one (ps_ret (pe_cmpR (op_eqD hu) (pe_lc (own := [("_law_k", 2)]) (g := gName 2) (tt := tNot (tB (tCall (spAlk K d) [] E0 (tCons (tOp (rIxT K) (tVar 0) (tVar 2)) (tCons (tOp (rIxT K) (tVar 1) (tVar 2)) tNil))))) (te := tVar 2) rfl syAlike.nd
            (pi_range1 rfl mr (pa_cons (pe_callB call_len_seq (by rfl) mn PySem.boot_len (pa_cons (pv 1) pa_nil)) pa_nil)) (blkOk_by (N := nmAlike) (sc := defScope yAlike) (by decide +kernel))
            (fun _ _ _ _ _ => pg_name (i := 2) syAlike.nd rfl (Or.inl rfl)) (fun _ _ _ _ _ => pts_one (pt_not (pt_val (pe_c cA hr (Nat.le_refl _) (by rfl) (pa_cons (pe_ix ix_tup (pv 0) (pv 2) (fun _ _ => rfl)) (pa_cons (pe_ix ix_tup (pv 1) (pv 2) (fun _ _ => rfl)) pa_nil)))))) (fun _ _ _ _ _ => pv 2))
          (pe_lst pa_nil) (nomark _)))))) pss_nil)
      (pss_cons (ps_if (PW.pt (pw_or (pt_cmpR op_isN (pv 1) pe_non (nomark _)) (pw_or1 (pt_val (pe_callB call_isi (by rfl) mi (by decide +kernel) (pa_cons (pv 1) (pa_cons (pe_bltn (by rfl) ms (by decide +kernel) (show RelV (.ty "str") (.type "str") from rfl)) pa_nil))))))) pss_never pss_nil)
      (pss_one (ps_ret (pe_and (pe_callB call_isi (by rfl) mi (by decide +kernel) (pa_cons (pv 0) (pa_cons (pe_bltn (by rfl) mx (by decide +kernel) (show RelV (.ty "int") (.type "int") from rfl)) pa_nil)))
        (pe_and (pe_cmpR op_eq (pe_callB call_isi (by rfl) mi (by decide +kernel) (pa_cons (pv 0) (pa_cons (pe_bltn (by rfl) mb (by decide +kernel) (show RelV (.ty "bool") (.type "bool") from rfl)) pa_nil))) (pe_callB call_isi (by rfl) mi (by decide +kernel) (pa_cons (pv 1) (pa_cons (pe_bltn (by rfl) mb (by decide +kernel) (show RelV (.ty "bool") (.type "bool") from rfl)) pa_nil))) (nomark _))
          (pe_one (pe_cmpR op_eq (pv 0) (pv 1) (nomark _)))))))), ?_⟩
    cases hA with
    | int d i =>
      refine ⟨.int i, rfl, fewe (by simp), fun T nT => ?_⟩
      have s1 := same_upd (o := .tup [.ty "tuple", .ty "list"]) nT
      refine ⟨.int i, T, _, _, _, false, rfl, upd_same, cls2, .base (.int i), kit2I, false, rfl, ?_⟩
      refine iteF ⟨.int i, rfl, rfl, _, rfl, ?_⟩
      refine iteF ⟨.int i, rfl, .int i, .ty "str", _, _, false, rfl, .ty _, .base (.int i), kit_ty (by decide +kernel), false, rfl, ?_⟩
      refine iteF ⟨.int i, rfl, .int i, .ty "int", _, _, true, rfl, .ty _, .base (.int i), kit_ty (by decide +kernel), true, rfl, ?_⟩
      refine iteT ⟨.int i, rfl, .int i, .ty "bool", _, _, false, rfl, .ty _, .base (.int i), kit_ty (by decide +kernel), .int i, rfl, .int i, .ty "bool", _, _, false, rfl, .ty _, .base (.int i), kit_ty (by decide +kernel), rfl, true, rfl, ?_⟩
      refine iteT ⟨.int i, rfl, .int i, rfl, rfl, ?_⟩
      rw [decide_eq_true rfl]
      exact q _ s1
    | @tup d' a b xs ys h1 h2 h3 h4 h5 =>
      refine ⟨.ref b, rfl, fewe (by simp), fun T nT => ?_⟩
      have s1 := same_upd (o := .tup [.ty "tuple", .ty "list"]) nT
      have h1a := SqT.same s1 h1
      have h2a := SqT.same s1 h2
      refine ⟨.ref b, T, _, _, _, true, rfl, upd_same, cls2, SqT.tyx h2a, kit2T, true, rfl, ?_⟩
      refine iteT ⟨.ref a, rfl, fewe (by simp), fun T2 nT2 => ?_⟩
      have s2 := same_upd (o := .tup [.ty "tuple", .ty "list"]) nT2
      have s12 := s1.trans s2
      have h1b := SqT.same s12 h1
      have h2b := SqT.same s12 h2
      refine ⟨.ref a, T2, _, _, _, true, rfl, upd_same, cls2, SqT.tyx h1b, kit2T, true, rfl, ?_⟩
      have s02 := s1.trans s2
      have h1c := SqT.same s02 h1
      have h2c := SqT.same s02 h2
      generalize upd (upd H T (.tup [.ty "tuple", .ty "list"])) T2 (.tup [.ty "tuple", .ty "list"]) = H2 at *
      refine iteF ⟨.ref a, rfl, .ref a, .ty "list", _, _, false, rfl, .ty _, SqT.tyx h1c, kit_ty (by decide +kernel), .ref b, rfl, .ref b, .ty "list", _, _, false, rfl, .ty _, SqT.tyx h2c, kit_ty (by decide +kernel), rfl, _, rfl, ?_⟩
      refine iteF ⟨.ref a, rfl, a, xs, rfl, .inr h1c, .ref b, rfl, b, ys, rfl, .inr h2c, rfl, _, rfl, ?_⟩
      rw [h3, decide_eq_true rfl]
      refine iteF ⟨.ref b, rfl, b, ys, rfl, .inr h2c, (ys.length : Int), rfl, by omega, by omega, fun D nD => ?_⟩
      refine lc_range (lo := 0) (n := ((ys.length : Int)).toNat) (fun i H' => Same H2 H' ∧ H' D = some (.lst [])) ⟨same_upd nD, upd_same⟩ (fun i H' hi h => ?_) (fun H' h => ?_)
      · obtain ⟨s3, hD⟩ := h
        have hi2 : i < ys.length := hi
        rw [show (V.int (0 + (i : Int))) = nv i from by rw [Int.zero_add]; rfl]
        obtain ⟨x, hx⟩ : ∃ x, xs[i]? = some x := ⟨xs[i], List.getElem?_eq_getElem (by omega)⟩
        obtain ⟨y, hy⟩ : ∃ y, ys[i]? = some y := ⟨ys[i], List.getElem?_eq_getElem hi2⟩
        refine ⟨rfl, ?_⟩
        refine ⟨.ref a, rfl, nv i, rfl, a, xs, (i : Int), x, rfl, rfl, SqT.same s3 h1c, atI_nat hx, .ref b, rfl, nv i, rfl, b, ys, (i : Int), y, rfl, rfl, SqT.same s3 h2c, atI_nat hy, x, y, rfl, (h5 i x y hx hy).same (s02.trans s3), fun H4 s4 => ⟨true, rfl, ?_⟩⟩
        exact iteF ⟨s3.trans s4, s4 _ _ hD⟩
      · obtain ⟨s3, hD⟩ := h
        refine ⟨Nat.zero_le _, fun e0 ne0 => ?_⟩
        have s4 := same_upd (o := .lst []) ne0
        refine ⟨di [], di [], dpDi (t := []) (s4 _ _ hD), dpDi (t := []) upd_same, shI _, shI _, ?_⟩
        rw [eqvDi, decide_eq_true rfl]
        exact q _ ((s02.trans s3).trans s4)
end
end Lk
set_option Elab.async false
set_option linter.all false
set_option maxRecDepth 100000
namespace Lk
open PySem PySem.Spec PyProof.Rows L2 GxR
/-! how long the chains' givens are -/
def ChG (w : Nat) (chs : List Ch) : Prop := ∀ ch ∈ chs, ch.given.length ≤ w
theorem ChG.more {w w' : Nat} {chs : List Ch} (h : ChG w chs) (hw : w ≤ w') : ChG w' chs := fun ch hc => Nat.le_trans (h ch hc) hw
theorem chG_snoc {w : Nat} {chs : List Ch} {ch : Ch} (h : ChG w chs) (h1 : ch.given.length ≤ w) : ChG w (chs ++ [ch]) := fun x hx => by
  rcases List.mem_append.mp hx with z | z
  · exact h x z
  · rw [List.mem_singleton.mp z]; exact h1
theorem chG_fil1 {n p w v : Nat} {term : List Tn} {sc : List Tn × List Ch} {ch : Ch} (h : ChG v sc.2) (h1 : ch.given.length ≤ v) : ChG v (fil1 n p w term sc ch).2 := by
  unfold fil1
  split
  · split
    · exact chG_snoc h h1
    · exact chG_snoc h h1
  · exact chG_snoc h h1
theorem chG_fil2 {n w v : Nat} {term : List Tn} {sc : List Tn × List Ch} {tg : Tn × List Tn} (h : ChG v sc.2) (h1 : tg.2.length ≤ v) : ChG v (fil2 n w term sc tg).2 := by
  unfold fil2
  split
  · split
    · exact chG_snoc h h1
    · exact h
  · exact h
theorem chG_fold1 {n p w v : Nat} {term : List Tn} : ∀ (chs : List Ch) (sc : List Tn × List Ch), ChG v chs → ChG v sc.2 → ChG v (chs.foldl (fil1 n p w term) sc).2
  | [], _, _, h => h
  | ch :: r, sc, hc, h => chG_fold1 r _ (fun x hx => hc x (List.mem_cons_of_mem _ hx)) (chG_fil1 h (hc ch List.mem_cons_self))
theorem chG_fold2 {n w v : Nat} {term : List Tn} : ∀ (d : List (Tn × List Tn)) (sc : List Tn × List Ch), (∀ tg ∈ d, tg.2.length ≤ v) → ChG v sc.2 → ChG v (d.foldl (fil2 n w term) sc).2
  | [], _, _, h => h
  | tg :: r, sc, hd, h => chG_fold2 r _ (fun x hx => hd x (List.mem_cons_of_mem _ hx)) (chG_fil2 h (hd tg List.mem_cons_self))
theorem chG_fil {n p w : Nat} {lock term later W : List Tn} {chs : List Ch} (G : Grp n W) (hs : Sub lock W) (hw : 1 ≤ w) (h : ChG w chs) : ChG w (fil n p lock w term later chs) :=
  chG_fold2 _ _ (fun tg ht => by have := (co_com G hs (w - 1)).len tg ht; omega) (chG_fold1 chs (later, []) h fun x hx => absurd hx List.not_mem_nil)
theorem chG_chn {n p : Nat} {lock W : List Tn} (G : Grp n W) (hs : Sub lock W) : ∀ (terms : List (List Tn)) (w : Nat) (chs : List Ch), 1 ≤ w → ChG w chs → ChG (w + terms.length) (chn n p lock w terms chs)
  | [], w, chs, _, h => h
  | [_], w, chs, _, h => h.more (by simp)
  | one :: other :: r, w, chs, hw, h => by
    unfold chn
    have := chG_chn (p := p) G hs (other :: r) (w + 1) _ (by omega) ((chG_fil (n := n) (p := p) (term := one) (later := other) G hs hw h).more (Nat.le_succ w))
    exact this.more (by rw [List.length_cons, List.length_cons, List.length_cons]; omega)
theorem chn_len {n p : Nat} {lock W : List Tn} (G : Grp n W) (hs : Sub lock W) : ∀ (terms : List (List Tn)) (w : Nat) (chs : List Ch), (chn n p lock w terms chs).length ≤ chs.length + 60 * terms.length
  | [], w, chs => Nat.le_refl _
  | [_], w, chs => Nat.le_add_right _ _
  | one :: other :: r, w, chs => by
    unfold chn
    have h1 := chn_len (p := p) G hs (other :: r) (w + 1) (fil n p lock w one other chs)
    have h2 := fil_len (n := n) (p := p) (w := w) (term := one) (later := other) (chs := chs) G hs
    simp only [List.length_cons] at *
    omega
/-! what is known of the chains -/
structure ChL (n p : Nat) (lock : List Tn) (chs : List Ch) : Prop where
  ok : ChK n p chs
  sub : ∀ ch ∈ chs, Sub ch.given lock
  len : chs.length ≤ 3000
  small : ∀ ch ∈ chs, ch.given.length ≤ 41 ∧ p ^ ch.long ≤ 150
theorem chl_of {n p : Nat} {lock W : List Tn} {wt : List (List Tn)} (hn : n ≤ 16) (G : Grp n W) (hs : Sub lock W) (hp : PrOk p) (hT : ∀ T ∈ wt ++ [[stl n]], Sub T W ∧ Srt T) (hl : (wt ++ [[stl n]]).length ≤ 40) : ChL n p lock (chn n p lock 1 (wt ++ [[stl n]]) []) := by
  have h1 := chn_ok hn G (p := p) hs (wt ++ [[stl n]]) 1 [] hT fun x hx => absurd hx List.not_mem_nil
  have h2 := chB_chn (n := n) (p := p) (lock := lock) (wt ++ [[stl n]]) 1 [] (Nat.le_refl _) fun x hx => absurd hx List.not_mem_nil
  have h3 := chG_chn (p := p) G hs (wt ++ [[stl n]]) 1 [] (Nat.le_refl _) fun x hx => absurd hx List.not_mem_nil
  have h4 := chn_len (n := n) (p := p) G hs (wt ++ [[stl n]]) 1 []
  rw [List.length_nil] at h4
  generalize chn n p lock 1 (wt ++ [[stl n]]) [] = chs at *
  have hp3 : p ≤ 3 ∧ 2 ≤ p := by rcases hp with z | z <;> omega
  have hb : ∀ ch ∈ chs, p ^ ch.long ≤ 150 := fun ch hc => by
    obtain ⟨a1, a2⟩ := h2 ch hc
    have : p * ch.fin ≤ 3 * 41 := Nat.mul_le_mul hp3.1 (by omega)
    omega
  refine ⟨fun ch hc => ?_, fun ch hc => (h1 ch hc).2.1, by omega, fun ch hc => ⟨Nat.le_trans (h3 ch hc) (by omega), hb ch hc⟩⟩
  have a1 := h1 ch hc
  have a3 := h3 ch hc
  have a2 := hb ch hc
  have a4 : ch.long < p ^ ch.long := Nat.lt_pow_self (by omega)
  exact ⟨a1.2.2, fun t ht => G.isP t (hs t (a1.2.1 t ht)), by omega, by omega, by omega⟩
/-! the products -/
theorem prod1_len (p : Nat) (ch : Ch) : ∀ found : List Tn, (prod1 p found ch).length = found.length * p ^ ch.long
  | [] => by unfold prod1; simp
  | x :: r => by
    have := prod1_len p ch r
    unfold prod1 at *
    rw [List.flatMap_cons, List.length_append, this, List.length_map, List.length_range, List.length_cons, Nat.succ_mul]
    omega
theorem prodf_len {p : Nat} (hp : 1 ≤ p) : ∀ (chs : List Ch) (found : List Tn), found.length ≤ (chs.foldl (prod1 p) found).length
  | [], _ => Nat.le_refl _
  | ch :: r, found => by
    rw [List.foldl_cons]
    refine Nat.le_trans ?_ (prodf_len hp r _)
    rw [prod1_len]
    exact Nat.le_mul_of_pos_right _ (Nat.pow_pos hp)
theorem prod_take {p : Nat} (hp : 1 ≤ p) (chs : List Ch) (found : List Tn) (i : Nat) : ((chs.take i).foldl (prod1 p) found).length ≤ (chs.foldl (prod1 p) found).length := by
  conv => rhs; rw [← List.take_append_drop i chs, List.foldl_append]
  exact prodf_len hp _ _
theorem prod1_isP {n p : Nat} {found : List Tn} {ch : Ch} (hf : AllP n found) (hg : AllP n ch.given) (hne : ch.given ≠ []) : AllP n (prod1 p found ch) := fun t ht => by
  obtain ⟨one, h1, h2⟩ := List.mem_flatMap.mp ht
  obtain ⟨k, hk, rfl⟩ := List.mem_map.mp h2
  exact isP_beh (hf one h1) (isP_pwr (bturn_cnj (isP_stl n) hg hne).2 k)
theorem prodf_isP {n p : Nat} : ∀ (chs : List Ch) (found : List Tn), AllP n found → (∀ ch ∈ chs, AllP n ch.given ∧ ch.given ≠ []) → AllP n (chs.foldl (prod1 p) found)
  | [], _, h, _ => h
  | ch :: r, found, h, hc => prodf_isP r _ (prod1_isP h (hc ch List.mem_cons_self).1 (hc ch List.mem_cons_self).2) fun x hx => hc x (List.mem_cons_of_mem _ hx)
theorem nodup_or : ∀ l : List Tn, l.Nodup ∨ ∃ l' : List Tn, l'.length < l.length ∧ ∀ x ∈ l, x ∈ l'
  | [] => .inl List.nodup_nil
  | a :: r => by
    by_cases h : a ∈ r
    · refine .inr ⟨r, Nat.lt_succ_self _, fun x hx => ?_⟩
      rcases List.mem_cons.mp hx with z | z
      · rw [z]; exact h
      · exact z
    · rcases nodup_or r with z | ⟨l', h1, h2⟩
      · exact .inl (List.nodup_cons.mpr ⟨h, z⟩)
      · refine .inr ⟨a :: l', Nat.succ_lt_succ h1, fun x hx => ?_⟩
        rcases List.mem_cons.mp hx with z | z
        · rw [z]; exact List.mem_cons_self
        · exact List.mem_cons_of_mem _ (h2 x z)
theorem nodup_of_setS {n : Nat} (hn : n ≤ 16) {l W : List Tn} (hP : AllP n l) (e : setS l = W) (hl : l.length = W.length) : l.Nodup := by
  have hd := (srt_setS hn hP).nodup
  rw [e] at hd
  have hm : ∀ x, x ∈ W → x ∈ l := fun x hx => by
    rw [← e] at hx
    exact (mem_setS hn hP x).mp hx
  rcases nodup_or l with z | ⟨l', h1, h2⟩
  · exact z
  · have := pigeon W l' hd fun x hx => h2 x (hm x hx)
    omega
end Lk
set_option Elab.async false
set_option linter.all false
set_option maxRecDepth 100000
namespace Lk
open PySem PySem.Spec PyProof.Rows L2 GxR
abbrev yLaw : Stmt := topS 54
abbrev nmLaw : List Str := ["_law_script", "_law_row", "_law_kinds", "_law_lock_here", "_law_whole", "_law_sizes", "_law_told", "e", "_law_prime", "_law_bases_here", "_law_found", "_law_turn", "_law_many", "_law_length", "_law_later", "_law_one", "_law_term", "_law_given", "_law_long", "_law_times"]
theorem syLaw : FnScope nmLaw ["_law_script"] (defScope yLaw) := ⟨rfl, rfl, rfl, by decide +kernel, rfl, by decide +kernel, by decide +kernel⟩
/-- the scope in which the law's nested comprehension stands -/
abbrev scIn : Scope := { kind := .function, names := [(".0", .local), ("_law_given", .local), ("_law_long", .local), ("_law_lock_here", .cell)], isGenerator := false, isCoroutine := false }
/-- x not in t, t a tuple of data -/
def rNotInT (K : PySem.W.Frag) : R2 := fun x y H Q => ∃ d ds, Dp K H x d ∧ Dp K H y (.tuple ds) ∧ SeqAt.shaped d = true ∧ SeqAt.shaped (.tuple ds) = true ∧ Q (.bl (!ds.any fun z => PyData.eqv z d)) H
theorem op_notInT {X : Cx} (hu : X.A.units + 65 < cLine) : OpR X (compareOp .NotIn) (rNotInT X.K) := by
  intro pins s σ H x y v u Q I rx ry h
  obtain ⟨d, ds, hd, he, sd, se, q⟩ := h
  obtain ⟨as, r1⟩ := Dp.reads I d x v hd rx
  obtain ⟨bs, r2⟩ := Dp.reads I (.tuple ds) y u he ry
  exact SeqAt.notIn_tuple_reads r2 r1 (SeqAt.canLay_of_shaped se) (SeqAt.canLay_of_shaped sd) (room_in_shaped sd hu) ⟨.bl _, H, I, rfl, q⟩
def rLenS (K : PySem.W.Frag) : List V → Hp → VK → Prop := fun xs H Q => ∃ p ys, xs = [.ref p] ∧ (SqL K H p ys ∨ SqT K H p ys) ∧ Q (.int ys.length) H
theorem call_lenS {X : Cx} : CallR X (.builtin "len") (rLenS X.K) := call_len_seq
end Lk
set_option Elab.async false
set_option linter.all false
set_option maxRecDepth 100000
namespace Lk
open PySem PySem.Spec PyProof.Rows L2 GxR
theorem kd_four : KindOk "four" := ⟨4, k_four, w_four, by decide +kernel, good_four, by decide, by decide, by decide, by decide⟩
theorem kd_klein : KindOk "klein" := ⟨4, k_klein, w_klein, by decide +kernel, good_klein, by decide, by decide, by decide, by decide⟩
theorem kd_square : KindOk "square" := ⟨4, k_square, w_square, by decide +kernel, good_square, by decide, by decide, by decide, by decide⟩
theorem kd_cube : KindOk "cube" := ⟨6, k_cube, w_cube, by decide +kernel, good_cube, by decide, by decide, by decide, by decide⟩
theorem kd_eight : KindOk "eight" := ⟨8, k_eight, w_eight, by decide +kernel, good_eight, by decide, by decide, by decide, by decide⟩
theorem kd_nine : KindOk "nine" := ⟨9, k_nine, w_nine, by decide +kernel, good_nine, by decide, by decide, by decide, by decide⟩
theorem kd_quaternions : KindOk "quaternions" := ⟨8, k_quaternions, w_quaternions, by decide +kernel, good_quaternions, by decide, by decide, by decide, by decide⟩
theorem kd_threes : KindOk "threes" := ⟨6, k_threes, w_threes, by decide +kernel, good_threes, by decide, by decide, by decide, by decide⟩
theorem kd_three : KindOk "three" := ⟨3, k_three, w_three, by decide +kernel, good_three, by decide, by decide, by decide, by decide⟩
theorem kd_heis : KindOk "heis" := ⟨9, k_heis, w_heis, by decide +kernel, good_heis, by decide, by decide, by decide, by decide⟩
theorem kd_ten : KindOk "ten" := ⟨5, k_ten, w_ten, by decide +kernel, good_ten, by decide, by decide, by decide, by decide⟩
abbrev kinds9 : List Str := ["four", "klein", "square", "quaternions", "eight", "cube", "threes", "nine", "heis"]
abbrev kinds3 : List Str := ["three", "ten", "four"]
theorem kds9 : ∀ k ∈ kinds9, KindOk k := by
  intro k hk
  simp only [List.mem_cons, List.not_mem_nil, or_false] at hk
  rcases hk with rfl | rfl | rfl | rfl | rfl | rfl | rfl | rfl | rfl
  · exact kd_four
  · exact kd_klein
  · exact kd_square
  · exact kd_quaternions
  · exact kd_eight
  · exact kd_cube
  · exact kd_threes
  · exact kd_nine
  · exact kd_heis
theorem kds3 : ∀ k ∈ kinds3, KindOk k := by
  intro k hk
  simp only [List.mem_cons, List.not_mem_nil, or_false] at hk
  rcases hk with rfl | rfl | rfl
  · exact kd_three
  · exact kd_ten
  · exact kd_four
/-- the lock of the law -/
theorem law_pick {K : PySem.W.Frag} {σ : L2.St} {H : Hp} {r t z : Addr} {rest : L2.TS} {D : Ends} {k : Nat} (h1 : σ[1]? = some (some (.ref r))) (h2 : σ[2]? = some (some (.ref t))) (hR : RowA K z H r) (ht : H t = some (.lst (kinds9.map V.str)))
    (q : ∀ H' la n lock W, Kr r H H' → RowA K z H' r → la ≠ r → GL n lock W → LockA H' la n lock → rest D (σ.set k (some (.ref la))) H') :
    tSeq (tAsg (tIf (tTest (tOp (rI0 fun i j => .bl (decide (j < i))) (tCall (spTaken K) [] E0 (tCons (tVar 1) (tCons (tC (.int 4)) tNil))) (tC (.int 0)))) (tCall (spKnown K) [] E0 (tCons (tVar 1) (tCons (tVar 2) tNil)))
      (tCall (spKnown K) [] E0 (tCons (tVar 1) (tCons (tLst (tCons (tC (.str "three")) (tCons (tC (.str "ten")) (tCons (tC (.str "four")) tNil)))) tNil)))) (gName k)) rest D σ H := by
  have tr : t ≠ r := fun e => by
    obtain ⟨i, x, rr, h⟩ := hR.row
    rw [e, h] at ht
    cases ht
  refine ⟨.ref r, h1, r, z, 4, rfl, hR, by omega, by omega, fun H3 v k3 hR3 hv => ⟨(v : Int), 0, rfl, rfl, _, rfl, ?_⟩⟩
  have ht3 := k3 _ _ tr ht
  by_cases hz : (0 : Int) < (v : Int)
  · rw [decide_eq_true hz]
    exact iteT ⟨.ref r, h1, .ref t, h2, r, z, t, kinds9, rfl, hR3, ht3, tr, by decide, by decide, kds9, fun H4 la n lock W k4 hR4 _ lr gl hL => q H4 la n lock W (k3.trans k4) hR4 lr gl hL⟩
  · rw [decide_eq_false hz]
    refine iteF ⟨.ref r, h1, fewe (by simp), fun t2 n2 => ?_⟩
    have s2 := same_upd (o := .lst [V.str "three", V.str "ten", V.str "four"]) n2
    exact ⟨r, z, t2, kinds3, rfl, hR3.same s2, upd_same, hR3.lt n2, by decide, by decide, kds3, fun H4 la n lock W k4 hR4 _ lr gl hL => q H4 la n lock W ((k3.same s2).trans k4) hR4 lr gl hL⟩
end Lk
set_option Elab.async false
set_option linter.all false
set_option maxRecDepth 100000
namespace Lk
open PySem PySem.Spec PyProof.Rows L2 GxR
theorem SameT.lx {Pt : Addr} {H H' : Hp} {as : List Addr} {ts : List Tn} (s : SameT Pt H H') (hT : TabG H Pt) (h : TFs false H as ts) : TFs false H' as ts := by
  induction h with
  | nil => exact .nil
  | cons h _ ih => exact .cons (s.at hT h fun _ z => by cases z) ih
theorem SameT.lf {Pt : Addr} {H H' : Hp} {a : Addr} {ts : List Tn} (s : SameT Pt H H') (hT : TabG H Pt) (h : LF false H a ts) : LF false H' a ts := let ⟨as, h1, h2⟩ := h; ⟨as, s.at hT h1 (fun _ z => by cases z), s.lx hT h2⟩
theorem SameT.bas {Pt : Addr} {H H' : Hp} {p : Nat} {as : List Addr} {chs : List Ch} (s : SameT Pt H H') (hT : TabG H Pt) (h : BAs p H as chs) : BAs p H' as chs := by
  induction h with
  | nil => exact .nil
  | cons h1 h2 _ ih => exact .cons (s.at hT h1 fun _ z => by cases z) (s.ta hT h2) ih
theorem SameT.bl {Pt : Addr} {H H' : Hp} {p : Nat} {a : Addr} {chs : List Ch} (s : SameT Pt H H') (hT : TabG H Pt) (h : BL p H a chs) : BL p H' a chs := let ⟨as, h1, h2⟩ := h; ⟨as, s.at hT h1 (fun _ z => by cases z), s.bas hT h2⟩
/-- tuples of tuples of turns are alike -/
theorem alk_tn {K : PySem.W.Frag} {H : Hp} {a b : Addr} {t : Tn} (h1 : TA H a t) (h2 : TA H b t) (hl : t.length ≤ 1000) : Alk K H 1 (.ref a) (.ref b) :=
  .tup (sqA h1) (sqA h2) rfl (by rw [tv_len]; exact hl) fun i x y hx hy => by
    rw [hx] at hy
    cases hy
    obtain ⟨n, _, rfl⟩ := tv_get hx
    exact .int _ _
theorem alk_ua {K : PySem.W.Frag} {H : Hp} {a b : Addr} {ts : List Tn} (h1 : UA H a ts) (h2 : UA H b ts) (hl : ts.length ≤ 1000) (ht : ∀ t ∈ ts, t.length ≤ 1000) : Alk K H 2 (.ref a) (.ref b) := by
  obtain ⟨as, ha, hA⟩ := h1
  obtain ⟨bs, hb, hB⟩ := h2
  refine .tup (SqT.of ha) (SqT.of hb) (by rw [rs_len, rs_len, hA.len, hB.len]) (by rw [rs_len, hA.len]; exact hl) fun i x y hx hy => ?_
  obtain ⟨xa, hxa, rfl⟩ := rs_get hx
  obtain ⟨ya, hya, rfl⟩ := rs_get hy
  obtain ⟨t, ht1, hX⟩ := hA.get hxa
  obtain ⟨u, ht2, hY⟩ := hB.get hya
  rw [ht1] at ht2
  cases ht2
  exact alk_tn hX hY (ht t (List.mem_of_getElem? ht1))
theorem UAs.get {H : Hp} {a : Addr} {as : List Addr} {tss : List (List Tn)} (h : UAs H as tss) {i : Nat} (e : as[i]? = some a) : ∃ ts, tss[i]? = some ts ∧ UA H a ts := by
  induction h generalizing i with
  | nil => simp at e
  | cons h1 _ ih =>
    cases i with
    | zero => simp at e; subst e; exact ⟨_, rfl, h1⟩
    | succ i => exact ih (by simpa using e)
theorem alk_uu {K : PySem.W.Frag} {H : Hp} {a b : Addr} {tss : List (List Tn)} (h1 : UUA H a tss) (h2 : UUA H b tss) (hl : tss.length ≤ 1000) (ht : ∀ ts ∈ tss, ts.length ≤ 1000 ∧ ∀ t ∈ ts, t.length ≤ 1000) : Alk K H 3 (.ref a) (.ref b) := by
  obtain ⟨as, ha, hA⟩ := h1
  obtain ⟨bs, hb, hB⟩ := h2
  refine .tup (SqT.of ha) (SqT.of hb) (by rw [rs_len, rs_len, hA.len, hB.len]) (by rw [rs_len, hA.len]; exact hl) fun i x y hx hy => ?_
  obtain ⟨xa, hxa, rfl⟩ := rs_get hx
  obtain ⟨ya, hya, rfl⟩ := rs_get hy
  obtain ⟨t, ht1, hX⟩ := hA.get hxa
  obtain ⟨u, ht2, hY⟩ := hB.get hya
  rw [ht1] at ht2
  cases ht2
  have z := ht t (List.mem_of_getElem? ht1)
  exact alk_ua hX hY z.1 z.2
theorem shU (ts : List Tn) : SeqAt.shaped (.tuple (ts.map dt)) = true := by
  obtain ⟨h1, h2⟩ := canTs ts
  unfold SeqAt.shaped
  rw [PyData.canLay0, h1, PyData.depth, decide_eq_true (by omega)]
  rfl
section
variable {P : Program} {w : World} {K : PySem.W.Frag} {mg : Str → Option Value} {base : Heap}
def spLaw (K : PySem.W.Frag) (Pt : Addr) : Sp := fun vs H Q _ => ∃ (z : Addr) (ns : List Int), vs = [.ref z] ∧ SqL K H z (ns.map V.int) ∧ TabG H Pt ∧ ∀ H', Q (.bl true) H'
/-- what the law calls -/
structure Calls (P : Program) (w : World) (K : PySem.W.Frag) (mg : Str → Option Value) (base : Heap) (Pt C : Addr) (k : Nat) : Prop where
  np : NPc K mg C
  cT : Cal P w K mg base k "_law_taken" (spTaken K)
  cK : Cal P w K mg base k "_law_known" (spKnown K)
  cL : Cal P w K mg base k "_law_lock" (spKnown K)
  cS : Cal P w K mg base k "_law_span" spSpanY
  cN : CalX P w K mg base k "told_number" (spTold Pt C)
  cA : Cal P w K mg base k "_law_alike" (spAlk K 4)
  cD : Cal P w K mg base k "_law_dies" spDies
  cW : Cal P w K mg base k "weighed" (spWed Pt)
  cY : Cal P w K mg base k "_law_weighed" spWedY
  cB : Cal P w K mg base k "_law_bases" spBasesY
  cC : Cal P w K mg base k "chains" (spChains Pt)
  cH : Cal P w K mg base k "_law_behind" spBehindY
  cP : Cal P w K mg base k "_law_power" spPowerY
abbrev t_tryB (K : PySem.W.Frag) (Pt C : Addr) : WX → TS := fun W => tSeq (tAsg (tCallS (spTold Pt C) (WE W) (tCons (tVar 3) tNil)) (gName 6)) (tIfS (tTest (tOp rNe (tCB (rLenS K) (tCons (tVar 5) tNil)) (tC (.int 1)))) (tRet (tC (.bl false))) tNext)
abbrev t_tryS (K : PySem.W.Frag) : Addr → Value → Option Addr → TS := fun _ _ _ => tRet (tOp rNe (tCB (rLenS K) (tCons (tVar 5) tNil)) (tC (.int 1)))
set_option maxHeartbeats 4000000 in
/-- the law behind its bases -/
theorem law_tailB {f Pt C : Addr} {k : Nat} {cdv : Value} {A : Around} {outer : List Env} {s : Shared} {H0 : Hp} {E : XK} {Q : VK} (c : Calls P w K mg base Pt C k) (hr : Room k (A.deeper (envOfC "law" (defScope yLaw) s.heap.objs.size f cdv)))
    (ml : mg "len" = none) (mt : mg "tuple" = none) (mr : mg "range" = none) (mu : mg "sum" = none) (ms : mg "sorted" = none) :
    ∃ t : L2.TS, PSs (cxOf CX0 P w K mg base nmLaw "law" (defScope yLaw) f cdv A outer s H0 E).nox ((defBody yLaw).drop 10) t ∧
      ∀ (la wa ba : Addr) (n p : Nat) (lock W : List Tn) (wt : List (List Tn)) (x0 x1 x2 x5 x7 : Option V) (H15 : Hp), LockP H15 la n p lock W wt → LF false H15 wa W → TabG H15 Pt → BL p H15 ba (chn n p lock 1 (wt ++ [[stl n]]) []) → ChL n p lock (chn n p lock 1 (wt ++ [[stl n]]) []) →
        (∀ H', Q (.bl true) H') → t { nx := fun _ H' => Q .non H', rt := Q } [x0, x1, x2, some (.ref la), some (.ref wa), x5, some (nv (toldF p (wt ++ [[stl n]]))), x7, some (nv p), some (.ref ba), none, none, none, none, none, none, none, none, none, none] H15 := by
  have hu : A.units + 3 + 65 < cLine := by have := hr.un; have e : (A.deeper (envOfC "law" (defScope yLaw) s.heap.objs.size f cdv)).units = A.units + 3 := rfl; omega
  refine ⟨_, pss_cons (ps_if (pt_cmpR op_ne (pe_callB (cr_sum rfl) (by rfl) mu (by decide +kernel) (pa_cons
          (pe_lc (own := [("_law_turn", 11), ("_law_many", 12), ("_law_length", 13)]) (g := gTup K 3 (gCons (gName 11) (gCons (gName 12) (gCons (gName 13) gNil)))) (tt := tYes) (te := tOp (rI CMulW fun i j => .int (i * j)) (tVar 13) (tOp (rI0 fun i j => .int (i - j)) (tVar 12) (tC (.int 1)))) rfl syLaw.nd (pi_list (pv 9)) (blkOk_by (N := nmLaw) (sc := defScope yLaw) (by decide +kernel))
            (fun _ _ _ _ _ => pg_tup rfl (pgs_cons (pg_name (i := 11) syLaw.nd rfl (Or.inl rfl)) (pgs_cons (pg_name (i := 12) syLaw.nd rfl (Or.inl rfl)) (pgs_cons (pg_name (i := 13) syLaw.nd rfl (Or.inl rfl)) pgs_nil)))) (fun _ _ _ _ _ => pts_nil) (fun _ _ _ _ _ => pe_op op_mulW (pv 13) (pe_op op_sub (pv 12) pe_int))) pa_nil)) (pv 6) (nomark _)) pss_never pss_nil)
      (pss_cons (ps_if (pt_cmpR (op_neD (show A.units + 3 + 64 < cLine by omega)) (pe_lc (own := [("_law_given", 17), ("_law_long", 18)]) (g := gTup K 2 (gCons (gName 17) (gCons (gName 18) gNil)))
          (tt := tTest (tOp (rNeD K) (tLc (iTup K (tVar 17)) (gName 11) (tTest (tOp (rNotInT K) (tVar 11) (tVar 3))) (tVar 11) [11]) (tLst tNil))) (te := tC (.int 1)) rfl syLaw.nd (pi_tup (pe_c c.cC hr (Nat.le_refl _) (by rfl) (pa_cons (pv 3) pa_nil))) (blkOk_by (N := nmLaw) (sc := defScope yLaw) (by decide +kernel))
            (fun _ _ _ _ _ => pg_tup rfl (pgs_cons (pg_name (i := 17) syLaw.nd rfl (Or.inl rfl)) (pgs_cons (pg_name (i := 18) syLaw.nd rfl (Or.inl rfl)) pgs_nil)))
            (fun _ _ _ _ _ => pts_one (pt_cmpR (op_neD (show A.units + 3 + 64 < cLine by omega)) (pe_lc (own := [("_law_turn", 11)]) (g := gName 11) (tt := tTest (tOp (rNotInT K) (tVar 11) (tVar 3))) (te := tVar 11) rfl syLaw.nd (pi_tup (pv 17)) (blkOk_by (N := nmLaw) (sc := scIn) (by decide +kernel))
              (fun _ _ _ _ _ => pg_name (i := 11) syLaw.nd rfl (Or.inl rfl)) (fun _ _ _ _ _ => pts_one (pt_cmpR (op_notInT (show A.units + 3 + 65 < cLine by omega)) (pv 11) (pv 3) (by rfl))) (fun _ _ _ _ _ => pv 11)) (pe_lst pa_nil) (nomark _)))
            (fun _ _ _ _ _ => pe_int)) (pe_lst pa_nil) (nomark _)) pss_never pss_nil)
      (pss_cons (ps_set (i := 10) syLaw.nd rfl (.inl rfl) (pe_lst (pa_cons (pe_tupRg2 rfl (by rfl) mt (prg_1 (by rfl) mr (pe_callB call_len_seq (by rfl) ml PySem.boot_len (pa_cons (pe_ix ix_tup (pv 3) pe_int (fun _ _ => rfl)) pa_nil)))) pa_nil)))
      (pss_cons (ps_for PassesOwn.never rfl (pi_list (pv 9)) (pg_tup rfl (pgs_cons (pg_name (i := 11) syLaw.nd rfl (.inr rfl)) (pgs_cons (pg_name (i := 12) syLaw.nd rfl (.inl rfl)) (pgs_cons (pg_name (i := 13) syLaw.nd rfl (.inl rfl)) pgs_nil))))
        (pss_cons (ps_set (i := 14) syLaw.nd rfl (.inl rfl) (pe_lst pa_nil))
        (pss_cons (ps_for PassesOwn.never rfl (pi_list (pv 10)) (pg_name (i := 15) syLaw.nd rfl (.inr rfl))
          (pss_one (ps_set (i := 14) syLaw.nd rfl (.inl rfl) (pe_op op_cat (pv 14) (pe_lc (own := [("_law_times", 19)]) (g := gName 19) (tt := tYes) (te := tCall spBehindY [] E0 (tCons (tVar 15) (tCons (tCall spPowerY [] E0 (tCons (tVar 11) (tCons (tVar 19) tNil))) tNil))) rfl syLaw.nd (pi_range1 rfl mr (pa_cons (pv 12) pa_nil)) (blkOk_by (N := nmLaw) (sc := defScope yLaw) (by decide +kernel))
            (fun _ _ _ _ _ => pg_name (i := 19) syLaw.nd rfl (Or.inl rfl)) (fun _ _ _ _ _ => pts_nil) (fun _ _ _ _ _ => pe_c c.cH hr (Nat.le_refl _) (by rfl) (pa_cons (pv 15) (pa_cons (pe_c c.cP hr (Nat.le_refl _) (by rfl) (pa_cons (pv 11) (pa_cons (pv 19) pa_nil))) pa_nil))))))))
        (pss_one (ps_set (i := 10) syLaw.nd rfl (.inl rfl) (pv 14))))))
      (pss_one (ps_ret (pe_cmpR (op_eqD (show A.units + 3 + 64 < cLine by omega)) (pe_callB (cr_sortedLT rfl) (by rfl) ms (by decide +kernel) (pa_cons (pv 10) pa_nil)) (pv 4) (nomark _))))))), ?_⟩
  intro la wa ba n p lock W wt x0 x1 x2 x5 x7 H15 LP15 hw15 hTb15 hB CL q
  have hn9 := LP15.n9
  have hn2 := LP15.n2
  have hl4 := LP15.l4
  have G := LP15.grp
  have hs := LP15.sub
  have hspan := LP15.span
  have pc := LP15.pc
  have hlk := LP15.lk.pl
  have hm := G.few
  have hp3 : p ≤ 3 ∧ 2 ≤ p := by rcases pc.ok with z | z <;> omega
  have pall := pc.all
  have plen := pc.len
  have psum := pc.sum
  generalize hchs : chn n p lock 1 (wt ++ [[stl n]]) [] = chs at *
  -- the sum
  obtain ⟨bs, hb1, hb2⟩ := id hB
  refine ⟨.ref ba, rfl, ba, rfl, ⟨_, SqL.of hb1⟩, fun D3 nD3 => ?_⟩
  refine lc_list (xs := rs bs) (fun j H' => Same H15 H' ∧ H' D3 = some (.lst (tv ((chs.take j).map fun ch => ch.given.length * (p ^ ch.long - 1))))) ⟨same_upd nD3, upd_same⟩ (fun j H' _ h => SqL.of (h.1 _ _ hb1)) (fun j x H' hx h => ?_) (fun H' h => ?_)
  · obtain ⟨smj, hD⟩ := h
    obtain ⟨pp, hpp, rfl⟩ := rs_get hx
    obtain ⟨ch, ta, hch, hpt, hta⟩ := hb2.get hpp
    obtain ⟨g1, g2⟩ := CL.small ch (List.mem_of_getElem? hch)
    have hjl := get_lt hch
    have hcl := CL.len
    refine ⟨pp, [.ref ta, nv (p ^ ch.long), nv ch.given.length], rfl, SqT.of (smj _ _ hpt), rfl, .ref ta, [nv (p ^ ch.long), nv ch.given.length], rfl, nv (p ^ ch.long), [nv ch.given.length], rfl, nv ch.given.length, [], rfl, rfl, rfl, ?_⟩
    have hpp1 : 1 ≤ p ^ ch.long := Nat.pow_pos (by omega)
    refine ⟨nv ch.given.length, rfl, nv (p ^ ch.long), rfl, ((p ^ ch.long : Nat) : Int), 1, rfl, rfl, (ch.given.length : Int), ((p ^ ch.long - 1 : Nat) : Int), rfl, congrArg V.int (by omega), mulW (by omega) (by omega), _, hD, ?_, same_put smj nD3, ?_⟩
    · rw [tv_len, List.length_map, List.length_take]
      exact Nat.lt_of_le_of_lt (Nat.le_trans (Nat.min_le_right _ _) hcl) (by rw [sizeLine_eq]; decide)
    · rw [upd_same, take_succ hch, List.map_append]
      show some (HO.lst (_ ++ [V.int ((ch.given.length : Int) * ((p ^ ch.long - 1 : Nat) : Int))])) = _
      rw [← Int.natCast_mul, show V.int ((ch.given.length * (p ^ ch.long - 1) : Nat) : Int) = nv (ch.given.length * (p ^ ch.long - 1)) from rfl, tv_snoc]
      rfl
  obtain ⟨smj, hD⟩ := h
  rw [rs_len, hb2.len, List.take_length] at hD
  refine ⟨D3, ti (chs.map fun ch => ch.given.length * (p ^ ch.long - 1)), rfl, by rw [ti_tv]; exact SqL.of hD, nv (toldF p (wt ++ [[stl n]])), rfl, rfl, _, rfl, ?_⟩
  rw [ti_sum, show (chs.map fun ch => ch.given.length * (p ^ ch.long - 1)).sum = toldF p (wt ++ [[stl n]]) from psum, show V.int ((toldF p (wt ++ [[stl n]]) : Nat) : Int) = nv (toldF p (wt ++ [[stl n]])) from rfl, decide_eq_true rfl]
  refine iteF ?_
  have LP16 := LP15.same smj
  have hw16 := hw15.same smj
  have hTb16 := TabG.same hTb15 smj
  have hB16 := hB.same smj
  clear LP15 hw15 hTb15 hD smj hb1 hb2 hB nD3 bs
  -- the givens are of the lock
  refine ⟨.ref la, rfl, la, n, p, lock, W, wt, rfl, LP16, hTb16, fun H17 ca s17 nc hC => ?_⟩
  have LP17 := LP16.sameT s17 hTb16
  have hw17 := s17.lf hTb16 hw16
  have hTb17 := s17.tab
  have hB17 := s17.bl hTb16 hB16
  clear s17 LP16 hw16 hTb16 hB16
  rw [hchs] at hC
  obtain ⟨cs, hc1, hc2⟩ := hC
  have hlt13 : ∀ t ∈ lock, t.length ≤ 1000 := fun t ht => by rw [(hlk t ht).len]; omega
  refine ⟨ca, rfl, ⟨_, SqT.of hc1⟩, fun D4 nD4 => ?_⟩
  refine lc_tup (xs := rs cs) (fun j H' => Same H17 H' ∧ H' D4 = some (.lst [])) ⟨same_upd nD4, upd_same⟩ (fun j H' _ h => SqT.of (h.1 _ _ hc1)) (fun j x H' hx h => ?_) (fun H' h => ?_)
  · obtain ⟨smj, hD⟩ := h
    obtain ⟨pp, hpp, rfl⟩ := rs_get hx
    obtain ⟨ch, ga, hch, hpt, hga⟩ := hc2.get hpp
    have hsub := CL.sub ch (List.mem_of_getElem? hch)
    obtain ⟨gs, hg1, hg2⟩ := hga.same smj
    refine ⟨pp, [.ref ga, nv ch.long], rfl, SqT.of (smj _ _ hpt), rfl, .ref ga, [nv ch.long], rfl, nv ch.long, [], rfl, rfl, rfl, ?_⟩
    refine ⟨.ref ga, rfl, ga, rfl, ⟨_, SqT.of hg1⟩, fun D5 nD5 => ?_⟩
    refine lc_tup (xs := rs gs) (fun i H2 => Same H' H2 ∧ H2 D5 = some (.lst [])) ⟨same_upd nD5, upd_same⟩ (fun i H2 _ h => SqT.of (h.1 _ _ hg1)) (fun i x H2 hx2 h => ?_) (fun H2 h => ?_)
    · obtain ⟨sm2, hD5⟩ := h
      obtain ⟨ta, hta, rfl⟩ := rs_get hx2
      obtain ⟨t, ht, hT⟩ := hg2.get hta
      have htl := hsub t (List.mem_of_getElem? ht)
      obtain ⟨ls, hl1, hl2⟩ := (LP17.same (smj.trans sm2)).lk.at_.ua
      refine ⟨rfl, ?_⟩
      refine ⟨.ref ta, rfl, .ref la, rfl, dt t, lock.map dt, (hT.same sm2).ta.dp, .tup (SqT.of hl1) hl2.dp, shT t, shU lock, _, rfl, ?_⟩
      rw [anyT, decide_eq_true htl]
      exact iteF ⟨sm2, hD5⟩
    · obtain ⟨sm2, hD5⟩ := h
      refine ⟨Nat.zero_le _, fun e0 ne0 => ?_⟩
      have s4 := same_upd (o := .lst []) ne0
      refine ⟨di [], di [], dpDi (t := []) (s4 _ _ hD5), dpDi (t := []) upd_same, shI _, shI _, _, rfl, ?_⟩
      rw [eqvDi, decide_eq_true rfl]
      exact iteF ⟨(smj.trans sm2).trans s4, s4 _ _ (sm2 _ _ hD)⟩
  obtain ⟨smj, hD⟩ := h
  refine ⟨Nat.zero_le _, fun e0 ne0 => ?_⟩
  have s4 := same_upd (o := .lst []) ne0
  refine ⟨di [], di [], dpDi (t := []) (s4 _ _ hD), dpDi (t := []) upd_same, shI _, shI _, _, rfl, ?_⟩
  rw [eqvDi, decide_eq_true rfl]
  refine iteF ?_
  have s18 := smj.trans s4
  have LP18 := LP17.same s18
  have hw18 := hw17.same s18
  have hB18 := hB17.same s18
  clear s18 LP17 hw17 hB17 hTb17 s4 hD smj hc1 hc2 nc cs
  -- the products
  generalize upd H' e0 (.lst []) = H18 at *
  obtain ⟨as, a0, t0, ha, hT0, h0, hA0, hl0⟩ := LP18.lk.fst
  refine ⟨.ref la, rfl, la, rs as, 0, .ref a0, rfl, rfl, SqT.of ha, h0, a0, tv t0, rfl, .inr (sqA hA0), n, by rw [tv_len, hl0], RgOk.of_le (by decide) (by omega) (by omega) (by omega), ?_⟩
  rw [rgV_tv]
  refine newT_of (z := false) fun H19 p1 s19 np1 hp1 => ⟨fewe (by simp), fun fa nfa => ?_⟩
  have sF := same_upd (o := .lst [.ref p1]) nfa
  have hF : LF false (upd H19 fa (.lst [.ref p1])) fa [stl n] := ⟨[p1], upd_same, .cons (hp1.same sF) .nil⟩
  have s20 := s19.trans sF
  have hw20 := hw18.same s20
  have hB20 := hB18.same s20
  generalize upd H19 fa (.lst [.ref p1]) = H20 at *
  clear s20 sF hw18 hB18 LP18 nfa hp1 np1 s19 p1 hA0 hT0 ha h0 hl0
  obtain ⟨bs, hb1, hb2⟩ := hB20
  have chk : ∀ ch ∈ chs, AllP n ch.given ∧ ch.given ≠ [] := fun ch hc => ⟨(CL.ok ch hc).2.1, (CL.ok ch hc).1⟩
  have hone : AllP n [stl n] := fun t h => by rw [List.mem_singleton.mp h]; exact isP_stl n
  refine ⟨.ref ba, rfl, ba, rfl, ⟨_, SqL.of hb1⟩, for_list (xs := rs bs) (fun i σ H' => ∃ fa y11 y12 y13 y14 y15, σ = [x0, x1, x2, some (.ref la), some (.ref wa), x5, some (nv (toldF p (wt ++ [[stl n]]))), x7, some (nv p), some (.ref ba), some (.ref fa), y11, y12, y13, y14, y15, none, none, none, none] ∧ Same H20 H' ∧ LF false H' fa ((chs.take i).foldl (prod1 p) [stl n]))
    ⟨fa, _, _, _, _, _, rfl, fun _ _ e => e, hF⟩ (fun i σ H' _ h => ?_) (fun i x σ H' hx h => ?_) (fun σ H' h => ?_)⟩
  · obtain ⟨_, _, _, _, _, _, _, sm, _⟩ := h
    exact SqL.of (sm _ _ hb1)
  · obtain ⟨fa', y11, y12, y13, y14, y15, rfl, sm, fs, hf1, hf2⟩ := h
    obtain ⟨pp, hpp, rfl⟩ := rs_get hx
    obtain ⟨ch, ta, hch, hpt, hta⟩ := hb2.get hpp
    have hcm := List.mem_of_getElem? hch
    obtain ⟨g1, g2⟩ := CL.small ch hcm
    obtain ⟨cg1, cg2⟩ := chk ch hcm
    have hbP := (bturn_cnj (isP_stl n) cg1 cg2).2
    have hfP := prodf_isP (p := p) (chs.take i) [stl n] hone fun x hx => chk x (List.mem_of_mem_take hx)
    have hnx : (chs.take (i + 1)).foldl (prod1 p) [stl n] = prod1 p ((chs.take i).foldl (prod1 p) [stl n]) ch := fold_take hch
    have hle : ((chs.take (i + 1)).foldl (prod1 p) [stl n]).length ≤ 60 := by
      have h1 := prod_take (p := p) (by omega) chs [stl n] (i + 1)
      have hpl : (chs.foldl (prod1 p) [stl n]).length = W.length := plen
      omega
    rw [hnx] at hle
    rw [hnx]
    have hfl := hf2.tas.len
    generalize (chs.take i).foldl (prod1 p) [stl n] = found at *
    have hpl := prod1_len p ch found
    have hpp1 : 1 ≤ p ^ ch.long := Nat.pow_pos (by omega)
    have hfle : found.length ≤ 60 := by
      have := Nat.le_mul_of_pos_right found.length (show 0 < p ^ ch.long by omega)
      omega
    have hta' := hta.same sm
    generalize hmg : p ^ ch.long = m at *
    generalize hbg : bturn ch.given = b at *
    refine ⟨pp, [.ref ta, nv m, nv ch.given.length], rfl, SqT.of (sm _ _ hpt), rfl, .ref ta, [nv m, nv ch.given.length], rfl, nv m, [nv ch.given.length], rfl, nv ch.given.length, [], rfl, rfl, ?_⟩
    refine ⟨Nat.zero_le _, fun l0 nl0 => ?_⟩
    have s1 := same_upd (o := .lst []) nl0
    have hf11 := s1 _ _ hf1
    have hf21 := hf2.same s1
    have hta1 := hta'.same s1
    have sm1 := sm.trans s1
    have hl0 : LF false (upd H' l0 (.lst [])) l0 [] := ⟨[], upd_same, .nil⟩
    generalize upd H' l0 (.lst []) = H1 at *
    let row : Tn → List Tn := fun one => (List.range m).map fun k => beh one (pwr b k)
    have hrow : prod1 p found ch = found.flatMap row := by unfold prod1; rw [hmg, hbg]
    refine ⟨.ref fa', rfl, fa', rfl, ⟨_, SqL.of hf11⟩, for_list (xs := rs fs) (fun j σ H2 => ∃ lt y15, σ = [x0, x1, x2, some (.ref la), some (.ref wa), x5, some (nv (toldF p (wt ++ [[stl n]]))), x7, some (nv p), some (.ref ba), some (.ref fa'), some (.ref ta), some (nv m), some (nv ch.given.length), some (.ref lt), y15, none, none, none, none] ∧ Same H1 H2 ∧ LF false H2 lt ((found.take j).flatMap row))
      ⟨l0, _, rfl, fun _ _ e => e, hl0⟩ (fun j σ H2 _ h => ?_) (fun j x σ H2 hx2 h => ?_) (fun σ H2 h => ?_)⟩
    · obtain ⟨_, _, _, sj, _⟩ := h
      exact SqL.of (sj _ _ hf11)
    · obtain ⟨lt, y15, rfl, sj, gs, hg1, hg2⟩ := h
      obtain ⟨oa, hoa, rfl⟩ := rs_get hx2
      obtain ⟨one, hone', hO⟩ := hf21.get hoa
      have h1P := hfP one (List.mem_of_getElem? hone')
      have hO2 := TF.same (z := false) sj hO
      have hta2 := hta1.same sj
      have hjl := get_lt hone'
      have hgl := hg2.tas.len
      have hgle : gs.length ≤ 60 := by
        have e := flatMap_le row m (fun x => by show ((List.range m).map _).length ≤ m; rw [List.length_map, List.length_range]; exact Nat.le_refl _) (found.take j)
        rw [List.length_take, Nat.min_eq_left (Nat.le_of_lt hjl), ← hgl] at e
        have e2 : m * j ≤ m * found.length := Nat.mul_le_mul (Nat.le_refl _) (Nat.le_of_lt hjl)
        rw [Nat.mul_comm m found.length] at e2
        omega
      refine ⟨.ref lt, rfl, nv m, rfl, (m : Int), rfl, by omega, by omega, fun D nD => ?_⟩
      refine lc_range (lo := 0) (n := ((m : Int)).toNat) (fun i' H3 => Same H2 H3 ∧ LF false H3 D ((List.range i').map fun k => beh one (pwr b k))) ⟨same_upd nD, [], upd_same, .nil⟩ (fun i' H3 hi' h => ?_) (fun H3 h => ?_)
      · obtain ⟨s3, ds, hD, hds⟩ := h
        have hi' : i' < m := by omega
        rw [show (V.int (0 + (i' : Int))) = nv i' from by rw [Int.zero_add]; rfl]
        refine ⟨rfl, ?_⟩
        refine ⟨.ref oa, rfl, .ref ta, rfl, nv i', rfl, ta, b, n, i', rfl, hta2.same s3, hbP, by omega, by omega, fun H4 p4 s4 n4 h4 => ?_⟩
        have hpP := isP_pwr hbP i'
        refine ⟨false, oa, p4, one, pwr b i', rfl, (TF.same (z := false) (s3.trans s4) hO2).ta, h4.ta, by rw [h1P.len]; omega, fun x hx => by rw [hpP.len]; exact h1P.lt x hx, fun H5 p5 s5 n5 h5 => ?_⟩
        have hD5 := s5 _ _ (s4 _ _ hD)
        have hdl := hds.tas.len
        rw [List.length_map, List.length_range] at hdl
        refine ⟨_, hD5, by rw [rs_len]; exact few (by omega), same_put ((s3.trans s4).trans s5) nD, ds ++ [p5], by rw [upd_same, rs_snoc], ?_⟩
        rw [List.range_succ, List.map_append]
        exact (((hds.same s4).same s5).put hD5 fun _ z => by cases z).snoc (TF.put h5 hD5 fun _ z => by cases z)
      · obtain ⟨s3, ds, hD, hds⟩ := h
        have hds : TFs false H3 ds (row one) := hds
        have hdl := hds.tas.len
        have hrl : (row one).length = m := by show ((List.range m).map _).length = m; rw [List.length_map, List.length_range]
        refine ⟨lt, D, rs gs, rs ds, rfl, rfl, s3 _ _ hg1, hD, by rw [rs_len, rs_len]; exact fewe (by omega), fun p6 n6 => ?_⟩
        have s6 := same_upd (o := .lst (rs gs ++ rs ds)) n6
        refine ⟨p6, _, rfl, (sj.trans s3).trans s6, gs ++ ds, by rw [upd_same]; unfold rs; rw [List.map_append], ?_⟩
        rw [flat_take hone']
        exact ((hg2.same s3).same s6).append (hds.same s6)
    · obtain ⟨lt, y15, rfl, sj, hlf⟩ := h
      rw [rs_len, hfl, List.take_length, ← hrow] at hlf
      exact ⟨.ref lt, rfl, lt, _, _, _, _, _, rfl, sm1.trans sj, hlf⟩
  · obtain ⟨fa', y11, y12, y13, y14, y15, rfl, sm, hf⟩ := h
    rw [rs_len, hb2.len, List.take_length] at hf
    have hPp := prodf_isP (p := p) chs [stl n] hone chk
    have hpl : (chs.foldl (prod1 p) [stl n]).length = W.length := plen
    have hpa : setS (chs.foldl (prod1 p) [stl n]) = W := pall
    have hnd := nodup_of_setS (by omega) hPp hpa hpl
    obtain ⟨fs, hf1, hf2⟩ := hf
    have key : rSortLT K [.ref fa'] H' fun x H1 => tVar 4 [x0, x1, x2, some (.ref la), some (.ref wa), x5, some (nv (toldF p (wt ++ [[stl n]]))), x7, some (nv p), some (.ref ba), some (.ref fa'), y11, y12, y13, y14, y15, none, none, none, none] H1 fun y H2 => rEqD K x y H2 Q :=
      read_sortL hf1 hf2.tas hPp hnd (by omega) (by omega) (by omega) fun H2 p2 s2 np hp => by
        obtain ⟨as', g1, g2, _⟩ := hp
        rw [hpa] at g2
        refine ⟨.ref wa, rfl, dl W, dl W, LA.dp ⟨as', g1, g2⟩, (hw20.same (sm.trans s2)).dp, shL W, shL W, ?_⟩
        rw [eqvL, decide_eq_true rfl]
        exact q _
    exact ⟨.ref fa', rfl, key⟩
end
end Lk
set_option Elab.async false
set_option linter.all false
set_option maxRecDepth 100000
namespace Lk
open PySem PySem.Spec PyProof.Rows L2 GxR
section
variable {P : Program} {w : World} {K : PySem.W.Frag} {mg : Str → Option Value} {base : Heap}
set_option maxHeartbeats 4000000 in
theorem ok_law {f Pt C : Addr} {fd : FuncData} {k : Nat} (F : Fun K "law" "law" yLaw f fd) (c : Calls P w K mg base Pt C k) (ml : mg "len" = none) (mt : mg "tuple" = none) (mr : mg "range" = none) (mu : mg "sum" = none) (ms : mg "sorted" = none) : FnOk P w K mg base CX0 (k + 1) f fd ["_law_script"] (spLaw K Pt) := by
  refine F.ok syLaw (fun vs H Q E h => ?_) (fun cdv A outer s H vs Q E hr h => ?_)
  · obtain ⟨z, ns, rfl, _⟩ := h
    rfl
  · obtain ⟨z, ns, rfl, hS, hTb, q⟩ := h
    have hu : A.units + 3 + 65 < cLine := by have := hr.un; have e : (A.deeper (envOfC "law" (defScope yLaw) s.heap.objs.size f cdv)).units = A.units + 3 := rfl; omega
    obtain ⟨tl, ht, hq⟩ := law_tailB (outer := outer) (H0 := H) (E := E) (Q := Q) c hr ml mt mr mu ms
    refine ⟨_, pss_cons (ps_set (i := 1) syLaw.nd rfl (.inl rfl) (pe_lst (pa_cons (pv 0) (pa_cons pe_int (pa_cons pe_int (pa_cons pe_int pa_nil))))))
      (pss_cons (ps_set (i := 2) syLaw.nd rfl (.inl rfl) (pe_lst (pa_cons pe_str (pa_cons pe_str (pa_cons pe_str (pa_cons pe_str (pa_cons pe_str (pa_cons pe_str (pa_cons pe_str (pa_cons pe_str (pa_cons pe_str pa_nil)))))))))))
      (pss_cons (ps_set (i := 3) syLaw.nd rfl (.inr rfl) (pe_ifExp (pt_cmpR op_gt (pe_c c.cT hr (Nat.le_refl _) (by rfl) (pa_cons (pv 1) (pa_cons pe_int pa_nil))) pe_int (nomark _))
        (pe_c c.cK hr (Nat.le_refl _) (by rfl) (pa_cons (pv 1) (pa_cons (pv 2) pa_nil))) (pe_c c.cL hr (Nat.le_refl _) (by rfl) (pa_cons (pv 1) (pa_cons (pe_lst (pa_cons pe_str (pa_cons pe_str (pa_cons pe_str pa_nil)))) pa_nil)))))
      (pss_cons (ps_set (i := 4) syLaw.nd rfl (.inr rfl) (pe_c c.cS hr (Nat.le_refl _) (by rfl) (pa_cons (pe_callB call_len_seq (by rfl) ml PySem.boot_len (pa_cons (pe_ix ix_tup (pv 3) pe_int (fun _ _ => rfl)) pa_nil)) (pa_cons (pv 3) pa_nil))))
      (pss_cons (ps_setLc (i := 5) (own := [("_law_one", 15)]) (g := gName 15) (tt := tTest (tOp rEq (tOp (rI (fun _ j => 0 < j) fun i j => .int (i % j)) (tCB (rLenS K) (tCons (tVar 4) tNil)) (tVar 15)) (tC (.int 0)))) (te := tVar 15) rfl syLaw.nd rfl rfl rfl (pi_list (pe_lst (pa_cons pe_int (pa_cons pe_int (pa_cons pe_int (pa_cons pe_int pa_nil)))))) (blkOk_by (N := nmLaw) (sc := defScope yLaw) (by decide +kernel))
          (fun _ _ _ _ _ => pg_name (i := 15) syLaw.nd rfl (Or.inl rfl)) (fun _ _ _ _ _ => pts_one (pt_cmpR op_eq (pe_op op_mod (pe_callB call_lenS (by rfl) ml PySem.boot_len (pa_cons (pv 4) pa_nil)) (pv 15)) pe_int (nomark _))) (fun _ _ _ _ _ => pv 15))
      (pss_cons (ps_try_as (i := 7) (tb := t_tryB K Pt C) (ts := t_tryS K) (Wout := fun _ _ _ _ => False) rfl rfl syLaw.nd rfl rfl ⟨rfl, by decide, Or.inl c.np.glob⟩ takes0
          (fun W pn xe tk _ => pss_cons (ps_set (i := 6) syLaw.nd rfl (.inl rfl) (by exact pe_cxW c.cN hr (Nat.le_refl _) (by rfl) tk (pa_cons (pv 3) pa_nil)))
            (pss_one (ps_if (pt_cmpR op_ne (pe_callB call_lenS (by rfl) ml PySem.boot_len (pa_cons (pv 5) pa_nil)) pe_int (nomark _)) (pss_one (ps_ret pe_bl)) pss_nil)))
          (fun a oe cls d pn hz hf => pss_one (ps_ret (pe_cmpR op_ne (pe_callB call_lenS (by rfl) ml PySem.boot_len (pa_cons (pv 5) pa_nil)) pe_int (nomark _)))))
      (pss_cons (ps_set (i := 8) syLaw.nd rfl (.inl rfl) (pe_ix ix_list (pv 5) pe_int (fun _ _ => rfl)))
      (pss_cons (ps_if (pt_not (pt_val (pe_c c.cA hr (Nat.le_refl _) (by rfl) (pa_cons (pv 6) (pa_cons (pe_c c.cD hr (Nat.le_refl _) (by rfl) (pa_cons (pv 3) (pa_cons (pv 4) (pa_cons (pv 8) pa_nil)))) pa_nil))))) pss_never pss_nil)
      (pss_cons (ps_if (pt_not (pt_val (pe_c c.cA hr (Nat.le_refl _) (by rfl) (pa_cons (pe_c c.cW hr (Nat.le_refl _) (by rfl) (pa_cons (pv 3) pa_nil)) (pa_cons (pe_tupleOf (by rfl) mt
          (pe_lc (own := [("_law_term", 16)]) (g := gName 16) (tt := tYes) (te := tThen (tVar 16) (kTup K)) rfl syLaw.nd (pi_list (pe_c c.cY hr (Nat.le_refl _) (by rfl) (pa_cons (pv 3) (pa_cons (pv 8) pa_nil)))) (blkOk_by (N := nmLaw) (sc := defScope yLaw) (by decide +kernel))
            (fun _ _ _ _ _ => pg_name (i := 16) syLaw.nd rfl (Or.inl rfl)) (fun _ _ _ _ _ => pts_nil) (fun _ _ _ _ _ => pe_tupleOf (by rfl) mt (pv 16)))) pa_nil))))) pss_never pss_nil)
      (pss_cons (ps_set (i := 9) syLaw.nd rfl (.inl rfl) (pe_c c.cB hr (Nat.le_refl _) (by rfl) (pa_cons (pe_c c.cC hr (Nat.le_refl _) (by rfl) (pa_cons (pv 3) pa_nil)) (pa_cons (pv 8) pa_nil))))
      ht))))))))), ?_⟩
    refine ⟨.ref z, rfl, fewe (by simp), fun r nr => ?_⟩
    have hR : RowA K z (upd H r (.lst [.ref z, .int 0, .int 7707, .int 0])) r := ⟨⟨0, 7707, 0, upd_same⟩, ns, SqL.keep hS fun o e => same_upd nr _ _ e⟩
    have hTb1 := TabG.same hTb (same_upd (o := .lst [.ref z, .int 0, .int 7707, .int 0]) nr)
    have Ptr : Pt ≠ r := fun e => by
      obtain ⟨ps, h1, _⟩ := hTb
      rw [e, nr] at h1
      cases h1
    clear hTb hS nr
    generalize upd H r (.lst [.ref z, .int 0, .int 7707, .int 0]) = H1 at *
    refine ⟨fewe (by simp), fun t nt => ?_⟩
    have s1 := same_upd (o := .lst (kinds9.map V.str)) nt
    have ht : (upd H1 t (.lst (kinds9.map V.str))) t = some (.lst (kinds9.map V.str)) := upd_same
    have hR2 := hR.same s1
    have hTb2 := TabG.same hTb1 s1
    refine law_pick (r := r) (t := t) rfl rfl hR2 ht fun H5 la n lock W k5 _ _ gl hL => ?_
    have hTb5 : TabG H5 Pt := by
      obtain ⟨ps, h1, h2⟩ := hTb2
      exact ⟨ps, k5 _ _ Ptr h1, h2⟩
    clear hR hTb1 s1 ht hR2 hTb2 k5 Ptr nt
    obtain ⟨as, a0, t0, ha, hT, h0, hA0, hl0⟩ := hL.fst
    have hn9 := gl.n9
    have hn2 := gl.n2
    have hl4 := gl.l4
    have G := gl.good.grp
    have hs := gl.good.sub
    have hspan := gl.good.span
    have hm := G.few
    refine ⟨.ref la, rfl, la, rs as, 0, .ref a0, rfl, rfl, SqT.of ha, h0, a0, tv t0, rfl, .inr (sqA hA0), .ref la, rfl, false, n, la, lock, W, by rw [tv_len, hl0]; rfl, .inr hL.at_.ua, gl.good.lk, by omega, by omega, by omega, G.box hs, fun H6 wa s6 nw hw => ?_⟩
    rw [hspan] at hw
    have hL6 := hL.same s6
    have hTb6 := TabG.same hTb5 s6
    clear hA0 hT ha s6 nw hL hTb5 h0 hl0 t0 a0 as
    obtain ⟨ws, hw1, hw2⟩ := id hw
    have hwl : ws.length = W.length := hw2.tas.len
    refine ⟨fewe (by simp), fun l nl => ⟨l, rfl, ⟨_, SqL.of upd_same⟩, ?_⟩⟩
    have sl := same_upd (o := .lst (tv [2, 3, 5, 7])) nl
    have hl : (upd H6 l (.lst (tv [2, 3, 5, 7]))) l = some (.lst (tv [2, 3, 5, 7])) := upd_same
    have hw1l := sl _ _ hw1
    have hw7 := hw.same sl
    have hL7 := hL6.same sl
    have hTb7 := TabG.same hTb6 sl
    intro D nD
    have nD : (upd H6 l (.lst (tv [2, 3, 5, 7]))) D = none := nD
    refine lc_list (xs := tv [2, 3, 5, 7]) (fun i H' => Same (upd H6 l (.lst (tv [2, 3, 5, 7]))) H' ∧ H' D = some (.lst (tv ((([2, 3, 5, 7] : List Nat).take i).filter fun d => W.length % d == 0)))) ⟨same_upd nD, upd_same⟩ (fun i H' _ h => SqL.of (h.1 _ _ hl)) (fun i x H' hx h => ?_) (fun H' h => ?_)
    · obtain ⟨sm, hD⟩ := h
      obtain ⟨d, hd, rfl⟩ := tv_get hx
      have hdm := List.mem_of_getElem? hd
      have hd0 : 0 < d ∧ d ≤ 7 := by
        simp only [List.mem_cons, List.not_mem_nil, or_false] at hdm
        omega
      refine ⟨rfl, ?_⟩
      refine ⟨.ref wa, rfl, wa, rs ws, rfl, .inl (SqL.of (sm _ _ hw1l)), nv d, rfl, ((rs ws).length : Int), (d : Int), rfl, rfl, (show (0 : Int) < (d : Int) by omega), rfl, _, rfl, ?_⟩
      rw [show decide (V.int (((rs ws).length : Int) % (d : Int)) = V.int 0) = decide (W.length % d = 0) from by rw [rs_len, hwl, ← Int.natCast_emod]; exact nv_eq _ 0]
      have hil := get_lt hd
      by_cases hz : W.length % d = 0
      · rw [decide_eq_true hz]
        refine iteT ⟨nv d, rfl, _, hD, ?_, same_put sm nD, ?_⟩
        · have := List.length_filter_le (fun d => W.length % d == 0) (([2, 3, 5, 7] : List Nat).take i)
          have h4 : i < 4 := hil
          have := Nat.le_trans this (List.length_take_le _ _)
          rw [tv_len]; exact few (by omega)
        · rw [upd_same, tv_snoc, take_succ hd, List.filter_append, List.filter_cons_of_pos (by simpa using hz), List.filter_nil]
      · rw [decide_eq_false hz]
        refine iteF ⟨sm, ?_⟩
        rw [take_succ hd, List.filter_append, List.filter_cons_of_neg (by simpa using hz), List.filter_nil, List.append_nil]
        exact hD
    obtain ⟨sm, hD⟩ := h
    have hD : H' D = some (.lst (tv (sizesL W.length))) := hD
    have hw := hw7.same sm
    have hL := hL7.same sm
    have hTb := TabG.same hTb7 sm
    clear hTb7 hL7 hw7 sm hl sl nl nD hw1l hw2 hw1 hwl ws hTb6 hL6
    refine ⟨.ref la, rfl, la, n, lock, W, rfl, hL, hn2, hn9, hl4, G, hs, hspan, hTb, ?_⟩
    rcases gl.good.law with ⟨l1, l2⟩ | ⟨p, wt, pc⟩
    · refine .inl ⟨l1, fun H8 s8 => ⟨true, c.np.exm, fun _ a na => ?_, fun q => Bool.noConfusion q⟩⟩
      have hD8 := s8.at hTb hD fun _ z => by cases z
      refine ⟨.ref D, rfl, D, tv (sizesL W.length), rfl, .inl (SqL.of hD8), rfl, ?_⟩
      rw [tv_len, show (V.int ((sizesL W.length).length : Int)) = nv (sizesL W.length).length from rfl, show V.int 1 = nv 1 from rfl, nv_eq, decide_eq_false l2]
      exact q _
    · refine .inr ⟨p, wt, pc, fun H8 s8 => ?_⟩
      have hD8 := s8.at hTb hD fun _ z => by cases z
      rw [pc.sz] at hD8
      refine ⟨.ref D, rfl, D, tv [p], rfl, .inl (SqL.of hD8), rfl, _, rfl, ?_⟩
      refine iteF ?_
      have hw8 := s8.lf hTb hw
      have hL8 := s8.lock hTb hL
      have hTb8 := s8.tab
      clear s8 hD hw hL hTb
      have hp3 : p ≤ 3 ∧ 2 ≤ p := by rcases pc.ok with z | z <;> omega
      refine ⟨.ref D, rfl, D, tv [p], 0, nv p, rfl, rfl, SqL.of hD8, atI_nat (j := 0) rfl, ?_⟩
      clear hD8
      have hwt : ∀ T ∈ wt, Sub T W ∧ Srt T := (LockP.mk hL8 hn2 hn9 hl4 G hs hspan pc).wt
      have hwl : wt.length ≤ 39 := (LockP.mk hL8 hn2 hn9 hl4 G hs hspan pc).wtl
      have hT := terms_ok (n := n) (by omega) G hwt
      have hTl : (wt ++ [[stl n]]).length ≤ 40 := by rw [List.length_append, List.length_singleton]; omega
      have CL := chl_of (by omega) G hs pc.ok hT hTl
      have pall := pc.all
      have plen := pc.len
      have psum := pc.sum
      refine ⟨nv (toldF p (wt ++ [[stl n]])), rfl, .ref la, rfl, .ref wa, rfl, nv p, rfl, la, wa, n, p, toldF p (wt ++ [[stl n]]), lock, W, rfl, hL8.at_.ua, hw8, hL8.ne, by omega, by omega, by omega, G, hs, pc.ok, pc.hd, fun H9 s9 => ⟨_, _, rfl, .int 3 _, fun H10 s10 => ⟨true, rfl, iteF ?_⟩⟩⟩
      have s910 := s9.trans s10
      have hw10 := hw8.same s910
      have hL10 := hL8.same s910
      have hTb10 := TabG.same hTb8 s910
      clear s910 s10 hw8 hL8 hTb8 s9 H9
      have LP := LockP.mk hL10 hn2 hn9 hl4 G hs hspan pc
      refine ⟨.ref la, rfl, la, n, p, lock, W, wt, rfl, LP, hTb10, fun H11 wq s11 nq hq => ⟨.ref la, rfl, nv p, rfl, la, n, p, lock, W, wt, rfl, LP.sameT s11 hTb10, fun H12 l s12 nl hl => ?_⟩⟩
      obtain ⟨ls, hl1, hl2⟩ := hl
      refine ⟨l, rfl, ⟨_, SqL.of hl1⟩, fun D2 nD2 => ?_⟩
      refine lc_list (xs := rs ls) (fun j H' => Same H12 H' ∧ ∃ ds, H' D2 = some (.lst (rs ds)) ∧ UAs H' ds (wt.take j)) ⟨same_upd nD2, [], upd_same, .nil⟩ (fun j H' _ h => SqL.of (h.1 _ _ hl1)) (fun j x H' hx h => ?_) (fun H' h => ?_)
      · obtain ⟨smj, ds, hD, hds⟩ := h
        obtain ⟨ta, hta, rfl⟩ := rs_get hx
        obtain ⟨T, hT, us, hu1, hu2⟩ := hl2.get hta
        refine ⟨rfl, ?_⟩
        refine ⟨.ref ta, rfl, .inl ⟨ta, rs us, rfl, SqL.of (smj _ _ hu1), fun q3 n3 => ?_⟩⟩
        have s3 := same_upd (o := .tup (rs us)) n3
        have hD3 := s3 _ _ hD
        refine ⟨_, hD3, ?_, same_put (smj.trans s3) nD2, ds ++ [q3], ?_, ?_⟩
        · have e := hds.len
          rw [List.length_take] at e
          rw [rs_len]
          exact few (by omega)
        · rw [upd_same, rs_snoc]
        · rw [take_succ hT]
          have hnew : UA (upd H' q3 (.tup (rs us))) q3 T := ⟨us, upd_same, (hu2.same smj).same s3⟩
          exact ((hds.same s3).put hD3 fun _ z => by cases z).snoc (hnew.put hD3 fun _ z => by cases z)
      obtain ⟨smj, ds, hD, hds⟩ := h
      rw [rs_len, hl2.len, List.take_length] at hds
      refine .inl ⟨D2, rs ds, rfl, SqL.of hD, fun q3 n3 => ?_⟩
      have sq := same_upd (o := .tup (rs ds)) n3
      have hUU : UUA (upd H' q3 (.tup (rs ds))) q3 wt := ⟨ds, upd_same, hds.same sq⟩
      have hUU1 : UUA (upd H' q3 (.tup (rs ds))) wq wt := ((hq.same s12).same smj).same sq
      have wts : ∀ ts ∈ wt, ts.length ≤ 1000 ∧ ∀ t ∈ ts, t.length ≤ 1000 := fun T hT => by
        have z := hwt T hT
        have := sub_len z.1 z.2
        exact ⟨by omega, fun t ht => by rw [(G.isP t (z.1 t ht)).len]; omega⟩
      refine ⟨_, _, rfl, alk_uu hUU1 hUU (by omega) wts, fun H13 s13 => ⟨true, rfl, iteF ?_⟩⟩
      have sA := (s11.same s12).same ((smj.trans sq).trans s13)
      have LP13 := LP.sameT sA hTb10
      have hw13 := sA.lf hTb10 hw10
      have hTb13 := sA.tab
      clear sA hUU hUU1 sq hD hds ds smj hl1 hl2 ls nl s12 hq nq s11 s13 LP hw10 hL10 hTb10
      -- the bases
      refine ⟨.ref la, rfl, la, n, p, lock, W, wt, rfl, LP13, hTb13, fun H14 ca s14 nc hC => ⟨nv p, rfl, ca, n, p, chn n p lock 1 (wt ++ [[stl n]]) [], rfl, hC, CL.ok, by omega, by omega, by omega, CL.len, fun H15 ba s15 nb hB => ?_⟩⟩
      have sB := s14.same s15
      exact hq la wa ba n p lock W wt _ _ _ _ _ H15 (LP13.sameT sB hTb13) (sB.lf hTb13 hw13) sB.tab hB CL q
end
end Lk
set_option Elab.async false
set_option linter.all false
set_option maxRecDepth 100000
namespace Lk
open PySem PySem.Spec PyProof.Rows L2 GxR
/-- the table of the def with this name is empty -/
def TabAt (mg : Str → Option Value) (x : Str) (h : Heap) : Prop := ∀ f, mg x = some (.ref f) → ∃ (o : Obj) (fd : FuncData) (c P : Addr), h.get? f = some o ∧ o.data = .func fd ∧ fd.code = .ref c ∧ PySem.W.CodeHd h c P ∧ h.get? P = some { cls := .none, data := .fields #[] }
theorem walk_named (x : Str) {l : PySem.W.OpenLaw} {n k : Nat} {q : Program} {loose : List Str} {XP : (Str → Option Value) → Heap → Prop} {YP : World → Heap → Prop} {d : DefRec} {K : Params → PySem.W.Frag} {y : Str}
    (hn : l.most = some n) (hz : n ≤ sizeLine) (hd : d.params.defaults = []) (hr : Room k callerA) (hx : ((recsOf q).any fun e => e.name == x) = true) (hK : ∀ (w : World) (h : Heap), YP w h → (K w.params).In h)
    (F : ∀ (w : World) (mg : Str → Option Value) (fa : Addr) (h : Heap), YP w h → (K w.params).In h → h.Ns mainGlobals mg → mg d.name = some (.ref fa) → TabAt mg x h → LamX.LawAtS l w (K w.params) CX0 k n y mg fa h) :
    PySem.W.WalkO q loose XP YP l.row.toRowW d [] (fun f vs => PySem.call f vs) := by
  refine Att.attach_callB hn hd fun w _ s mg _ fa _ _ _ _ a vs ns G Y _ _ _ hm hob hin hle hbi hge => ?_
  have tb : TabAt mg x s.heap := fun f hf => by
    obtain ⟨r, hr1, hr2⟩ := List.any_eq_true.mp hx
    obtain ⟨a', o, fd, c, P, t1, t2, t3, t4, t5, t6⟩ := G.T.tab r hr1
    rw [show r.name = x from beq_iff_eq.mp hr2, hf] at t1
    cases t1
    exact ⟨o, fd, c, P, t2, t3, t4, .of t5 t6, t6.2⟩
  obtain ⟨fd, cs, sp, b1, b2, b3, b4, b5, b6⟩ := F w mg fa s.heap Y (hK w _ Y) G.T.g hm tb
  exact LamX.law_callTs (hK w _ Y) G.T.g G.T.b G.T.builtins G.T.nolimit hge b1 b2 b3 G.T.bmain hob hin (Nat.le_trans hle hz) hr b6 b4 (fun H h1 h2 => b5 H a ns hle hbi h1 h2) fun _ _ _ z => z
/-- where a def stands -/
def DefM (K : PySem.W.Frag) (mg : Str → Option Value) (x : Str) (st : Stmt) : Prop := ∃ f fd, Fun K x x st f fd ∧ mg x = some (.ref f)
theorem def_mk {K : PySem.W.Frag} {h : Heap} {mg : Str → Option Value} {x : Str} {st : Stmt} {f : Addr} {oc kV dc pm cd ct : Value} {od an : Option Addr} {sl : Array (Option Value)} (X : K.In h) (G : h.Ns mainGlobals mg) (a : PySem.W.nsIn K mainGlobals x = some (some (.ref f)))
    (l : K.lookup f = some ⟨oc, od, .func (PySem.W.fnOf x x (defArgs st) (defBody st) (defScope st) .none kV dc pm an cd ct), sl⟩) (c : PySem.W.codeIn K cd x = true) (k : PySem.W.keepIn K (.ref f) = true) : DefM K mg x st := ⟨f, _, fun_mk l c k, PySem.W.mg_of X G a⟩
theorem const_mk {K : PySem.W.Frag} {h : Heap} {mg : Str → Option Value} {x : Str} {i : Int} {t : Tok} (X : K.In h) (G : h.Ns mainGlobals mg) (a : PySem.W.nsIn K mainGlobals x = some (some (.int i t))) : ∃ t, mg x = some (.int i t) := ⟨t, PySem.W.mg_of X G a⟩
/-- where is_turn stands, and its table -/
def TurnM (K : PySem.W.Frag) (mg : Str → Option Value) (h : Heap) (c P : Addr) : Prop := ∃ (f : Addr) (oc kV doc pm ct : Value) (od an : Option Addr) (osl : Array (Option Value)),
  K.lookup f = some ⟨oc, od, .func (PySem.W.fnOf "is_turn" "is_turn" (defArgs sTurn) (defBody sTurn) (defScope sTurn) .none kV doc pm an (.ref c) ct), osl⟩ ∧ PySem.W.codeIn K (.ref c) "is_turn" = true ∧ PySem.W.keepIn K (.ref f) = true ∧ mg "is_turn" = some (.ref f) ∧
  PySem.W.CodeHd h c P ∧ h.get? P = some { cls := .none, data := .fields #[] } ∧ K.lookup P = none
theorem turn_mk {K : PySem.W.Frag} {h : Heap} {mg : Str → Option Value} {f c P : Addr} {oc kV dc pm ct e : Value} {od an dd : Option Addr} {sl sl2 : Array (Option Value)} {vs : Array Value} (X : K.In h) (G : h.Ns mainGlobals mg) (tb : TabAt mg "is_turn" h) (a : PySem.W.nsIn K mainGlobals "is_turn" = some (some (.ref f)))
    (l : K.lookup f = some ⟨oc, od, .func (PySem.W.fnOf "is_turn" "is_turn" (defArgs sTurn) (defBody sTurn) (defScope sTurn) .none kV dc pm an (.ref c) ct), sl⟩) (cd : PySem.W.codeIn K (.ref c) "is_turn" = true) (k : PySem.W.keepIn K (.ref f) = true)
    (lc : K.lookup c = some ⟨e, dd, .fields vs, sl2⟩) (v : vs[11]? = some (.ref P)) (n : K.lookup P = none) : TurnM K mg h c P := by
  have m := PySem.W.mg_of X G a
  obtain ⟨o, fd, c', P', t1, t2, t3, t4, t5⟩ := tb f m
  have g1 := X _ _ l
  rw [t1] at g1
  cases g1
  cases t2
  cases (show Value.ref c = Value.ref c' from t3)
  have t4' := t4
  obtain ⟨o2, vs2, _, _, _, _, _, _, _, u1, _, u3, u4, _⟩ := t4'
  have g2 := X _ _ lc
  rw [u1] at g2
  cases g2
  cases u3
  rw [v] at u4
  cases u4
  exact ⟨f, oc, kV, dc, pm, ct, od, an, sl, l, cd, k, m, t4, t5, n⟩
/-- NotPrime is what «except NotPrime» names -/
theorem exm_np {K : PySem.W.Frag} {C : Addr} (h1 : PySem.W.subIn K (.ref C) (.type "BaseException") = some true) (h2 : PySem.W.isClsIn K C = true) (h3 : PySem.W.typeIn K (.ref C) = some (.type "type")) (h4 : PySem.W.subIn K (.ref C) (.ref C) = some true) : PySem.W.exmOne K (.ref C) (.ref C) = some true := by
  have h2' : (PySem.W.clsIn K C).isSome = true := h2
  unfold PySem.W.exmOne
  rw [h1]
  show PySem.W.kitCls K (.ref C) (.ref C) = some true
  simp only [PySem.W.kitCls, h2', h3, h4]
  rfl
theorem np_mk {K : PySem.W.Frag} {h : Heap} {mg : Str → Option Value} {C : Addr} (X : K.In h) (G : h.Ns mainGlobals mg) (a : PySem.W.nsIn K mainGlobals "NotPrime" = some (some (.ref C))) (x : PySem.W.excIn K C [.type "ValueError", .type "Exception", .type "BaseException", .type "object"] "ValueError.__new__" = true)
    (k : PySem.W.keepIn K (.ref C) = true) (b : PySem.W.subIn K (.ref C) (.type "BaseException") = some true) (t : PySem.W.typeIn K (.ref C) = some (.type "type")) (i : PySem.W.isClsIn K C = true) (s : PySem.W.subIn K (.ref C) (.ref C) = some true) : ∃ C, NPc K mg C :=
  ⟨C, x, PySem.W.mg_of X G a, k, b, t, exm_np b i t s⟩
/-- the class Chains -/
structure ChM (K : PySem.W.Frag) (mg : Str → Option Value) (C fI fF : Addr) (fdI fdF : FuncData) : Prop where
  ct : CTxt K mg C
  mkr : Mk K C fI
  gl : mg "Chains" = some (.ref C)
  me : Meth K C "fill" fF
  fi : Fun K "__init__" "Chains.__init__" sInit fI fdI
  ff : Fun K "fill" "Chains.fill" sFill fF fdF
theorem ch_mk {K : PySem.W.Frag} {h : Heap} {mg : Str → Option Value} {C f g : Addr} {oc1 kV1 dc1 pm1 cd1 ct1 oc2 kV2 dc2 pm2 cd2 ct2 : Value} {od1 an1 od2 an2 : Option Addr} {sl1 sl2 : Array (Option Value)} (X : K.In h) (G : h.Ns mainGlobals mg) (a : PySem.W.nsIn K mainGlobals "Chains" = some (some (.ref C)))
    (a1 : PySem.W.findIn K (.ref C) "__init__" = some (some (.ref f))) (i1 : PySem.W.isFn K (.ref f) = true) (l1 : K.lookup f = some ⟨oc1, od1, .func (PySem.W.fnOf "__init__" "Chains.__init__" (defArgs sInit) (defBody sInit) (defScope sInit) .none kV1 dc1 pm1 an1 cd1 ct1), sl1⟩) (c1 : PySem.W.codeIn K cd1 "Chains.__init__" = true) (k1 : PySem.W.keepIn K (.ref f) = true)
    (a2 : PySem.W.findIn K (.ref C) "fill" = some (some (.ref g))) (i2 : PySem.W.isFn K (.ref g) = true) (l2 : K.lookup g = some ⟨oc2, od2, .func (PySem.W.fnOf "fill" "Chains.fill" (defArgs sFill) (defBody sFill) (defScope sFill) .none kV2 dc2 pm2 an2 cd2 ct2), sl2⟩) (c2 : PySem.W.codeIn K cd2 "Chains.fill" = true) (k2 : PySem.W.keepIn K (.ref g) = true)
    (pg : PySem.W.plainGet K C Str.empty = true) (hd : PySem.W.hasDictIn K C = true) (po : PySem.W.plainOver K C = true) (sa : PySem.W.findIn K (.ref C) "__setattr__" = some (some (.builtin "object.__setattr__"))) (mk : PySem.W.makesIn K C = true) (kc : PySem.W.keepIn K (.ref C) = true)
    (nL : PySem.W.findIn K (.ref C) "lock" = some none) (nP : PySem.W.findIn K (.ref C) "prime" = some none) (nC : PySem.W.findIn K (.ref C) "chains" = some none) : ∃ C fI fF fdI fdF, ChM K mg C fI fF fdI fdF :=
  ⟨C, f, g, _, _, ⟨⟨⟨pg, hd, po, sa⟩, nL, nP, nC⟩, ⟨mk, a1, i1, kc⟩, PySem.W.mg_of X G a, ⟨a2, i2, k2⟩, fun_mk l1 c1 k1, fun_mk l2 c2 k2⟩⟩
structure Frees (mg : Str → Option Value) : Prop where
  z_tuple : mg "tuple" = none
  z_range : mg "range" = none
  z_len : mg "len" = none
  z_isinstance : mg "isinstance" = none
  z_int : mg "int" = none
  z_bool : mg "bool" = none
  z_all : mg "all" = none
  z_set : mg "set" = none
  z_enumerate : mg "enumerate" = none
  z_sorted : mg "sorted" = none
  z_zip : mg "zip" = none
  z_sum : mg "sum" = none
  z_dict : mg "dict" = none
  z_list : mg "list" = none
  z_str : mg "str" = none
  c_LEAST_PLACES : ∃ t, mg "LEAST_PLACES" = some (.int 2 t)
  c_MOST_PLACES : ∃ t, mg "MOST_PLACES" = some (.int 9 t)
  c_MOST_GIVEN : ∃ t, mg "MOST_GIVEN" = some (.int 4 t)
  c_MOST_TURNS : ∃ t, mg "MOST_TURNS" = some (.int 240 t)
structure Defs (K : PySem.W.Frag) (mg : Str → Option Value) : Prop where
  d_is_number : DefM K mg "is_number" sNum
  d_still : DefM K mg "still" sStill
  d_behind : DefM K mg "behind" sBehind
  d_back : DefM K mg "back" sBack
  d_product : DefM K mg "product" sProduct
  d_power : DefM K mg "power" sPower
  d_times_over : DefM K mg "times_over" sTimes
  d_swap_of : DefM K mg "swap_of" sSwap
  d_need_lock : DefM K mg "need_lock" sNeed
  d_spanned : DefM K mg "spanned" sSpan
  d_turns_of : DefM K mg "turns_of" sTurns
  d_swaps_between : DefM K mg "swaps_between" sSwaps
  d_lower_of : DefM K mg "lower_of" sLower
  d_prime_of : DefM K mg "prime_of" sPrime
  d_need_prime_lock : DefM K mg "need_prime_lock" sNeedP
  d_term_of : DefM K mg "term_of" sTerm
  d_weighed_of : DefM K mg "weighed_of" sWof
  d_weighed : DefM K mg "weighed" sWed
  d_sizes_of : DefM K mg "sizes_of" sSizes
  d_told_number : DefM K mg "told_number" sTold
  d_commutators : DefM K mg "commutators" sCom
  d_chains : DefM K mg "chains" sChains
  d_law_taken : DefM K mg "_law_taken" yTaken
  d_law_pick : DefM K mg "_law_pick" yPick
  d_law_alike : DefM K mg "_law_alike" yAlike
  d_law_permutation : DefM K mg "_law_permutation" yPerm
  d_law_behind : DefM K mg "_law_behind" yBehind
  d_law_back : DefM K mg "_law_back" yBack
  d_law_swap : DefM K mg "_law_swap" ySwap
  d_law_span : DefM K mg "_law_span" ySpan
  d_law_known : DefM K mg "_law_known" yKnown
  d_law_lock : DefM K mg "_law_lock" yLock
  d_law_terms : DefM K mg "_law_terms" yTerms
  d_law_reduced : DefM K mg "_law_reduced" yRed
  d_law_dies : DefM K mg "_law_dies" yDies
  d_law_power : DefM K mg "_law_power" yPower
  d_law_weighed : DefM K mg "_law_weighed" yWed
  d_law_bases : DefM K mg "_law_bases" yBases
  d_law : DefM K mg "law" yLaw
section
variable {P : Program} {w : World} {K : PySem.W.Frag} {mg : Str → Option Value} {base : Heap}
theorem cal_of {x : Str} {st : Stmt} {f : Addr} {fd : FuncData} {k : Nat} {ps : List Str} {sp : Sp} (F : Fun K x x st f fd) (m : mg x = some (.ref f)) (ok : FnOk P w K mg base CX0 k f fd ps sp) (b : Binds K fd ps []) : Cal P w K mg base k x sp := ⟨f, fd, ps, ok, m, F.kp, b⟩
theorem calx_of {x : Str} {st : Stmt} {f : Addr} {fd : FuncData} {k : Nat} {ps : List Str} {sp : Sp} (F : Fun K x x st f fd) (m : mg x = some (.ref f)) (ok : FnOk P w K mg base (L2.CX P w) k f fd ps sp) (b : Binds K fd ps []) : CalX P w K mg base k x sp := ⟨f, fd, ps, ok, m, F.kp, b⟩
theorem cal_alk0 {f : Addr} {fd : FuncData} {x : Str} {ps : List Str} (m : mg x = some (.ref f)) (kp : PySem.W.keepIn K (.ref f) = true) (b : Binds K fd ps []) : Cal P w K mg base 0 x (spAlk K 0) :=
  ⟨f, fd, ps, ⟨fun _ _ _ _ h => h.elim, fun _ _ _ _ _ _ _ _ _ _ _ _ _ h => h.elim⟩, m, kp, b⟩
set_option maxHeartbeats 4000000 in
theorem calls_of {h : Heap} {C c Pt C2 fI fF : Addr} {fdI fdF : FuncData} (d : Defs K mg) (z : Frees mg) (np : NPc K mg C) (ch : ChM K mg C2 fI fF fdI fdF) (tm : TurnM K mg h c Pt) (TB : TabB base mg c Pt) : Calls P w K mg base Pt C 12 := by
  obtain ⟨f_is_number, fd_is_number, F_is_number, m_is_number⟩ := d.d_is_number
  obtain ⟨f_still, fd_still, F_still, m_still⟩ := d.d_still
  obtain ⟨f_behind, fd_behind, F_behind, m_behind⟩ := d.d_behind
  obtain ⟨f_back, fd_back, F_back, m_back⟩ := d.d_back
  obtain ⟨f_product, fd_product, F_product, m_product⟩ := d.d_product
  obtain ⟨f_power, fd_power, F_power, m_power⟩ := d.d_power
  obtain ⟨f_times_over, fd_times_over, F_times_over, m_times_over⟩ := d.d_times_over
  obtain ⟨f_swap_of, fd_swap_of, F_swap_of, m_swap_of⟩ := d.d_swap_of
  obtain ⟨f_need_lock, fd_need_lock, F_need_lock, m_need_lock⟩ := d.d_need_lock
  obtain ⟨f_spanned, fd_spanned, F_spanned, m_spanned⟩ := d.d_spanned
  obtain ⟨f_turns_of, fd_turns_of, F_turns_of, m_turns_of⟩ := d.d_turns_of
  obtain ⟨f_swaps_between, fd_swaps_between, F_swaps_between, m_swaps_between⟩ := d.d_swaps_between
  obtain ⟨f_lower_of, fd_lower_of, F_lower_of, m_lower_of⟩ := d.d_lower_of
  obtain ⟨f_prime_of, fd_prime_of, F_prime_of, m_prime_of⟩ := d.d_prime_of
  obtain ⟨f_need_prime_lock, fd_need_prime_lock, F_need_prime_lock, m_need_prime_lock⟩ := d.d_need_prime_lock
  obtain ⟨f_term_of, fd_term_of, F_term_of, m_term_of⟩ := d.d_term_of
  obtain ⟨f_weighed_of, fd_weighed_of, F_weighed_of, m_weighed_of⟩ := d.d_weighed_of
  obtain ⟨f_weighed, fd_weighed, F_weighed, m_weighed⟩ := d.d_weighed
  obtain ⟨f_sizes_of, fd_sizes_of, F_sizes_of, m_sizes_of⟩ := d.d_sizes_of
  obtain ⟨f_told_number, fd_told_number, F_told_number, m_told_number⟩ := d.d_told_number
  obtain ⟨f_commutators, fd_commutators, F_commutators, m_commutators⟩ := d.d_commutators
  obtain ⟨f_chains, fd_chains, F_chains, m_chains⟩ := d.d_chains
  obtain ⟨f_law_taken, fd_law_taken, F_law_taken, m_law_taken⟩ := d.d_law_taken
  obtain ⟨f_law_pick, fd_law_pick, F_law_pick, m_law_pick⟩ := d.d_law_pick
  obtain ⟨f_law_alike, fd_law_alike, F_law_alike, m_law_alike⟩ := d.d_law_alike
  obtain ⟨f_law_permutation, fd_law_permutation, F_law_permutation, m_law_permutation⟩ := d.d_law_permutation
  obtain ⟨f_law_behind, fd_law_behind, F_law_behind, m_law_behind⟩ := d.d_law_behind
  obtain ⟨f_law_back, fd_law_back, F_law_back, m_law_back⟩ := d.d_law_back
  obtain ⟨f_law_swap, fd_law_swap, F_law_swap, m_law_swap⟩ := d.d_law_swap
  obtain ⟨f_law_span, fd_law_span, F_law_span, m_law_span⟩ := d.d_law_span
  obtain ⟨f_law_known, fd_law_known, F_law_known, m_law_known⟩ := d.d_law_known
  obtain ⟨f_law_lock, fd_law_lock, F_law_lock, m_law_lock⟩ := d.d_law_lock
  obtain ⟨f_law_terms, fd_law_terms, F_law_terms, m_law_terms⟩ := d.d_law_terms
  obtain ⟨f_law_reduced, fd_law_reduced, F_law_reduced, m_law_reduced⟩ := d.d_law_reduced
  obtain ⟨f_law_dies, fd_law_dies, F_law_dies, m_law_dies⟩ := d.d_law_dies
  obtain ⟨f_law_power, fd_law_power, F_law_power, m_law_power⟩ := d.d_law_power
  obtain ⟨f_law_weighed, fd_law_weighed, F_law_weighed, m_law_weighed⟩ := d.d_law_weighed
  obtain ⟨f_law_bases, fd_law_bases, F_law_bases, m_law_bases⟩ := d.d_law_bases
  obtain ⟨f_is_turn, oc, kV, doc, pm, ct, od, an, osl, lk, hcd, kp, m_is_turn, _, _, _⟩ := tm
  have C_is_turn : Cal P w K mg base 1 "is_turn" (spTurn Pt) := ⟨f_is_turn, _, _, ok_turn lk hcd TB F_is_number m_is_number z.z_isinstance z.z_int z.z_bool z.z_tuple z.z_len z.z_all z.z_set, m_is_turn, kp, .all fun us hl => match us, hl with | [_, _], _ => rfl⟩
  have C_still : Cal P w K mg base 1 "still" spStill := cal_of F_still m_still (ok_still F_still z.z_tuple z.z_range) (F_still.binds (fun _ _ _ _ _ _ us hl => match us, hl with | [_], _ => rfl))
  have C_behind : Cal P w K mg base 1 "behind" spBehind := cal_of F_behind m_behind (ok_behind F_behind z.z_tuple) (F_behind.binds (fun _ _ _ _ _ _ us hl => match us, hl with | [_, _], _ => rfl))
  have C_back : Cal P w K mg base 1 "back" spBack := cal_of F_back m_back (ok_back F_back z.z_tuple z.z_len z.z_enumerate) (F_back.binds (fun _ _ _ _ _ _ us hl => match us, hl with | [_], _ => rfl))
  have C_product : Cal P w K mg base 2 "product" spProduct := cal_of F_product m_product (ok_product F_product C_still C_behind) (F_product.binds (fun _ _ _ _ _ _ us hl => match us, hl with | [_, _], _ => rfl))
  have C_power : Cal P w K mg base 3 "power" spPower := cal_of F_power m_power (ok_power F_power C_product z.z_len) (F_power.binds (fun _ _ _ _ _ _ us hl => match us, hl with | [_, _], _ => rfl))
  have C_times_over : Cal P w K mg base 1 "times_over" spTimes := cal_of F_times_over m_times_over (ok_times F_times_over z.z_range) (F_times_over.binds (fun _ _ _ _ _ _ us hl => match us, hl with | [_, _], _ => rfl))
  have C_swap_of : Cal P w K mg base 3 "swap_of" spSwap := cal_of F_swap_of m_swap_of (ok_swap F_swap_of C_product (C_back.mono (by decide : 1 ≤ 2)) z.z_len) (F_swap_of.binds (fun _ _ _ _ _ _ us hl => match us, hl with | [_, _], _ => rfl))
  have C_spanned : Cal P w K mg base 2 "spanned" spSpan := cal_of F_spanned m_spanned (ok_span F_spanned C_still C_behind z.z_len z.z_sorted z.c_MOST_TURNS) (F_spanned.binds (fun _ _ _ _ _ _ us hl => match us, hl with | [_, _], _ => rfl))
  have C_turns_of : Cal P w K mg base 3 "turns_of" spTurns := cal_of F_turns_of m_turns_of (ok_turns F_turns_of C_spanned z.z_len) (F_turns_of.binds (fun _ _ _ _ _ _ us hl => match us, hl with | [_], _ => rfl))
  have C_swaps_between : Cal P w K mg base 4 "swaps_between" spSwaps := cal_of F_swaps_between m_swaps_between (ok_swaps F_swaps_between (C_spanned.mono (by decide : 2 ≤ 3)) C_swap_of z.z_sorted z.z_set) (F_swaps_between.binds (fun _ _ _ _ _ _ us hl => match us, hl with | [_, _, _], _ => rfl))
  have C_lower_of : Cal P w K mg base 5 "lower_of" spLower := cal_of F_lower_of m_lower_of (ok_lower F_lower_of (C_turns_of.mono (by decide : 3 ≤ 4)) C_swaps_between z.z_len) (F_lower_of.binds (fun _ _ _ _ _ _ us hl => match us, hl with | [_], _ => rfl))
  have C_prime_of : Cal P w K mg base 4 "prime_of" spPrime := cal_of F_prime_of m_prime_of (ok_prime F_prime_of C_turns_of z.z_len z.z_range) (F_prime_of.binds (fun _ _ _ _ _ _ us hl => match us, hl with | [_], _ => rfl))
  have C_need_lock : Cal P w K mg base 6 "need_lock" (spNeed Pt) := cal_of F_need_lock m_need_lock (ok_need F_need_lock (C_is_turn.mono (by decide : 1 ≤ 5)) (C_turns_of.mono (by decide : 3 ≤ 5)) z.z_isinstance z.z_tuple z.z_len z.z_enumerate z.c_LEAST_PLACES z.c_MOST_PLACES z.c_MOST_GIVEN) (F_need_lock.binds (fun _ _ _ _ _ _ us hl => match us, hl with | [_], _ => rfl))
  have C_need_prime_lock : CalX P w K mg base 7 "need_prime_lock" (spNeedP Pt C) := calx_of F_need_prime_lock m_need_prime_lock (ok_needP F_need_prime_lock C_need_lock (C_prime_of.mono (by decide : 4 ≤ 6)) np) (F_need_prime_lock.binds (fun _ _ _ _ _ _ us hl => match us, hl with | [_], _ => rfl))
  have C_term_of : Cal P w K mg base 4 "term_of" spTerm := cal_of F_term_of m_term_of (ok_term F_term_of (C_spanned.mono (by decide : 2 ≤ 3)) C_power z.z_sorted z.z_set z.z_enumerate z.z_len) (F_term_of.binds (fun _ _ _ _ _ _ us hl => match us, hl with | [_, _, _, _], _ => rfl))
  have C_weighed_of : Cal P w K mg base 6 "weighed_of" spWof := cal_of F_weighed_of m_weighed_of (ok_wof F_weighed_of (C_prime_of.mono (by decide : 4 ≤ 5)) C_lower_of (C_term_of.mono (by decide : 4 ≤ 5)) z.z_len) (F_weighed_of.binds (fun _ _ _ _ _ _ us hl => match us, hl with | [_], _ => rfl))
  have C_weighed : Cal P w K mg base 8 "weighed" (spWed Pt) := cal_of F_weighed m_weighed (ok_wed F_weighed C_need_prime_lock (C_weighed_of.mono (by decide : 6 ≤ 7)) z.z_tuple) (F_weighed.binds (fun _ _ _ _ _ _ us hl => match us, hl with | [_], _ => rfl))
  have C_sizes_of : Cal P w K mg base 7 "sizes_of" spSizes := cal_of F_sizes_of m_sizes_of (ok_sizes F_sizes_of (C_prime_of.mono (by decide : 4 ≤ 6)) C_weighed_of (C_still.mono (by decide : 1 ≤ 6)) z.z_len z.z_zip) (F_sizes_of.binds (fun _ _ _ _ _ _ us hl => match us, hl with | [_], _ => rfl))
  have C_told_number : CalX P w K mg base 8 "told_number" (spTold Pt C) := calx_of F_told_number m_told_number (ok_told F_told_number C_need_prime_lock C_sizes_of z.z_enumerate z.z_sum) (F_told_number.binds (fun _ _ _ _ _ _ us hl => match us, hl with | [_], _ => rfl))
  have C_commutators : Cal P w K mg base 4 "commutators" spCom := cal_of F_commutators m_commutators (ok_com F_commutators C_swap_of z.z_range) (F_commutators.binds (fun _ _ _ _ _ _ us hl => match us, hl with | [_, _], _ => rfl))
  have bF := ch.ff.binds (ps := ["self", "weight", "term", "later"]) (fun _ _ _ _ _ _ us hl => match us, hl with | [_, _, _, _], _ => rfl)
  have bI := ch.fi.binds (ps := ["self", "lock"]) (fun _ _ _ _ _ _ us hl => match us, hl with | [_, _], _ => rfl)
  have GF : FnOk P w K mg base CX0 5 fF fdF ["self", "weight", "term", "later"] (spFill C2) := ok_fill ch.ff ch.ct (C_power.mono (by decide : 3 ≤ 4)) (C_times_over.mono (by decide : 1 ≤ 4)) (C_spanned.mono (by decide : 2 ≤ 4)) C_commutators z.z_len
  have GI : FnOk P w K mg base CX0 7 fI fdI ["self", "lock"] (spInit C2) := ok_init ch.fi ch.ct ch.me (GF.mono (by decide : 5 ≤ 6)) bF (C_prime_of.mono (by decide : 4 ≤ 6)) C_weighed_of (C_still.mono (by decide : 1 ≤ 6)) z.z_len z.z_range
  have C_chains : Cal P w K mg base 9 "chains" (spChains Pt) := cal_of F_chains m_chains (ok_chains F_chains ch.ct ch.mkr ch.gl GI bI (C_need_prime_lock.mono (by decide : 7 ≤ 8)) z.z_tuple) (F_chains.binds (fun _ _ _ _ _ _ us hl => match us, hl with | [_], _ => rfl))
  have C_law_taken : Cal P w K mg base 1 "_law_taken" (spTaken K) := cal_of F_law_taken m_law_taken (ok_taken F_law_taken z.z_int z.z_len) (F_law_taken.binds (fun _ _ _ _ _ _ us hl => match us, hl with | [_, _], _ => rfl))
  have C_law_pick : Cal P w K mg base 2 "_law_pick" (spPick K) := cal_of F_law_pick m_law_pick (ok_pick F_law_pick C_law_taken z.z_len) (F_law_pick.binds (fun _ _ _ _ _ _ us hl => match us, hl with | [_, _], _ => rfl))
  have C_law_permutation : Cal P w K mg base 2 "_law_permutation" (spPerm K) := cal_of F_law_permutation m_law_permutation (ok_perm F_law_permutation C_law_taken z.z_len z.z_range z.z_tuple z.z_list) (F_law_permutation.binds (fun _ _ _ _ _ _ us hl => match us, hl with | [_, _], _ => rfl))
  have C_law_behind : Cal P w K mg base 1 "_law_behind" spBehindY := cal_of F_law_behind m_law_behind (ok_behindY F_law_behind z.z_tuple) (F_law_behind.binds (fun _ _ _ _ _ _ us hl => match us, hl with | [_, _], _ => rfl))
  have C_law_back : Cal P w K mg base 1 "_law_back" spBackY := cal_of F_law_back m_law_back (ok_backY F_law_back z.z_tuple z.z_range z.z_len) (F_law_back.binds (fun _ _ _ _ _ _ us hl => match us, hl with | [_], _ => rfl))
  have C_law_swap : Cal P w K mg base 2 "_law_swap" spSwapY := cal_of F_law_swap m_law_swap (ok_swapY F_law_swap C_law_behind C_law_back) (F_law_swap.binds (fun _ _ _ _ _ _ us hl => match us, hl with | [_, _], _ => rfl))
  have C_law_power : Cal P w K mg base 2 "_law_power" spPowerY := cal_of F_law_power m_law_power (ok_powerY F_law_power C_law_behind z.z_tuple z.z_range z.z_len) (F_law_power.binds (fun _ _ _ _ _ _ us hl => match us, hl with | [_, _], _ => rfl))
  have C_law_span : Cal P w K mg base 2 "_law_span" spSpanY := cal_of F_law_span m_law_span (ok_spanY F_law_span C_law_behind z.z_tuple z.z_range z.z_sorted z.z_set) (F_law_span.binds (fun _ _ _ _ _ _ us hl => match us, hl with | [_, _], _ => rfl))
  have C_law_known : Cal P w K mg base 3 "_law_known" (spKnown K) := cal_of F_law_known m_law_known (ok_known F_law_known C_law_pick C_law_permutation z.z_len z.z_enumerate z.z_tuple) (F_law_known.binds (fun _ _ _ _ _ _ us hl => match us, hl with | [_, _], _ => rfl))
  have C_law_lock : Cal P w K mg base 4 "_law_lock" (spKnown K) := cal_of F_law_lock m_law_lock (ok_lockY F_law_lock (C_law_taken.mono (by decide : 1 ≤ 3)) C_law_known (C_law_permutation.mono (by decide : 2 ≤ 3)) z.z_range z.z_tuple) (F_law_lock.binds (fun _ _ _ _ _ _ us hl => match us, hl with | [_, _], _ => rfl))
  have C_law_terms : Cal P w K mg base 3 "_law_terms" spTermsY := cal_of F_law_terms m_law_terms (ok_termsY F_law_terms C_law_span C_law_swap z.z_len z.z_range z.z_sorted z.z_set) (F_law_terms.binds (fun _ _ _ _ _ _ us hl => match us, hl with | [_, _], _ => rfl))
  have C_law_weighed : Cal P w K mg base 4 "_law_weighed" spWedY := cal_of F_law_weighed m_law_weighed (ok_wedY F_law_weighed C_law_terms (C_law_span.mono (by decide : 2 ≤ 3)) (C_law_power.mono (by decide : 2 ≤ 3)) z.z_len z.z_range z.z_sorted z.z_set z.z_enumerate) (F_law_weighed.binds (fun _ _ _ _ _ _ us hl => match us, hl with | [_, _], _ => rfl))
  have C_law_bases : Cal P w K mg base 3 "_law_bases" spBasesY := cal_of F_law_bases m_law_bases (ok_basesY F_law_bases C_law_swap z.z_len z.z_range) (F_law_bases.binds (fun _ _ _ _ _ _ us hl => match us, hl with | [_, _], _ => rfl))
  have C_law_reduced : Cal P w K mg base 1 "_law_reduced" spRed := cal_of F_law_reduced m_law_reduced (ok_red F_law_reduced z.z_range z.z_zip z.z_enumerate) (F_law_reduced.binds (fun _ _ _ _ _ _ us hl => match us, hl with | [_, _], _ => rfl))
  have C_law_dies : Cal P w K mg base 2 "_law_dies" spDies := cal_of F_law_dies m_law_dies (ok_dies F_law_dies C_law_behind C_law_reduced z.z_tuple z.z_range z.z_len z.z_dict z.z_enumerate z.z_zip) (F_law_dies.binds (fun _ _ _ _ _ _ us hl => match us, hl with | [_, _, _], _ => rfl))
  have bA := F_law_alike.binds (ps := ["_law_found", "_law_due"]) (fun _ _ _ _ _ _ us hl => match us, hl with | [_, _], _ => rfl)
  have A0 : Cal P w K mg base 0 "_law_alike" (spAlk K 0) := cal_alk0 m_law_alike F_law_alike.kp bA
  have A1 : Cal P w K mg base 1 "_law_alike" (spAlk K 1) := cal_of F_law_alike m_law_alike (ok_alike F_law_alike A0 z.z_isinstance z.z_tuple z.z_list z.z_range z.z_len z.z_str z.z_int z.z_bool) bA
  have A2 : Cal P w K mg base 2 "_law_alike" (spAlk K 2) := cal_of F_law_alike m_law_alike (ok_alike F_law_alike A1 z.z_isinstance z.z_tuple z.z_list z.z_range z.z_len z.z_str z.z_int z.z_bool) bA
  have A3 : Cal P w K mg base 3 "_law_alike" (spAlk K 3) := cal_of F_law_alike m_law_alike (ok_alike F_law_alike A2 z.z_isinstance z.z_tuple z.z_list z.z_range z.z_len z.z_str z.z_int z.z_bool) bA
  have A4 : Cal P w K mg base 4 "_law_alike" (spAlk K 4) := cal_of F_law_alike m_law_alike (ok_alike F_law_alike A3 z.z_isinstance z.z_tuple z.z_list z.z_range z.z_len z.z_str z.z_int z.z_bool) bA
  exact ⟨np, C_law_taken.mono (by decide), C_law_known.mono (by decide), C_law_lock.mono (by decide), C_law_span.mono (by decide), C_told_number.mono (by decide), A4.mono (by decide), C_law_dies.mono (by decide), C_weighed.mono (by decide), C_law_weighed.mono (by decide), C_law_bases.mono (by decide), C_chains.mono (by decide), C_law_behind.mono (by decide), C_law_power.mono (by decide)⟩
end
theorem all_end {l : PySem.W.OpenLaw} {w : World} {K : PySem.W.Frag} {h : Heap} {mg : Str → Option Value} {fa c Pt : Addr} (hfa : mg "law" = some (.ref fa)) (d : Defs K mg) (z : Frees mg) (np : ∃ C, NPc K mg C) (ch : ∃ C fI fF fdI fdF, ChM K mg C fI fF fdI fdF) (tm : TurnM K mg h c Pt) : LamX.LawAtS l w K CX0 13 63 "_law_script" mg fa h := by
  obtain ⟨C, np⟩ := np
  obtain ⟨C2, fI, fF, fdI, fdF, ch⟩ := ch
  obtain ⟨f, fd, F, m⟩ := d.d_law
  cases hfa.symm.trans m
  have tm' := tm
  obtain ⟨_, _, _, _, _, _, _, _, _, _, _, _, _, t1, t2, t3⟩ := tm'
  have one : ∀ {p : Addr × Addr}, p ∈ [(c, Pt)] → p = (c, Pt) := fun hp => List.mem_singleton.mp hp
  have bd : ∀ (s : Shared) (u : Value), BindsTo s fd ⟨[u], []⟩ [("_law_script", u)] := fun s u => by
    obtain ⟨oc, od, kV, dc, pm, an, cd, ct, sl, e, _, _⟩ := F.ex
    subst e
    exact .of_eq rfl
  refine ⟨fd, [(c, Pt)], spLaw K Pt, fun p hp => by rw [one hp]; exact t2, fun p hp => by rw [one hp]; exact t3, fun p hp => by rw [one hp]; exact t1, bd, fun H a ns _ _ hp hS => ?_, fun base KB NB TB => ?_⟩
  · exact ⟨a, ns, rfl, hS, ⟨#[], hp (c, Pt) (List.mem_singleton.mpr rfl), trivial⟩, fun _ => rfl⟩
  · have T := TB (c, Pt) (List.mem_singleton.mpr rfl)
    exact ok_law F (calls_of d z np ch tm ⟨T.code, T.bm, T.gP⟩) z.z_len z.z_tuple z.z_range z.z_sum z.z_sorted
end Lk
set_option Elab.async false
set_option linter.all false
set_option maxRecDepth 100000
open PySem PySem.W PyProof.Rows in
set_option maxHeartbeats 0 in
theorem PySem.Challenge.cw_lockturns_k07_whole_weights_holds : PySem.Challenge.rw_lockturns_k07_whole_weights.Holds := by
  w_on; o_law; k_head; (case hw => w_witness2)
  k_fill
  refine Lk.walk_named "is_turn" (l := PySem.Challenge.rw_lockturns_k07_whole_weights) (n := 63) (k := 13) (y := "_law_script") rfl (by decide) rfl ⟨rfl, by decide, by decide⟩ ?R (fun w h Y => PySem.W.kIn_of Y) ?F
  case R => decide +kernel
  case F =>
    intro w mg fa h Y KX G hmg tb
    refine' Lk.all_end hmg ⟨?d_is_number, ?d_still, ?d_behind, ?d_back, ?d_product, ?d_power, ?d_times_over, ?d_swap_of, ?d_need_lock, ?d_spanned, ?d_turns_of, ?d_swaps_between, ?d_lower_of, ?d_prime_of, ?d_need_prime_lock, ?d_term_of, ?d_weighed_of, ?d_weighed, ?d_sizes_of, ?d_told_number, ?d_commutators, ?d_chains, ?d_law_taken, ?d_law_pick, ?d_law_alike, ?d_law_permutation, ?d_law_behind, ?d_law_back, ?d_law_swap, ?d_law_span, ?d_law_known, ?d_law_lock, ?d_law_terms, ?d_law_reduced, ?d_law_dies, ?d_law_power, ?d_law_weighed, ?d_law_bases, ?d_law⟩ ⟨?z_tuple, ?z_range, ?z_len, ?z_isinstance, ?z_int, ?z_bool, ?z_all, ?z_set, ?z_enumerate, ?z_sorted, ?z_zip, ?z_sum, ?z_dict, ?z_list, ?z_str, ?c_LEAST_PLACES, ?c_MOST_PLACES, ?c_MOST_GIVEN, ?c_MOST_TURNS⟩ ?np ?ch ?tm
    case d_is_number =>
      refine' Lk.def_mk KX G ?a ?l ?c ?k
      (case a => k_is); (case l => k_is); (case c => k_is); (case k => k_is)
    case d_still =>
      refine' Lk.def_mk KX G ?a ?l ?c ?k
      (case a => k_is); (case l => k_is); (case c => k_is); (case k => k_is)
    case d_behind =>
      refine' Lk.def_mk KX G ?a ?l ?c ?k
      (case a => k_is); (case l => k_is); (case c => k_is); (case k => k_is)
    case d_back =>
      refine' Lk.def_mk KX G ?a ?l ?c ?k
      (case a => k_is); (case l => k_is); (case c => k_is); (case k => k_is)
    case d_product =>
      refine' Lk.def_mk KX G ?a ?l ?c ?k
      (case a => k_is); (case l => k_is); (case c => k_is); (case k => k_is)
    case d_power =>
      refine' Lk.def_mk KX G ?a ?l ?c ?k
      (case a => k_is); (case l => k_is); (case c => k_is); (case k => k_is)
    case d_times_over =>
      refine' Lk.def_mk KX G ?a ?l ?c ?k
      (case a => k_is); (case l => k_is); (case c => k_is); (case k => k_is)
    case d_swap_of =>
      refine' Lk.def_mk KX G ?a ?l ?c ?k
      (case a => k_is); (case l => k_is); (case c => k_is); (case k => k_is)
    case d_need_lock =>
      refine' Lk.def_mk KX G ?a ?l ?c ?k
      (case a => k_is); (case l => k_is); (case c => k_is); (case k => k_is)
    case d_spanned =>
      refine' Lk.def_mk KX G ?a ?l ?c ?k
      (case a => k_is); (case l => k_is); (case c => k_is); (case k => k_is)
    case d_turns_of =>
      refine' Lk.def_mk KX G ?a ?l ?c ?k
      (case a => k_is); (case l => k_is); (case c => k_is); (case k => k_is)
    case d_swaps_between =>
      refine' Lk.def_mk KX G ?a ?l ?c ?k
      (case a => k_is); (case l => k_is); (case c => k_is); (case k => k_is)
    case d_lower_of =>
      refine' Lk.def_mk KX G ?a ?l ?c ?k
      (case a => k_is); (case l => k_is); (case c => k_is); (case k => k_is)
    case d_prime_of =>
      refine' Lk.def_mk KX G ?a ?l ?c ?k
      (case a => k_is); (case l => k_is); (case c => k_is); (case k => k_is)
    case d_need_prime_lock =>
      refine' Lk.def_mk KX G ?a ?l ?c ?k
      (case a => k_is); (case l => k_is); (case c => k_is); (case k => k_is)
    case d_term_of =>
      refine' Lk.def_mk KX G ?a ?l ?c ?k
      (case a => k_is); (case l => k_is); (case c => k_is); (case k => k_is)
    case d_weighed_of =>
      refine' Lk.def_mk KX G ?a ?l ?c ?k
      (case a => k_is); (case l => k_is); (case c => k_is); (case k => k_is)
    case d_weighed =>
      refine' Lk.def_mk KX G ?a ?l ?c ?k
      (case a => k_is); (case l => k_is); (case c => k_is); (case k => k_is)
    case d_sizes_of =>
      refine' Lk.def_mk KX G ?a ?l ?c ?k
      (case a => k_is); (case l => k_is); (case c => k_is); (case k => k_is)
    case d_told_number =>
      refine' Lk.def_mk KX G ?a ?l ?c ?k
      (case a => k_is); (case l => k_is); (case c => k_is); (case k => k_is)
    case d_commutators =>
      refine' Lk.def_mk KX G ?a ?l ?c ?k
      (case a => k_is); (case l => k_is); (case c => k_is); (case k => k_is)
    case d_chains =>
      refine' Lk.def_mk KX G ?a ?l ?c ?k
      (case a => k_is); (case l => k_is); (case c => k_is); (case k => k_is)
    case d_law_taken =>
      refine' Lk.def_mk KX G ?a ?l ?c ?k
      (case a => k_is); (case l => k_is); (case c => k_is); (case k => k_is)
    case d_law_pick =>
      refine' Lk.def_mk KX G ?a ?l ?c ?k
      (case a => k_is); (case l => k_is); (case c => k_is); (case k => k_is)
    case d_law_alike =>
      refine' Lk.def_mk KX G ?a ?l ?c ?k
      (case a => k_is); (case l => k_is); (case c => k_is); (case k => k_is)
    case d_law_permutation =>
      refine' Lk.def_mk KX G ?a ?l ?c ?k
      (case a => k_is); (case l => k_is); (case c => k_is); (case k => k_is)
    case d_law_behind =>
      refine' Lk.def_mk KX G ?a ?l ?c ?k
      (case a => k_is); (case l => k_is); (case c => k_is); (case k => k_is)
    case d_law_back =>
      refine' Lk.def_mk KX G ?a ?l ?c ?k
      (case a => k_is); (case l => k_is); (case c => k_is); (case k => k_is)
    case d_law_swap =>
      refine' Lk.def_mk KX G ?a ?l ?c ?k
      (case a => k_is); (case l => k_is); (case c => k_is); (case k => k_is)
    case d_law_span =>
      refine' Lk.def_mk KX G ?a ?l ?c ?k
      (case a => k_is); (case l => k_is); (case c => k_is); (case k => k_is)
    case d_law_known =>
      refine' Lk.def_mk KX G ?a ?l ?c ?k
      (case a => k_is); (case l => k_is); (case c => k_is); (case k => k_is)
    case d_law_lock =>
      refine' Lk.def_mk KX G ?a ?l ?c ?k
      (case a => k_is); (case l => k_is); (case c => k_is); (case k => k_is)
    case d_law_terms =>
      refine' Lk.def_mk KX G ?a ?l ?c ?k
      (case a => k_is); (case l => k_is); (case c => k_is); (case k => k_is)
    case d_law_reduced =>
      refine' Lk.def_mk KX G ?a ?l ?c ?k
      (case a => k_is); (case l => k_is); (case c => k_is); (case k => k_is)
    case d_law_dies =>
      refine' Lk.def_mk KX G ?a ?l ?c ?k
      (case a => k_is); (case l => k_is); (case c => k_is); (case k => k_is)
    case d_law_power =>
      refine' Lk.def_mk KX G ?a ?l ?c ?k
      (case a => k_is); (case l => k_is); (case c => k_is); (case k => k_is)
    case d_law_weighed =>
      refine' Lk.def_mk KX G ?a ?l ?c ?k
      (case a => k_is); (case l => k_is); (case c => k_is); (case k => k_is)
    case d_law_bases =>
      refine' Lk.def_mk KX G ?a ?l ?c ?k
      (case a => k_is); (case l => k_is); (case c => k_is); (case k => k_is)
    case d_law =>
      refine' Lk.def_mk KX G ?a ?l ?c ?k
      (case a => k_is); (case l => k_is); (case c => k_is); (case k => k_is)
    case z_tuple =>
      refine' PySem.W.mg_none_of KX G ?a
      (case a => k_is)
    case z_range =>
      refine' PySem.W.mg_none_of KX G ?a
      (case a => k_is)
    case z_len =>
      refine' PySem.W.mg_none_of KX G ?a
      (case a => k_is)
    case z_isinstance =>
      refine' PySem.W.mg_none_of KX G ?a
      (case a => k_is)
    case z_int =>
      refine' PySem.W.mg_none_of KX G ?a
      (case a => k_is)
    case z_bool =>
      refine' PySem.W.mg_none_of KX G ?a
      (case a => k_is)
    case z_all =>
      refine' PySem.W.mg_none_of KX G ?a
      (case a => k_is)
    case z_set =>
      refine' PySem.W.mg_none_of KX G ?a
      (case a => k_is)
    case z_enumerate =>
      refine' PySem.W.mg_none_of KX G ?a
      (case a => k_is)
    case z_sorted =>
      refine' PySem.W.mg_none_of KX G ?a
      (case a => k_is)
    case z_zip =>
      refine' PySem.W.mg_none_of KX G ?a
      (case a => k_is)
    case z_sum =>
      refine' PySem.W.mg_none_of KX G ?a
      (case a => k_is)
    case z_dict =>
      refine' PySem.W.mg_none_of KX G ?a
      (case a => k_is)
    case z_list =>
      refine' PySem.W.mg_none_of KX G ?a
      (case a => k_is)
    case z_str =>
      refine' PySem.W.mg_none_of KX G ?a
      (case a => k_is)
    case c_LEAST_PLACES =>
      refine' Lk.const_mk KX G ?a
      (case a => k_is)
    case c_MOST_PLACES =>
      refine' Lk.const_mk KX G ?a
      (case a => k_is)
    case c_MOST_GIVEN =>
      refine' Lk.const_mk KX G ?a
      (case a => k_is)
    case c_MOST_TURNS =>
      refine' Lk.const_mk KX G ?a
      (case a => k_is)
    case np =>
      refine' Lk.np_mk KX G ?a ?x ?k ?b ?t ?i ?s
      (case a => k_is); (case x => k_exc); (case k => k_is); (case b => k_is); (case t => k_is); (case i => k_is); (case s => first | rfl | k_is)
    case ch =>
      refine' Lk.ch_mk KX G ?a ?a1 ?i1 ?l1 ?c1 ?k1 ?a2 ?i2 ?l2 ?c2 ?k2 ?pg ?hd ?po ?sa ?mk ?kc ?nL ?nP ?nC
      (case a => k_is)
      (case a1 => k_is)
      (case i1 => k_is)
      (case l1 => k_is)
      (case c1 => k_is)
      (case k1 => k_is)
      (case a2 => k_is)
      (case i2 => k_is)
      (case l2 => k_is)
      (case c2 => k_is)
      (case k2 => k_is)
      (case pg => k_is)
      (case hd => k_is)
      (case po => k_is)
      (case sa => k_is)
      (case mk => k_is)
      (case kc => k_is)
      (case nL => k_is)
      (case nP => k_is)
      (case nC => k_is)
    case tm =>
      refine' Lk.turn_mk KX G tb ?a ?l ?c ?k ?lc ?v ?n
      (case a => k_is); (case l => k_is); (case c => k_is); (case k => k_is); (case lc => k_is)
      (case v => rfl)
      (case n => kernel_rfl)
