import PyProof.Rows.All
import Wide.All
import OpenK.AllK
import Wide.FinOn
import HandS.ForMost
import HandS.Wide
import HandS.More
import HandS.Conv
import HandS.Zip
import HandS.SetFor
import HandS.Style
import HandS.Defaults
import HandS.DictComp
import HandS.IsInst
import HandS.SortInts
import HandS.NoneIn
import HandS.Small
import HandS.Walk
import KE.KDictCopyH
import KE.KEqDeep
import HandS.Head0
import HandS.Head1
import HandS.Head2
import HandS.HeadEnd
import HandS.HeadHook1
import HandS.HeadHook2
import PySem.Challenge.RW_lateids_k70_whole_margins_by_readers
set_option Elab.async false
/-! #### Mth -/
set_option linter.all false
/-! The plain law, in plain Lean: tops, polls, readers, margins, histories. -/
namespace Lat
theorem snoc_ind {α : Type} {p : List α → Prop} (h0 : p []) (hs : ∀ l x, p l → p (l ++ [x])) (l : List α) : p l := by
  have h : ∀ l : List α, p l.reverse := by
    intro l
    induction l with
    | nil => exact h0
    | cons x r ih =>
      rw [List.reverse_cons]
      exact hs _ _ ih
  have := h l.reverse
  rwa [List.reverse_reverse] at this

/-! ### sorted lists -/
def srt (xs : List Int) : List Int := xs.mergeSort (fun a b => decide (a ≤ b))
theorem srt_perm (xs : List Int) : (srt xs).Perm xs := List.mergeSort_perm _ _
theorem srt_pw (xs : List Int) : (srt xs).Pairwise (fun a b => a ≤ b) := by
  have h := List.pairwise_mergeSort (le := fun a b : Int => decide (a ≤ b)) (fun a b c h1 h2 => by
    have h1 := of_decide_eq_true h1
    have h2 := of_decide_eq_true h2
    exact decide_eq_true (by omega)) (fun a b => by
    by_cases h : a ≤ b
    · simp [h]
    · simp [show b ≤ a by omega]) xs
  exact h.imp fun h => of_decide_eq_true h
theorem srt_uniq {xs ys : List Int} (hp : ys.Perm xs) (hs : ys.Pairwise (fun a b => a ≤ b)) : ys = srt xs :=
  List.Perm.eq_of_pairwise (le := fun a b : Int => a ≤ b) (fun a b _ _ h1 h2 => by omega) hs (srt_pw xs) (hp.trans (srt_perm xs).symm)
theorem srt_perm_eq {xs ys : List Int} (h : xs.Perm ys) : srt xs = srt ys := srt_uniq ((srt_perm xs).trans h) (srt_pw xs)
theorem mem_srt {xs : List Int} {x : Int} : x ∈ srt xs ↔ x ∈ xs := (srt_perm xs).mem_iff
theorem srt_nodup {xs : List Int} (h : xs.Nodup) : (srt xs).Nodup := (srt_perm xs).nodup_iff.mpr h
theorem srt_length (xs : List Int) : (srt xs).length = xs.length := (srt_perm xs).length_eq

/-! ### greatest values -/
def mx (c : Int) (xs : List Int) : Int := xs.foldl max c
theorem mx_ge (xs : List Int) : ∀ c : Int, c ≤ mx c xs := by
  induction xs with
  | nil => intro c; exact Int.le_refl _
  | cons x r ih =>
    intro c
    have := ih (max c x)
    show c ≤ mx (max c x) r
    omega
theorem mx_mem_le {xs : List Int} : ∀ {c x : Int}, x ∈ xs → x ≤ mx c xs := by
  induction xs with
  | nil => intro c x h; cases h
  | cons y r ih =>
    intro c x h
    show x ≤ mx (max c y) r
    rcases List.mem_cons.mp h with e | h
    · have := mx_ge r (max c y)
      omega
    · exact ih h
theorem mx_in {xs : List Int} : ∀ {c : Int}, mx c xs = c ∨ mx c xs ∈ xs := by
  induction xs with
  | nil => intro c; exact .inl rfl
  | cons y r ih =>
    intro c
    show mx (max c y) r = c ∨ mx (max c y) r ∈ y :: r
    rcases ih (c := max c y) with h | h
    · rw [h]
      by_cases hc : y ≤ c
      · left; omega
      · right
        have : max c y = y := by omega
        rw [this]; exact List.mem_cons_self
    · right; exact List.mem_cons_of_mem _ h
theorem mx_uniq {c m : Int} {xs : List Int} (h : m ∈ c :: xs) (hle : ∀ x ∈ c :: xs, x ≤ m) : m = mx c xs := by
  have h1 : mx c xs ≤ m := by
    rcases mx_in (c := c) (xs := xs) with e | e
    · rw [e]; exact hle c List.mem_cons_self
    · exact hle _ (List.mem_cons_of_mem _ e)
  have h2 : m ≤ mx c xs := by
    rcases List.mem_cons.mp h with e | e
    · rw [e]; exact mx_ge _ _
    · exact mx_mem_le e
  omega
theorem mx_snoc (c : Int) (xs : List Int) (x : Int) : mx c (xs ++ [x]) = max (mx c xs) x := by
  unfold mx; rw [List.foldl_append]; rfl

/-! ### tops -/
def topL (xs : List Int) : Int := mx 0 xs
def topAt (o : List Int) (p : Int) : Int := topL (o.take p.toNat)
theorem topAt_nn (o : List Int) (p : Int) : 0 ≤ topAt o p := mx_ge _ _
theorem topAt_mono (o : List Int) {p q : Int} (h : p ≤ q) : topAt o p ≤ topAt o q := by
  unfold topAt topL
  rcases mx_in (c := 0) (xs := o.take p.toNat) with e | e
  · rw [e]; exact mx_ge _ _
  · refine mx_mem_le ?_
    have : o.take p.toNat = (o.take q.toNat).take p.toNat := by
      rw [List.take_take]
      congr 1
      omega
    have e2 : mx 0 (o.take p.toNat) ∈ (o.take q.toNat).take p.toNat := by rw [← this]; exact e
    exact List.mem_of_mem_take e2
/-- the commit's place behind which an id is visible -/
def pos (o : List Int) (r : Int) : Int := (o.idxOf r : Int) + 1
theorem mem_take {o : List Int} (hn : o.Nodup) {r p : Int} : r ∈ o.take p.toNat ↔ r ∈ o ∧ pos o r ≤ p := by
  constructor
  · intro h
    rw [List.mem_take_iff_getElem] at h
    obtain ⟨j, hj, e⟩ := h
    have hjl : j < o.length := by omega
    refine ⟨by rw [← e]; exact List.getElem_mem _, ?_⟩
    have : o.idxOf r = j := by rw [← e]; exact hn.idxOf_getElem j hjl
    unfold pos
    omega
  · rintro ⟨h, hp⟩
    rw [List.mem_take_iff_getElem]
    have hl : o.idxOf r < o.length := List.idxOf_lt_length_iff.mpr h
    unfold pos at hp
    exact ⟨o.idxOf r, by omega, List.getElem_idxOf hl⟩
theorem pos_pos (o : List Int) (r : Int) : 1 ≤ pos o r := by unfold pos; omega
theorem pos_le {o : List Int} {r : Int} (h : r ∈ o) : pos o r ≤ o.length := by
  have := List.idxOf_lt_length_iff.mpr h
  unfold pos; omega
theorem topAt_mem {o : List Int} (hn : o.Nodup) (p : Int) : topAt o p = 0 ∨ (topAt o p ∈ o ∧ pos o (topAt o p) ≤ p) := by
  rcases mx_in (c := 0) (xs := o.take p.toNat) with e | e
  · exact .inl e
  · exact .inr ((mem_take hn).mp e)
theorem le_topAt {o : List Int} (hn : o.Nodup) {r p : Int} (h : r ∈ o) (hp : pos o r ≤ p) : r ≤ topAt o p := mx_mem_le ((mem_take hn).mpr ⟨h, hp⟩)

/-! ### polls -/
structure OrdOk (o : List Int) : Prop where
  nd : o.Nodup
  rng : ∀ x ∈ o, 1 ≤ x ∧ x ≤ 1000000000000000000000000000000
  len : o.length ≤ 30
structure PollsOk (n : Int) (ps : List Int) : Prop where
  pw : ps.Pairwise (fun a b => a ≤ b)
  rng : ∀ p ∈ ps, 0 ≤ p ∧ p ≤ n
def ahead (o ps : List Int) (r : Int) : List Int := ps.filter fun m => decide (m < pos o r)
def behind (o ps : List Int) (r : Int) : List Int := ps.filter fun m => decide (pos o r ≤ m)
def dcnt (o ps : List Int) (r : Int) : Nat := ((ahead o ps r).filter fun m => decide (r < topAt o m)).length
def lastD (ps : List Int) : Int := ps.getLast?.getD 0
def cAt (o ps : List Int) (r : Int) : Int := topAt o (lastD (ahead o ps r))
theorem lastD_snoc (ps : List Int) (m : Int) : lastD (ps ++ [m]) = m := by unfold lastD; simp
theorem lastD_nil : lastD [] = 0 := rfl
theorem lastD_mem {ps : List Int} (h : ps ≠ []) : lastD ps ∈ ps := by
  unfold lastD
  rw [List.getLast?_eq_some_getLast h]
  exact List.getLast_mem h
theorem lastD_ge {ps : List Int} (hp : ps.Pairwise (fun a b => a ≤ b)) : ∀ p ∈ ps, p ≤ lastD ps := by
  induction ps using snoc_ind with
  | h0 => intro p h; cases h
  | hs l x ih =>
    intro p h
    rw [lastD_snoc]
    rcases List.mem_append.mp h with h | h
    · exact (List.pairwise_append.mp hp).2.2 p h x (by simp)
    · simp at h; omega
theorem PollsOk.snoc {n m : Int} {ps : List Int} (h : PollsOk n (ps ++ [m])) : PollsOk n ps ∧ (∀ p ∈ ps, p ≤ m) ∧ 0 ≤ m ∧ m ≤ n := by
  have h1 := List.pairwise_append.mp h.pw
  have h2 := h.rng m (by simp)
  exact ⟨⟨h1.1, fun p hp => h.rng p (by simp [hp])⟩, fun p hp => h1.2.2 p hp m (by simp), h2.1, h2.2⟩
theorem PollsOk.ahead {n r : Int} {o ps : List Int} (h : PollsOk n ps) : (ahead o ps r).Pairwise (fun a b => a ≤ b) := h.pw.filter _
theorem ahead_ne {o ps : List Int} {r : Int} : ∀ p, p ∈ ahead o ps r ↔ p ∈ ps ∧ p < pos o r := by
  intro p; unfold ahead; simp
theorem behind_ne {o ps : List Int} {r : Int} : ∀ p, p ∈ behind o ps r ↔ p ∈ ps ∧ pos o r ≤ p := by
  intro p; unfold behind; simp

/-- an id is not the top of a moment at which it is not visible -/
theorem ne_top {o : List Int} (ho : OrdOk o) {r p : Int} (hr : 1 ≤ r) (h : p < pos o r) : topAt o p ≠ r := by
  intro e
  rcases topAt_mem ho.nd p with z | z
  · omega
  · rw [e] at z; omega
theorem lt_of_dcnt {o ps : List Int} {n r : Int} (hp : PollsOk n ps) (h : 0 < dcnt o ps r) : r < cAt o ps r := by
  unfold dcnt at h
  obtain ⟨p, hm⟩ := List.exists_mem_of_length_pos h
  obtain ⟨h1, h2⟩ := List.mem_filter.mp hm
  have h2 := of_decide_eq_true h2
  have := topAt_mono o (lastD_ge hp.ahead p h1)
  unfold cAt
  omega
theorem dcnt_of_lt {o ps : List Int} {n r : Int} (hr : 0 ≤ r) (hp : PollsOk n ps) (h : r < cAt o ps r) : 0 < dcnt o ps r := by
  have hne : ahead o ps r ≠ [] := by
    intro e
    unfold cAt at h
    rw [e, lastD_nil] at h
    simp [topAt, topL, mx] at h
    omega
  unfold dcnt
  exact List.length_pos_of_mem (List.mem_filter.mpr ⟨lastD_mem hne, decide_eq_true h⟩)

/-! ### a reader's run -/
structure RS where
  lists : List (List Int)
  ret : List Int
  rng : List (Int × Int)
  cur : Int
def passed (r : Int) (l : List (Int × Int)) : Bool := l.any fun p => decide (p.1 < r) && decide (r < p.2)
def keeps (w k : Int) (S : RS) (r : Int) : Bool := !decide (r ∈ S.ret) && (decide (S.cur - w < r) || passed r (S.rng.drop (S.rng.length - k.toNat)))
def rowsOf (o : List Int) (w k : Int) (S : RS) (m : Int) : List Int := (srt (o.take m.toNat)).filter (keeps w k S)
def stepR (o : List Int) (w k : Int) (S : RS) (m : Int) : RS :=
  { lists := S.lists ++ [rowsOf o w k S m], ret := S.ret ++ rowsOf o w k S m, rng := S.rng ++ [(S.cur, mx S.cur (rowsOf o w k S m))], cur := mx S.cur (rowsOf o w k S m) }
def runR (o : List Int) (w k : Int) (ps : List Int) : RS := ps.foldl (stepR o w k) ⟨[], [], [], 0⟩
theorem runR_snoc (o : List Int) (w k : Int) (ps : List Int) (m : Int) : runR o w k (ps ++ [m]) = stepR o w k (runR o w k ps) m := by
  unfold runR; rw [List.foldl_append]; rfl
def rngF (o : List Int) (c : Int) : List Int → List (Int × Int)
  | [] => []
  | m :: r => (c, topAt o m) :: rngF o (topAt o m) r
theorem rngF_snoc (o : List Int) (ps : List Int) (m : Int) : ∀ c, rngF o c (ps ++ [m]) = rngF o c ps ++ [((ps.getLast?.map (topAt o)).getD c, topAt o m)] := by
  induction ps with
  | nil => intro c; rfl
  | cons p r ih =>
    intro c
    show (c, topAt o p) :: rngF o (topAt o p) (r ++ [m]) = (c, topAt o p) :: rngF o (topAt o p) r ++ _
    rw [ih]
    cases r with
    | nil => rfl
    | cons q r =>
      rw [List.getLast?_cons_cons]
      obtain ⟨z, hz⟩ : ∃ z, (q :: r).getLast? = some z := ⟨_, List.getLast?_eq_some_getLast (List.cons_ne_nil q r)⟩
      rw [hz]
      rfl
theorem rngF_len (o : List Int) (ps : List Int) : ∀ c, (rngF o c ps).length = ps.length := by
  induction ps with
  | nil => intro c; rfl
  | cons p r ih => intro c; show (rngF o _ r).length + 1 = _; rw [ih]; rfl
/-- what the last k polls passed -/
theorem passed_iff {o : List Int} {r : Int} (k : Nat) : ∀ (ps : List Int) (c : Int), ps.Pairwise (fun a b => a ≤ b) → (∀ p ∈ ps, topAt o p ≠ r) → (∀ p ∈ ps, c ≤ topAt o p) → c ≠ r →
    (passed r ((rngF o c ps).drop (ps.length - k)) = true ↔ c < r ∧ 0 < (ps.filter fun m => decide (r < topAt o m)).length ∧ (ps.filter fun m => decide (r < topAt o m)).length ≤ k) := by
  intro ps
  induction ps with
  | nil => intro c _ _ _ _; simp [rngF, passed]
  | cons m ps ih =>
    intro c hp hne hc hcr
    have hp' := List.pairwise_cons.mp hp
    have hm : topAt o m ≠ r := hne m List.mem_cons_self
    have ih' := ih (topAt o m) hp'.2 (fun p h => hne p (List.mem_cons_of_mem _ h)) (fun p h => topAt_mono o (hp'.1 p h)) hm
    have hcm : c ≤ topAt o m := hc m List.mem_cons_self
    have hL : (rngF o (topAt o m) ps).length = ps.length := rngF_len _ _ _
    have hfl : (ps.filter fun m => decide (r < topAt o m)).length ≤ ps.length := List.length_filter_le _ _
    by_cases ht : r < topAt o m
    · have hall : (ps.filter fun m => decide (r < topAt o m)).length = ps.length := by
        rw [List.filter_eq_self.mpr]
        intro p hp1
        have := topAt_mono o (hp'.1 p hp1)
        exact decide_eq_true (by omega)
      have hf : ((m :: ps).filter fun m => decide (r < topAt o m)).length = ps.length + 1 := by
        rw [List.filter_cons_of_pos (by simpa using ht), List.length_cons, hall]
      rw [hf]
      by_cases hk : ps.length + 1 ≤ k
      · have e1 : (m :: ps).length - k = 0 := by rw [List.length_cons]; omega
        rw [e1]
        have e2 : ps.length - k = 0 := by omega
        rw [e2, List.drop_zero] at ih'
        have ihf : passed r (rngF o (topAt o m) ps) = false := by
          cases h : passed r (rngF o (topAt o m) ps) with
          | false => rfl
          | true => have := ih'.mp h; omega
        show passed r ((c, topAt o m) :: rngF o (topAt o m) ps) = true ↔ _
        have : passed r ((c, topAt o m) :: rngF o (topAt o m) ps) = ((decide (c < r) && decide (r < topAt o m)) || passed r (rngF o (topAt o m) ps)) := rfl
        rw [this, ihf, decide_eq_true ht]
        simp
        omega
      · have e1 : (m :: ps).length - k = (ps.length - k) + 1 := by rw [List.length_cons]; omega
        rw [e1]
        show passed r ((rngF o (topAt o m) ps).drop (ps.length - k)) = true ↔ _
        rw [ih']
        omega
    · have hf : ((m :: ps).filter fun m => decide (r < topAt o m)) = (ps.filter fun m => decide (r < topAt o m)) := by
        rw [List.filter_cons_of_neg (by simpa using ht)]
      rw [hf]
      by_cases hk : ps.length + 1 ≤ k
      · have e1 : (m :: ps).length - k = 0 := by rw [List.length_cons]; omega
        rw [e1]
        have e2 : ps.length - k = 0 := by omega
        rw [e2, List.drop_zero] at ih'
        show passed r ((c, topAt o m) :: rngF o (topAt o m) ps) = true ↔ _
        have : passed r ((c, topAt o m) :: rngF o (topAt o m) ps) = ((decide (c < r) && decide (r < topAt o m)) || passed r (rngF o (topAt o m) ps)) := rfl
        rw [this, decide_eq_false ht, Bool.and_false, Bool.false_or, ih']
        omega
      · have e1 : (m :: ps).length - k = (ps.length - k) + 1 := by rw [List.length_cons]; omega
        rw [e1]
        show passed r ((rngF o (topAt o m) ps).drop (ps.length - k)) = true ↔ _
        rw [ih']
        omega

theorem ahead_snoc {o ps : List Int} {r m : Int} (h : pos o r ≤ m) : ahead o (ps ++ [m]) r = ahead o ps r := by
  unfold ahead
  rw [List.filter_append]
  have : ([m] : List Int).filter (fun m => decide (m < pos o r)) = [] := by
    rw [List.filter_cons_of_neg (by simp; omega)]; rfl
  rw [this, List.append_nil]
theorem ahead_snoc' {o ps : List Int} {r m : Int} (h : ∀ p ∈ ps ++ [m], p < pos o r) : ahead o (ps ++ [m]) r = ps ++ [m] := by
  unfold ahead
  exact List.filter_eq_self.mpr fun p hp => decide_eq_true (h p hp)
theorem behind_nil {o ps : List Int} {r : Int} : behind o ps r = [] ↔ ∀ p ∈ ps, p < pos o r := by
  unfold behind
  rw [List.filter_eq_nil_iff]
  constructor
  · intro h p hp
    have := h p hp
    simp at this; omega
  · intro h p hp
    have := h p hp
    simp; omega
theorem ahead_all {o ps : List Int} {r : Int} (h : behind o ps r = []) : ahead o ps r = ps :=
  List.filter_eq_self.mpr fun p hp => decide_eq_true (behind_nil.mp h p hp)
/-- read behind some polls -/
def keepP (o ps : List Int) (w k r : Int) : Prop := cAt o ps r - w < r ∨ (dcnt o ps r : Int) ≤ k
structure RunOk (o : List Int) (w k : Int) (ps : List Int) (S : RS) : Prop where
  cur : S.cur = topAt o (lastD ps)
  rng : S.rng = rngF o 0 ps
  nd : S.ret.Nodup
  fl : S.ret = S.lists.flatten
  ll : S.lists.length = ps.length
  mem : ∀ r, r ∈ S.ret ↔ r ∈ o ∧ behind o ps r ≠ [] ∧ keepP o ps w k r
theorem topAt_zero (o : List Int) : topAt o 0 = 0 := rfl
theorem filter_len_app (p : Int → Bool) (a b : List Int) : ((a ++ b).filter p).length = (a.filter p).length + (b.filter p).length := by
  rw [List.filter_append, List.length_append]
theorem run_ok {o : List Int} {n w k : Int} (ho : OrdOk o) (hw : 1 ≤ w) (hk : 0 ≤ k) (ps : List Int) : PollsOk n ps → RunOk o w k ps (runR o w k ps) := by
  induction ps using snoc_ind with
  | h0 =>
    intro _
    refine ⟨rfl, rfl, List.nodup_nil, rfl, rfl, fun r => ?_⟩
    constructor
    · intro h; cases h
    · intro h; exact absurd rfl h.2.1
  | hs ps m ih =>
    intro hp
    obtain ⟨hp0, hle, hm0, hmn⟩ := hp.snoc
    have R := ih hp0
    rw [runR_snoc]
    generalize runR o w k ps = S at R
    have hlast : lastD ps ≤ m := by
      by_cases e : ps = []
      · rw [e, lastD_nil]; exact hm0
      · exact hle _ (lastD_mem e)
    have hlastn : ∀ p ∈ ps, p ≤ lastD ps := lastD_ge hp0.pw
    have hcur : S.cur ≤ topAt o m := by rw [R.cur]; exact topAt_mono o hlast
    -- an id that is visible at m and was not visible at any poll ahead
    have hnew : ∀ r ∈ o, behind o ps r = [] → pos o r ≤ m → (keeps w k S r = true ↔ keepP o (ps ++ [m]) w k r) := by
      intro r hr hb hpm
      have hr1 := (ho.rng r hr).1
      have hall := behind_nil.mp hb
      have hret : r ∉ S.ret := fun z => ((R.mem r).mp z).2.1 hb
      have hne : ∀ p ∈ ps, topAt o p ≠ r := fun p hp => ne_top ho hr1 (hall p hp)
      have hps := passed_iff (o := o) (r := r) k.toNat ps 0 hp0.pw hne (fun p _ => topAt_nn o p) (by omega)
      unfold keepP cAt dcnt
      rw [ahead_snoc hpm, ahead_all hb]
      unfold keeps
      rw [R.cur, R.rng, rngF_len, decide_eq_false hret]
      simp only [Bool.not_false, Bool.true_and, Bool.or_eq_true, decide_eq_true_eq]
      rw [hps]
      have hcr : topAt o (lastD ps) ≠ r := by
        by_cases e : ps = []
        · rw [e, lastD_nil, topAt_zero]; omega
        · exact hne _ (lastD_mem e)
      constructor
      · rintro (h | ⟨_, h1, h2⟩)
        · exact .inl h
        · right; omega
      · rintro (h | h)
        · exact .inl h
        · by_cases hlt : r < topAt o (lastD ps)
          · right
            refine ⟨by omega, ?_, by omega⟩
            have hne0 : ps ≠ [] := by
              intro e; rw [e, lastD_nil, topAt_zero] at hlt; omega
            exact List.length_pos_of_mem (List.mem_filter.mpr ⟨lastD_mem hne0, decide_eq_true hlt⟩)
          · left; omega
    -- an id with a poll behind its commit
    have hold : ∀ r ∈ o, behind o ps r ≠ [] → r ∉ S.ret → keeps w k S r = false := by
      intro r hr hb hret
      have hr1 := (ho.rng r hr).1
      have hnk : ¬ keepP o ps w k r := fun z => hret ((R.mem r).mpr ⟨hr, hb, z⟩)
      unfold keepP at hnk
      have hc : r + w ≤ cAt o ps r := by omega
      have hd : k < (dcnt o ps r : Int) := by omega
      have hble : ∀ p ∈ ps, pos o r ≤ p → cAt o ps r ≤ topAt o p := by
        intro p hp1 hpp
        unfold cAt
        refine topAt_mono o ?_
        by_cases e : ahead o ps r = []
        · rw [e, lastD_nil]; exact (hp0.rng p hp1).1
        · have := (ahead_ne _).mp (lastD_mem e)
          omega
      have hne : ∀ p ∈ ps, topAt o p ≠ r := by
        intro p hp1
        by_cases hpp : p < pos o r
        · exact ne_top ho hr1 hpp
        · have := hble p hp1 (by omega)
          omega
      have hps := passed_iff (o := o) (r := r) k.toNat ps 0 hp0.pw hne (fun p _ => topAt_nn o p) (by omega)
      have hf : dcnt o ps r ≤ (ps.filter fun m => decide (r < topAt o m)).length := by
        unfold dcnt ahead
        rw [List.filter_filter]
        have e2 : (ps.filter fun m => decide (r < topAt o m) && decide (m < pos o r)) = ((ps.filter fun m => decide (r < topAt o m)).filter fun m => decide (m < pos o r)) := by
          rw [List.filter_filter]
          congr 1; funext a; exact Bool.and_comm _ _
        rw [e2]
        exact List.length_filter_le _ _
      have hlastb : cAt o ps r ≤ topAt o (lastD ps) := by
        obtain ⟨q, hq⟩ := List.exists_mem_of_ne_nil _ hb
        have hq := (behind_ne _).mp hq
        have := hble q hq.1 hq.2
        have := topAt_mono o (hlastn q hq.1)
        omega
      unfold keeps
      rw [R.cur, R.rng, rngF_len, decide_eq_false hret]
      have hpf : passed r ((rngF o 0 ps).drop (ps.length - k.toNat)) = false := by
        cases h : passed r ((rngF o 0 ps).drop (ps.length - k.toNat)) with
        | false => rfl
        | true => have := hps.mp h; omega
      rw [hpf, decide_eq_false (by omega)]
      rfl
    -- the rows of this poll
    have hrows : ∀ r, r ∈ rowsOf o w k S m ↔ (r ∈ o ∧ pos o r ≤ m) ∧ keeps w k S r = true := by
      intro r
      unfold rowsOf
      rw [List.mem_filter, mem_srt, mem_take ho.nd]
    have hrown : ∀ r ∈ rowsOf o w k S m, r ∉ S.ret := by
      intro r hr z
      have h := ((hrows r).mp hr).2
      unfold keeps at h
      rw [decide_eq_true z] at h
      simp at h
    have hcur' : mx S.cur (rowsOf o w k S m) = topAt o m := by
      refine (mx_uniq ?_ ?_).symm
      · by_cases e : topAt o m = S.cur
        · rw [e]; exact List.mem_cons_self
        · refine List.mem_cons_of_mem _ ((hrows _).mpr ?_)
          rcases topAt_mem ho.nd m with z | z
          · have := topAt_nn o (lastD ps)
            rw [← R.cur] at this
            omega
          · refine ⟨z, ?_⟩
            have hnr : topAt o m ∉ S.ret := by
              intro z2
              have h2 := (R.mem _).mp z2
              obtain ⟨q, hq⟩ := List.exists_mem_of_ne_nil _ h2.2.1
              have hq := (behind_ne _).mp hq
              have h3 := le_topAt ho.nd h2.1 (Int.le_trans hq.2 (hlastn q hq.1))
              rw [← R.cur] at h3
              omega
            unfold keeps
            rw [decide_eq_false hnr, decide_eq_true (show S.cur - w < topAt o m by omega)]
            rfl
      · intro x hx
        rcases List.mem_cons.mp hx with e | hx
        · rw [e]; exact hcur
        · have := (hrows x).mp hx
          exact le_topAt ho.nd this.1.1 this.1.2
    refine ⟨?_, ?_, ?_, ?_, ?_, fun r => ?_⟩
    · show mx S.cur (rowsOf o w k S m) = _
      rw [hcur', lastD_snoc]
    · show S.rng ++ [(S.cur, mx S.cur (rowsOf o w k S m))] = _
      rw [hcur', rngF_snoc, R.rng, R.cur]
      congr 3
      unfold lastD
      cases ps.getLast? <;> rfl
    · show (S.ret ++ rowsOf o w k S m).Nodup
      refine List.nodup_append.mpr ⟨R.nd, ?_, fun a ha b hb e => ?_⟩
      · exact (srt_nodup (ho.nd.sublist (List.take_sublist _ _))).sublist List.filter_sublist
      · subst e; exact hrown _ hb ha
    · show S.ret ++ rowsOf o w k S m = (S.lists ++ [rowsOf o w k S m]).flatten
      rw [R.fl]; simp
    · show (S.lists ++ [rowsOf o w k S m]).length = _
      rw [List.length_append, List.length_append, R.ll]; rfl
    · show r ∈ S.ret ++ rowsOf o w k S m ↔ _
      rw [List.mem_append]
      by_cases hr : r ∈ o
      · by_cases hpm : pos o r ≤ m
        · have hb' : behind o (ps ++ [m]) r ≠ [] := by
            intro e
            have := behind_nil.mp e m (by simp)
            omega
          by_cases hb : behind o ps r = []
          · have h1 := hnew r hr hb hpm
            constructor
            · rintro (h | h)
              · exact absurd hb ((R.mem r).mp h).2.1
              · exact ⟨hr, hb', h1.mp ((hrows r).mp h).2⟩
            · rintro ⟨_, _, h⟩
              exact .inr ((hrows r).mpr ⟨⟨hr, hpm⟩, h1.mpr h⟩)
          · have e : keepP o (ps ++ [m]) w k r ↔ keepP o ps w k r := by
              unfold keepP cAt dcnt
              rw [ahead_snoc hpm]
            constructor
            · rintro (h | h)
              · exact ⟨hr, hb', e.mpr ((R.mem r).mp h).2.2⟩
              · have h2 := ((hrows r).mp h).2
                rw [hold r hr hb (hrown r h)] at h2
                cases h2
            · rintro ⟨_, _, h⟩
              exact .inl ((R.mem r).mpr ⟨hr, hb, e.mp h⟩)
        · have hb' : behind o (ps ++ [m]) r = [] := by
            refine behind_nil.mpr fun p hp => ?_
            rcases List.mem_append.mp hp with h | h
            · have := hle p h; omega
            · simp at h; omega
          constructor
          · rintro (h | h)
            · obtain ⟨q, hq⟩ := List.exists_mem_of_ne_nil _ ((R.mem r).mp h).2.1
              have hq := (behind_ne _).mp hq
              have := hle q hq.1
              omega
            · have := ((hrows r).mp h).1.2
              omega
          · rintro ⟨_, h, _⟩
            exact absurd hb' h
      · constructor
        · rintro (h | h)
          · exact absurd ((R.mem r).mp h).1 hr
          · exact absurd ((hrows r).mp h).1.1 hr
        · rintro ⟨h, _⟩
          exact absurd h hr

/-! ### what is lost -/
def lostB (o : List Int) (S : RS) (r : Int) : Bool := !decide (r ∈ S.ret) && decide (r < mx 0 S.ret)
def lostL (o ps : List Int) (w k : Int) : List Int := (srt o).filter (lostB o (runR o w k ps))
def lostP (o ps : List Int) (w k r : Int) : Prop := 0 < dcnt o ps r ∧ (behind o ps r = [] ∨ (r ≤ cAt o ps r - w ∧ k < (dcnt o ps r : Int)))
theorem RunOk.top {o ps : List Int} {n w k : Int} {S : RS} (ho : OrdOk o) (hw : 1 ≤ w) (hk : 0 ≤ k) (hp : PollsOk n ps) (R : RunOk o w k ps S) : mx 0 S.ret = topAt o (lastD ps) := by
  refine (mx_uniq ?_ ?_).symm
  · rcases topAt_mem ho.nd (lastD ps) with z | z
    · rw [z]; exact List.mem_cons_self
    · refine List.mem_cons_of_mem _ ((R.mem _).mpr ⟨z.1, ?_, ?_⟩)
      · have hne : ps ≠ [] := by
          intro e
          rw [e, lastD_nil, topAt_zero] at z
          have := pos_pos o 0
          omega
        intro e
        have := behind_nil.mp e _ (lastD_mem hne)
        omega
      · left
        generalize hr : topAt o (lastD ps) = r at z
        have h1 : cAt o ps r ≤ r := by
          rw [← hr]
          unfold cAt
          refine topAt_mono o ?_
          by_cases e : ahead o ps (topAt o (lastD ps)) = []
          · rw [e, lastD_nil]
            by_cases e2 : ps = []
            · rw [e2]; exact Int.le_refl _
            · exact (hp.rng _ (lastD_mem e2)).1
          · exact lastD_ge hp.pw _ ((ahead_ne _).mp (lastD_mem e)).1
        omega
  · intro x hx
    rcases List.mem_cons.mp hx with e | hx
    · rw [e]; exact topAt_nn _ _
    · have h2 := (R.mem _).mp hx
      obtain ⟨q, hq⟩ := List.exists_mem_of_ne_nil _ h2.2.1
      have hq := (behind_ne _).mp hq
      exact le_topAt ho.nd h2.1 (Int.le_trans hq.2 (lastD_ge hp.pw q hq.1))
theorem lost_iff {o ps : List Int} {n w k r : Int} (ho : OrdOk o) (hw : 1 ≤ w) (hk : 0 ≤ k) (hp : PollsOk n ps) (hr : r ∈ o) : lostB o (runR o w k ps) r = true ↔ lostP o ps w k r := by
  have R := run_ok ho hw hk ps hp
  have ht := R.top ho hw hk hp
  generalize runR o w k ps = S at R ht
  unfold lostB lostP
  rw [ht]
  simp only [Bool.and_eq_true, Bool.not_eq_true', decide_eq_false_iff_not, decide_eq_true_eq]
  have hr1 := (ho.rng r hr).1
  constructor
  · rintro ⟨h1, h2⟩
    by_cases hb : behind o ps r = []
    · refine ⟨dcnt_of_lt (n := n) (by omega) hp ?_, .inl hb⟩
      unfold cAt
      rw [ahead_all hb]; exact h2
    · have hnk : ¬ keepP o ps w k r := fun z => h1 ((R.mem r).mpr ⟨hr, hb, z⟩)
      unfold keepP at hnk
      exact ⟨by omega, .inr ⟨by omega, by omega⟩⟩
  · rintro ⟨h1, h2⟩
    have h3 := lt_of_dcnt hp h1
    refine ⟨fun z => ?_, ?_⟩
    · have h4 := (R.mem r).mp z
      rcases h2 with h2 | h2
      · exact h4.2.1 h2
      · have h5 := h4.2.2
        unfold keepP at h5
        omega
    · have : cAt o ps r ≤ topAt o (lastD ps) := by
        unfold cAt
        refine topAt_mono o ?_
        by_cases e : ahead o ps r = []
        · rw [e, lastD_nil]
          by_cases e2 : ps = []
          · rw [e2]; exact Int.le_refl _
          · exact (hp.rng _ (lastD_mem e2)).1
        · exact lastD_ge hp.pw _ ((ahead_ne _).mp (lastD_mem e)).1
      omega
theorem mem_lostL {o ps : List Int} {n w k r : Int} (ho : OrdOk o) (hw : 1 ≤ w) (hk : 0 ≤ k) (hp : PollsOk n ps) : r ∈ lostL o ps w k ↔ r ∈ o ∧ lostP o ps w k r := by
  unfold lostL
  rw [List.mem_filter, mem_srt]
  constructor
  · rintro ⟨h1, h2⟩
    exact ⟨h1, (lost_iff ho hw hk hp h1).mp h2⟩
  · rintro ⟨h1, h2⟩
    exact ⟨h1, (lost_iff ho hw hk hp h1).mpr h2⟩
end Lat
namespace Lat
/-! ### margins -/
def vR (o ps : List Int) (r : Int) : Option Int := if behind o ps r ≠ [] then some (cAt o ps r - r + 1) else none
def vW (o ps : List Int) (r : Int) : Option Int := if behind o ps r ≠ [] then some (dcnt o ps r : Int) else none
theorem plain_iff {o ps : List Int} {n r : Int} (ho : OrdOk o) (hp : PollsOk n ps) (hr : r ∈ o) : lostB o (runR o 1 0 ps) r = true ↔ r < cAt o ps r := by
  rw [lost_iff ho (by omega) (by omega) hp hr]
  unfold lostP
  have hr1 := (ho.rng r hr).1
  constructor
  · rintro ⟨h, _⟩; exact lt_of_dcnt hp h
  · intro h
    have := dcnt_of_lt (by omega) hp h
    exact ⟨this, .inr ⟨by omega, by omega⟩⟩
theorem plain_iff' {o ps : List Int} {n r : Int} (ho : OrdOk o) (hp : PollsOk n ps) (hr : r ∈ o) : lostB o (runR o 1 0 ps) r = true ↔ 0 < dcnt o ps r := by
  rw [plain_iff ho hp hr]
  have hr1 := (ho.rng r hr).1
  exact ⟨fun h => dcnt_of_lt (by omega) hp h, fun h => lt_of_dcnt hp h⟩
theorem plain_reach {o ps : List Int} {n : Int} (ho : OrdOk o) (hp : PollsOk n ps) : lostL o ps 1 0 = (srt o).filter fun r => decide (r < cAt o ps r) := by
  unfold lostL
  refine List.filter_congr fun r hr => ?_
  rw [Bool.eq_iff_iff, plain_iff ho hp (mem_srt.mp hr), decide_eq_true_eq]
theorem plain_wait {o ps : List Int} {n : Int} (ho : OrdOk o) (hp : PollsOk n ps) : lostL o ps 1 0 = (srt o).filter fun r => decide (0 < dcnt o ps r) := by
  unfold lostL
  refine List.filter_congr fun r hr => ?_
  rw [Bool.eq_iff_iff, plain_iff' ho hp (mem_srt.mp hr), decide_eq_true_eq]
def over (w : Int) : Option Int → Bool
  | none => true
  | some x => decide (w < x)
def cnt (vals : List (Option Int)) (w : Int) : Nat := vals.countP (over w)
def kept (vals : List (Option Int)) : List Int := srt (vals.filterMap id)
def leastM (vals : List (Option Int)) (least most : Int) : Option Int :=
  if most - ((vals.length : Int) - (kept vals).length) < 0 then none
  else some (mx least ((kept vals).take (max 0 ((kept vals).length - (most - ((vals.length : Int) - (kept vals).length)))).toNat))
theorem kept_len (vals : List (Option Int)) : (kept vals).length = vals.countP (·.isSome) := by
  unfold kept
  rw [srt_length]
  induction vals with
  | nil => rfl
  | cons v r ih =>
    cases v with
    | none => simpa using ih
    | some x => simpa using ih
theorem kept_le (vals : List (Option Int)) : (kept vals).length ≤ vals.length := by
  rw [kept_len]; exact List.countP_le_length
theorem cnt_eq (vals : List (Option Int)) (w : Int) : (cnt vals w : Int) = (vals.length : Int) - (kept vals).length + ((kept vals).countP fun x => decide (w < x)) := by
  have h : ((kept vals).countP fun x => decide (w < x)) = (vals.filterMap id).countP fun x => decide (w < x) := (srt_perm _).countP_eq _
  rw [h, kept_len]
  unfold cnt
  induction vals with
  | nil => rfl
  | cons v r ih =>
    cases v with
    | none =>
      have ih := ih ((srt_perm _).countP_eq _)
      rw [List.countP_cons_of_pos (by rfl), List.countP_cons_of_neg (by simp), List.length_cons]
      simp only [List.filterMap_cons, id_eq]
      omega
    | some x =>
      have ih := ih ((srt_perm _).countP_eq _)
      rw [List.countP_cons_of_pos (p := fun x : Option Int => x.isSome) (by rfl), List.length_cons]
      simp only [List.filterMap_cons, id_eq]
      by_cases hx : w < x
      · rw [List.countP_cons_of_pos (by simpa [over] using hx), List.countP_cons_of_pos (by simpa using hx)]
        omega
      · rw [List.countP_cons_of_neg (by simpa [over] using hx), List.countP_cons_of_neg (by simpa using hx)]
        omega
theorem leastM_none {vals : List (Option Int)} {least most : Int} : leastM vals least most = none ↔ most < (vals.length : Int) - (kept vals).length := by
  unfold leastM
  constructor
  · intro h
    split at h
    · omega
    · cases h
  · intro h
    rw [if_pos (by omega)]
theorem leastM_some {vals : List (Option Int)} {least most w : Int} (h : leastM vals least most = some w) : least ≤ w ∧ (cnt vals w : Int) ≤ most ∧ (least < w → most < (cnt vals (w - 1) : Int)) := by
  unfold leastM at h
  split at h
  · cases h
  rename_i hl
  have hw := Option.some.inj h
  rw [cnt_eq, cnt_eq]
  have hs : (kept vals).Pairwise (fun a b => a ≤ b) := srt_pw _
  have hlen := kept_le vals
  generalize hk : kept vals = ks at *
  generalize hle : most - ((vals.length : Int) - ks.length) = left at *
  generalize ht : (max 0 ((ks.length : Int) - left)).toNat = t at *
  have hsplit : ks = ks.take t ++ ks.drop t := (List.take_append_drop t ks).symm
  have hdl : (ks.drop t).length = ks.length - t := List.length_drop
  have hcp : ∀ p : Int → Bool, ks.countP p = (ks.take t).countP p + (ks.drop t).countP p := fun p => by
    rw [← List.countP_append, List.take_append_drop]
  refine ⟨by rw [← hw]; exact mx_ge _ _, ?_, fun hlt => ?_⟩
  · rw [hcp]
    have h0 : (ks.take t).countP (fun x => decide (w < x)) = 0 := by
      rw [List.countP_eq_zero]
      intro x hx
      have : x ≤ w := by rw [← hw]; exact mx_mem_le hx
      simp; omega
    have h1 : (ks.drop t).countP (fun x => decide (w < x)) ≤ (ks.drop t).length := List.countP_le_length
    omega
  · rw [hcp]
    have hin : w ∈ ks.take t := by
      rcases mx_in (c := least) (xs := ks.take t) with e | e
      · omega
      · rw [← hw]; exact e
    have ht0 : 0 < t := by
      rcases Nat.eq_zero_or_pos t with e | e
      · rw [e] at hin; cases hin
      · exact e
    have h0 : 0 < (ks.take t).countP (fun x => decide (w - 1 < x)) := List.countP_pos_iff.mpr ⟨w, hin, by simp; omega⟩
    have h1 : (ks.drop t).countP (fun x => decide (w - 1 < x)) = (ks.drop t).length := by
      rw [List.countP_eq_length]
      intro x hx
      rw [hsplit] at hs
      have := (List.pairwise_append.mp hs).2.2 w hin x hx
      simp; omega
    omega
theorem lost_over {o ps : List Int} {n w : Int} (ho : OrdOk o) (hw : 1 ≤ w) (hp : PollsOk n ps) : (lostL o ps w 0).length = cnt ((lostL o ps 1 0).map (vR o ps)) w := by
  unfold cnt
  rw [List.countP_map, List.countP_eq_length_filter]
  congr 1
  unfold lostL
  rw [List.filter_filter]
  refine List.filter_congr fun r hr => ?_
  have hr := mem_srt.mp hr
  rw [Bool.eq_iff_iff, Bool.and_eq_true, lost_iff ho hw (by omega) hp hr, plain_iff ho hp hr]
  unfold lostP
  show _ ↔ over w (vR o ps r) = true ∧ _
  unfold vR
  have hr1 := (ho.rng r hr).1
  by_cases hb : behind o ps r = []
  · rw [if_neg (by simpa using hb)]
    constructor
    · rintro ⟨h, _⟩; exact ⟨rfl, lt_of_dcnt hp h⟩
    · rintro ⟨_, h⟩; exact ⟨dcnt_of_lt (by omega) hp h, .inl hb⟩
  · rw [if_pos hb]
    show _ ↔ decide (w < _) = true ∧ _
    rw [decide_eq_true_eq]
    constructor
    · rintro ⟨h, h2⟩
      rcases h2 with h2 | h2
      · exact absurd h2 hb
      · exact ⟨by omega, lt_of_dcnt hp h⟩
    · rintro ⟨h1, h2⟩
      have := dcnt_of_lt (by omega) hp h2
      exact ⟨this, .inr ⟨by omega, by omega⟩⟩
theorem lost_wait {o ps : List Int} {n k : Int} (ho : OrdOk o) (hk : 0 ≤ k) (hp : PollsOk n ps) : (lostL o ps 1 k).length = cnt ((lostL o ps 1 0).map (vW o ps)) k := by
  unfold cnt
  rw [List.countP_map, List.countP_eq_length_filter]
  congr 1
  unfold lostL
  rw [List.filter_filter]
  refine List.filter_congr fun r hr => ?_
  have hr := mem_srt.mp hr
  rw [Bool.eq_iff_iff, Bool.and_eq_true, lost_iff ho (by omega) hk hp hr, plain_iff' ho hp hr]
  unfold lostP
  show _ ↔ over k (vW o ps r) = true ∧ _
  unfold vW
  have hr1 := (ho.rng r hr).1
  by_cases hb : behind o ps r = []
  · rw [if_neg (by simpa using hb)]
    constructor
    · rintro ⟨h, _⟩; exact ⟨rfl, h⟩
    · rintro ⟨_, h⟩; exact ⟨h, .inl hb⟩
  · rw [if_pos hb]
    show _ ↔ decide (k < _) = true ∧ _
    rw [decide_eq_true_eq]
    constructor
    · rintro ⟨h, h2⟩
      rcases h2 with h2 | h2
      · exact absurd h2 hb
      · exact ⟨h2.2, h⟩
    · rintro ⟨h1, h2⟩
      have := lt_of_dcnt hp h2
      exact ⟨h2, .inr ⟨by omega, h1⟩⟩
theorem none_same (o ps : List Int) (L : List Int) : (kept (L.map (vR o ps))).length = (kept (L.map (vW o ps))).length := by
  rw [kept_len, kept_len, List.countP_map, List.countP_map]
  refine List.countP_congr fun r _ => ?_
  show (vR o ps r).isSome = true ↔ (vW o ps r).isSome = true
  unfold vR vW
  split <;> simp
theorem cnt_ge_none (vals : List (Option Int)) (w : Int) : (vals.length : Int) - (kept vals).length ≤ cnt vals w := by
  rw [cnt_eq]; omega

/-! ### dangers -/
/-- the first and the last moment of the danger -/
def dangM (o : List Int) (r : Int) : Option (Int × Int) := ((List.range (o.idxOf r + 1)).find? fun p : Nat => decide (r < topAt o (p : Int))).map fun p : Nat => ((p : Int), (o.idxOf r : Int))
theorem dang_none {o : List Int} {r p : Int} (h : dangM o r = none) (h0 : 0 ≤ p) (h1 : p < pos o r) : ¬ r < topAt o p := by
  unfold dangM at h
  rw [Option.map_eq_none_iff, List.find?_eq_none] at h
  have := h p.toNat (List.mem_range.mpr (by unfold pos at h1; omega))
  rw [show ((p.toNat : Nat) : Int) = p by omega] at this
  simpa using this
theorem dang_some {o : List Int} {r p f l : Int} (h : dangM o r = some (f, l)) (h0 : 0 ≤ p) : (f ≤ p ∧ p ≤ l) ↔ (p < pos o r ∧ r < topAt o p) := by
  unfold dangM at h
  rw [Option.map_eq_some_iff] at h
  obtain ⟨q, hq, e⟩ := h
  have e1 : (q : Int) = f := congrArg Prod.fst e
  have e2 : (o.idxOf r : Int) = l := congrArg Prod.snd e
  rw [List.find?_eq_some_iff_append] at hq
  obtain ⟨hd, as, bs, hab, hn⟩ := hq
  have hd := of_decide_eq_true hd
  have hq2 : as = List.range q ∧ q < o.idxOf r + 1 := by
    have h1 : (List.range (o.idxOf r + 1))[as.length]? = some q := by rw [hab]; simp
    have h2 : as.length < o.idxOf r + 1 := by
      have := congrArg List.length hab
      simp at this; omega
    rw [List.getElem?_range h2] at h1
    have h3 : as.length = q := Option.some.inj h1
    refine ⟨?_, by omega⟩
    have h4 : as = (List.range (o.idxOf r + 1)).take as.length := by rw [hab]; simp
    rw [h4, List.take_range, h3]
    congr 1; omega
  unfold pos
  constructor
  · rintro ⟨h1, h2⟩
    have := topAt_mono o (show (q : Int) ≤ p by omega)
    exact ⟨by omega, by omega⟩
  · rintro ⟨h1, h2⟩
    refine ⟨?_, by omega⟩
    by_cases hlt : p < q
    · have := hn p.toNat (by rw [hq2.1]; exact List.mem_range.mpr (by omega))
      rw [show ((p.toNat : Nat) : Int) = p by omega] at this
      simp at this
      omega
    · omega
/-- the polls in the danger -/
def many (ps : List Int) (f l : Int) : List Int := ps.filter fun m => decide (f ≤ m) && decide (m ≤ l)
theorem many_some {o ps : List Int} {n r f l : Int} (hp : PollsOk n ps) (h : dangM o r = some (f, l)) : (many ps f l).length = dcnt o ps r := by
  unfold many dcnt ahead
  rw [List.filter_filter]
  congr 1
  refine List.filter_congr fun p hpm => ?_
  have := dang_some h (hp.rng p hpm).1
  rw [Bool.eq_iff_iff]
  simp only [Bool.and_eq_true, decide_eq_true_eq]
  rw [this]
  exact And.comm
theorem dang_of_dcnt {o ps : List Int} {n r : Int} (hp : PollsOk n ps) (h : 0 < dcnt o ps r) : dangM o r ≠ none := by
  intro e
  unfold dcnt at h
  obtain ⟨p, hm⟩ := List.exists_mem_of_length_pos h
  obtain ⟨h1, h2⟩ := List.mem_filter.mp hm
  have h3 := (ahead_ne _).mp h1
  exact dang_none e (hp.rng p h3.1).1 h3.2 (of_decide_eq_true h2)

/-! ### a great enough overlap -/
theorem end_ok {o ps : List Int} {w : Int} (ho : OrdOk o) (hw : 1 ≤ w) (hp : PollsOk o.length ps) (hl : lastD ps = o.length) (hne : ps ≠ []) (hg : ∀ r ∈ o, topAt o (pos o r - 1) - r + 1 ≤ w) :
    lostL o ps w 0 = [] ∧ (runR o w 0 ps).lists.flatten.Perm o := by
  have R := run_ok ho hw (Int.le_refl 0) ps hp
  have hb : ∀ r ∈ o, behind o ps r ≠ [] := fun r hr e => by
    have := behind_nil.mp e _ (lastD_mem hne)
    have := pos_le hr
    omega
  have hc : ∀ r ∈ o, cAt o ps r - w < r := fun r hr => by
    have h1 := hg r hr
    have h2 : cAt o ps r ≤ topAt o (pos o r - 1) := by
      unfold cAt
      refine topAt_mono o ?_
      by_cases e : ahead o ps r = []
      · rw [e, lastD_nil]
        have := pos_pos o r
        omega
      · have := (ahead_ne _).mp (lastD_mem e)
        omega
    omega
  constructor
  · rw [List.eq_nil_iff_forall_not_mem]
    intro r hr
    have h := (mem_lostL ho hw (Int.le_refl 0) hp).mp hr
    have h2 := hc r h.1
    rcases h.2.2 with z | z
    · exact hb r h.1 z
    · omega
  · rw [← R.fl]
    refine (List.perm_ext_iff_of_nodup R.nd ho.nd).mpr fun r => ⟨fun h => ((R.mem r).mp h).1, fun h => (R.mem r).mpr ⟨h, hb r h, .inl (hc r h)⟩⟩
def reachL (o : List Int) : List Int := (List.range o.length).map fun i : Nat => topAt o (i : Int) - o.getD i 0 + 1
def greatest (o : List Int) : Int := mx 1 (reachL o)
theorem greatest_ge (o : List Int) : 1 ≤ greatest o := mx_ge _ _
theorem greatest_all {o : List Int} : ∀ r ∈ o, topAt o (pos o r - 1) - r + 1 ≤ greatest o := by
  intro r hr
  refine mx_mem_le ?_
  have hl : o.idxOf r < o.length := List.idxOf_lt_length_iff.mpr hr
  refine List.mem_map.mpr ⟨o.idxOf r, List.mem_range.mpr hl, ?_⟩
  have h1 : o.getD (o.idxOf r) 0 = r := by
    rw [List.getD_eq_getElem?_getD, List.getElem?_eq_getElem hl, Option.getD_some]
    exact List.getElem_idxOf hl
  rw [h1]
  unfold pos
  congr 3
  omega
theorem greatest_le {o : List Int} (hn : o.Nodup) {z : Int} (h1 : 1 ≤ z) (h : ∀ r ∈ o, topAt o (pos o r - 1) - r + 1 ≤ z) : greatest o ≤ z := by
  rcases mx_in (c := 1) (xs := reachL o) with e | e
  · unfold greatest; omega
  · obtain ⟨i, hi, e2⟩ := List.mem_map.mp e
    have hi := List.mem_range.mp hi
    have h1 : o.getD i 0 = o[i] := by
      rw [List.getD_eq_getElem?_getD, List.getElem?_eq_getElem hi, Option.getD_some]
    have h2 := h o[i] (List.getElem_mem hi)
    have h3 : o.idxOf o[i] = i := hn.idxOf_getElem i hi
    unfold pos at h2
    rw [h3] at h2
    rw [h1] at e2
    unfold greatest
    rw [← e2]
    have e3 : ((i : Int) + 1 - 1) = (i : Int) := by omega
    rw [e3] at h2
    exact h2

/-! ### histories -/
inductive Ev where
  | b | c (i : Int) | r (i : Int)
def stepH : Int × List Int → Ev → Option (Int × List Int)
  | (n, l), .b => some (n + 1, l ++ [n + 1])
  | (n, l), .c i => if i ∈ l then some (n, l.erase i) else none
  | (n, l), .r i => if i ∈ l then some (n, l.erase i) else none
def runH : List Ev → Int × List Int → Option (Int × List Int)
  | [], s => some s
  | e :: r, s => (stepH s e).bind (runH r)
theorem runH_snoc (evs : List Ev) (e : Ev) : ∀ s, runH (evs ++ [e]) s = (runH evs s).bind fun t => stepH t e := by
  induction evs with
  | nil => intro s; show (stepH s e).bind (fun t => some t) = (some s).bind _; simp
  | cons x r ih =>
    intro s
    show (stepH s x).bind (runH (r ++ [e])) = ((stepH s x).bind (runH r)).bind _
    cases stepH s x with
    | none => rfl
    | some t => exact ih t
def comOf : Ev → Option Int
  | .c i => some i
  | _ => none
def commits (evs : List Ev) : List Int := evs.filterMap comOf
def stepS : Int × List (Int × Int) → Ev → Int × List (Int × Int)
  | (n, s), .b => (n + 1, s)
  | (n, s), .c i => (n, s ++ [(i, n - i)])
  | (n, s), .r _ => (n, s)
def runS (evs : List Ev) : Int × List (Int × Int) := evs.foldl stepS (0, [])
theorem runS_snoc (evs : List Ev) (e : Ev) : runS (evs ++ [e]) = stepS (runS evs) e := by
  unfold runS; rw [List.foldl_append]; rfl
structure HisOk (evs : List Ev) (b : Int) (l : List Int) : Prop where
  nn : 0 ≤ b
  nd : l.Nodup
  rng : ∀ i ∈ l, 1 ≤ i ∧ i ≤ b
  cnd : (commits evs).Nodup
  crng : ∀ i ∈ commits evs, 1 ≤ i ∧ i ≤ b
  apart : ∀ i ∈ commits evs, i ∉ l
  len : b + (commits evs).length ≤ evs.length
  few : ((commits evs).length : Int) + l.length ≤ b
  sb : (runS evs).1 = b
  keys : (runS evs).2.map (·.1) = commits evs
  wide : ∀ p ∈ (runS evs).2, topAt (commits evs) (pos (commits evs) p.1 - 1) - p.1 ≤ p.2
theorem commits_snoc (evs : List Ev) (e : Ev) : commits (evs ++ [e]) = commits evs ++ (comOf e).toList := by
  unfold commits
  rw [List.filterMap_append]
  cases e <;> rfl
theorem his_ok (evs : List Ev) : ∀ b l, runH evs (0, []) = some (b, l) → HisOk evs b l := by
  induction evs using snoc_ind with
  | h0 =>
    intro b l h
    have h : (0, ([] : List Int)) = (b, l) := Option.some.inj h
    have h1 : (0 : Int) = b := congrArg Prod.fst h
    have h2 : ([] : List Int) = l := congrArg Prod.snd h
    subst h1 h2
    exact ⟨Int.le_refl _, List.nodup_nil, by simp, List.nodup_nil, by simp [commits], by simp, by simp [commits], by simp [commits], rfl, rfl, by intro p hp; cases hp⟩
  | hs evs e ih =>
    intro b l h
    rw [runH_snoc] at h
    cases hr : runH evs (0, []) with
    | none => rw [hr] at h; cases h
    | some t =>
      obtain ⟨b0, l0⟩ := t
      rw [hr] at h
      have I := ih b0 l0 hr
      have h : stepH (b0, l0) e = some (b, l) := h
      have hlen : (evs ++ [e]).length = evs.length + 1 := by simp
      cases e with
      | b =>
        have h : (b0 + 1, l0 ++ [b0 + 1]) = (b, l) := Option.some.inj h
        have h1 : b0 + 1 = b := congrArg Prod.fst h
        have h2 : l0 ++ [b0 + 1] = l := congrArg Prod.snd h
        subst h1 h2
        have ec : commits (evs ++ [.b]) = commits evs := by rw [commits_snoc]; simp [comOf]
        have es : runS (evs ++ [.b]) = (b0 + 1, (runS evs).2) := by rw [runS_snoc]; show ((runS evs).1 + 1, (runS evs).2) = _; rw [I.sb]
        have n1 := I.nn
        have n2 := I.len
        have n3 := I.few
        refine ⟨by omega, ?_, ?_, by rw [ec]; exact I.cnd, ?_, ?_, by rw [ec, hlen]; omega, by rw [ec, List.length_append]; simp; omega, by rw [es], by rw [es, ec]; exact I.keys, by rw [es, ec]; exact I.wide⟩
        · refine List.nodup_append.mpr ⟨I.nd, by simp, fun a ha b hb e => ?_⟩
          simp at hb
          have := I.rng a ha
          omega
        · intro i hi
          rcases List.mem_append.mp hi with z | z
          · have := I.rng i z; omega
          · simp at z; omega
        · rw [ec]; intro i hi; have := I.crng i hi; omega
        · rw [ec]; intro i hi z
          rcases List.mem_append.mp z with z | z
          · exact I.apart i hi z
          · simp at z; have := I.crng i hi; omega
      | c i =>
        have h : (if i ∈ l0 then some (b0, l0.erase i) else none) = some (b, l) := h
        by_cases hi : i ∈ l0
        · rw [if_pos hi] at h
          have h := Option.some.inj h
          have h1 : b0 = b := congrArg Prod.fst h
          have h2 : l0.erase i = l := congrArg Prod.snd h
          subst h1 h2
          have ec : commits (evs ++ [.c i]) = commits evs ++ [i] := by rw [commits_snoc]; rfl
          have es : runS (evs ++ [.c i]) = (b0, (runS evs).2 ++ [(i, b0 - i)]) := by rw [runS_snoc]; show ((runS evs).1, (runS evs).2 ++ [(i, (runS evs).1 - i)]) = _; rw [I.sb]
          have hnc : i ∉ commits evs := fun z => I.apart i z hi
          have n1 := I.nn
          have n2 := I.len
          have n3 := I.few
          have hle : (l0.erase i).length = l0.length - 1 := List.length_erase_of_mem hi
          have hpos : 0 < l0.length := List.length_pos_of_mem hi
          refine ⟨I.nn, I.nd.erase i, fun j hj => I.rng j (List.mem_of_mem_erase hj), ?_, ?_, ?_, ?_, ?_, by rw [es], ?_, ?_⟩
          · rw [ec]
            refine List.nodup_append.mpr ⟨I.cnd, by simp, fun a ha b hb e => ?_⟩
            simp at hb
            subst hb; subst e
            exact hnc ha
          · rw [ec]; intro j hj
            rcases List.mem_append.mp hj with z | z
            · exact I.crng j z
            · simp at z; subst z; exact I.rng _ hi
          · rw [ec]; intro j hj z
            rcases List.mem_append.mp hj with y | y
            · exact I.apart j y (List.mem_of_mem_erase z)
            · simp at y; subst y
              rw [I.nd.mem_erase_iff] at z
              exact z.1 rfl
          · rw [ec, hlen, List.length_append]; simp; omega
          · rw [ec, List.length_append, hle]; simp; omega
          · rw [es, ec, List.map_append, I.keys]; rfl
          · rw [es, ec]
            intro p hp
            rcases List.mem_append.mp hp with z | z
            · have hk : p.1 ∈ commits evs := by rw [← I.keys]; exact List.mem_map_of_mem z
              have h1 := I.wide p z
              have e1 : pos (commits evs ++ [i]) p.1 = pos (commits evs) p.1 := by
                unfold pos
                rw [List.idxOf_append, if_pos hk]
              rw [e1]
              have hl := List.idxOf_lt_length_iff.mpr hk
              unfold topAt at h1 ⊢
              rw [List.take_append_of_le_length (by unfold pos; omega)]
              exact h1
            · simp at z
              subst z
              have e1 : pos (commits evs ++ [i]) i - 1 = (commits evs).length := by
                unfold pos
                rw [List.idxOf_append, if_neg hnc]
                simp
              show topAt (commits evs ++ [i]) (pos (commits evs ++ [i]) i - 1) - i ≤ b0 - i
              rw [e1]
              have : topAt (commits evs ++ [i]) (commits evs).length ≤ b0 := by
                unfold topAt topL
                rw [Int.toNat_natCast, List.take_left']
                · rcases mx_in (c := 0) (xs := commits evs) with z | z
                  · rw [z]; exact I.nn
                  · exact (I.crng _ z).2
                · rfl
              omega
        · rw [if_neg hi] at h; cases h
      | r i =>
        have h : (if i ∈ l0 then some (b0, l0.erase i) else none) = some (b, l) := h
        by_cases hi : i ∈ l0
        · rw [if_pos hi] at h
          have h := Option.some.inj h
          have h1 : b0 = b := congrArg Prod.fst h
          have h2 : l0.erase i = l := congrArg Prod.snd h
          subst h1 h2
          have ec : commits (evs ++ [.r i]) = commits evs := by rw [commits_snoc]; simp [comOf]
          have es : runS (evs ++ [.r i]) = (b0, (runS evs).2) := by rw [runS_snoc]; show ((runS evs).1, (runS evs).2) = _; rw [I.sb]
          have n2 := I.len
          have n3 := I.few
          have hle : (l0.erase i).length = l0.length - 1 := List.length_erase_of_mem hi
          exact ⟨I.nn, I.nd.erase i, fun j hj => I.rng j (List.mem_of_mem_erase hj), by rw [ec]; exact I.cnd, by rw [ec]; exact I.crng, by rw [ec]; exact fun j hj z => I.apart j hj (List.mem_of_mem_erase z), by rw [ec, hlen]; omega, by rw [ec, hle]; omega, by rw [es], by rw [es, ec]; exact I.keys, by rw [es, ec]; exact I.wide⟩
        · rw [if_neg hi] at h; cases h
/-- the order of a history is an order -/
theorem HisOk.ord {evs : List Ev} {b : Int} {l : List Int} (h : HisOk evs b l) (h60 : evs.length ≤ 60) : OrdOk (commits evs) := by
  have h1 := h.len
  have h2 := h.few
  exact ⟨h.cnd, fun x hx => ⟨(h.crng x hx).1, by have := (h.crng x hx).2; omega⟩, by omega⟩
def spanOf (evs : List Ev) (r : Int) : Int := (((runS evs).2.find? fun p => decide (p.1 = r)).map (·.2)).getD 0
def spanL (evs : List Ev) : List Int := (srt (commits evs)).map (spanOf evs)
theorem HisOk.reach {evs : List Ev} {b : Int} {l : List Int} (h : HisOk evs b l) : ∀ r ∈ commits evs, topAt (commits evs) (pos (commits evs) r - 1) - r + 1 ≤ mx 0 (spanL evs) + 1 := by
  intro r hr
  have h1 : spanOf evs r ≤ mx 0 (spanL evs) := mx_mem_le (List.mem_map_of_mem (mem_srt.mpr hr))
  have h2 : topAt (commits evs) (pos (commits evs) r - 1) - r ≤ spanOf evs r := by
    unfold spanOf
    cases hf : (runS evs).2.find? (fun p => decide (p.1 = r)) with
    | none =>
      rw [← h.keys] at hr
      obtain ⟨p, hp, e⟩ := List.mem_map.mp hr
      have := List.find?_eq_none.mp hf p hp
      simp at this
      exact absurd e this
    | some p =>
      have e : p.1 = r := of_decide_eq_true (List.find?_some (p := fun p : Int × Int => decide (p.1 = r)) hf)
      have := h.wide p (List.mem_of_find?_eq_some hf)
      rw [e] at this
      exact this
  omega
theorem HisOk.great {evs : List Ev} {b : Int} {l : List Int} (h : HisOk evs b l) : greatest (commits evs) ≤ mx 0 (spanL evs) + 1 :=
  greatest_le h.cnd (by have := mx_ge (spanL evs) 0; omega) h.reach
end Lat
/-! #### K70Base -/
set_option Elab.async false
set_option linter.all false
set_option maxRecDepth 100000
set_option maxHeartbeats 4000000
/-! rules of our own over the layer -/
namespace K70
open PySem PySem.Spec PyProof.Rows L2
section
variable {X : Cx}
/-- powers of any base whose result is small enough for the machine -/
def CPowW (i j : Int) : Prop := 0 ≤ j ∧ (Builtin.Int.intBits i : Int) * j ≤ 2 ^ 27
theorem op_powW : OpR X (binaryOp .Pow) (rI CPowW fun i j => .int (i ^ j.toNat)) :=
  opI fun _ _ _ _ _ _ _ hc q => pow_int hc.1 hc.2 q
theorem powW_ok {i j : Int} {n : Nat} (h0 : 0 < n) (hi : i.natAbs < 2 ^ n) (hj : 0 ≤ j) (hn : (n : Int) * j ≤ 2 ^ 27) : CPowW i j := by
  refine ⟨hj, Int.le_trans (Int.mul_le_mul_of_nonneg_right ?_ hj) hn⟩
  have h := PySem.Flt.log2_lt_of h0 hi
  unfold Builtin.Int.intBits
  split <;> omega

/-- d.update(e), both dicts of ints and texts -/
def rUpd : V → List V → Hp → VK → Prop := fun x xs H Q => ∃ (d e : Addr) (kvs more : List (Key × V)), x = .ref d ∧ xs = [.ref e] ∧ d ≠ e ∧ H d = some (.dK kvs) ∧ H e = some (.dK more) ∧
  kvs.length + more.length ≤ sizeLine ∧ Q .non (upd H d (.dK (mergeK kvs more)))
theorem merge_len (more : List (Key × V)) : ∀ kvs : List (Key × V), (mergeK kvs more).length ≤ kvs.length + more.length := by
  induction more with
  | nil => intro kvs; exact Nat.le_refl _
  | cons p r ih =>
    intro kvs
    have h1 := ih (putK kvs p.1 p.2)
    have h2 := length_putK kvs p.1 p.2
    show (mergeK (putK kvs p.1 p.2) r).length ≤ _
    rw [List.length_cons]
    omega
theorem mt_dupdate : MtR X "dict.update" rUpd := by
  intro pins s σ H x xs v us Q I rx rxs h
  obtain ⟨d, e, kvs, more, rfl, rfl, hne, hd, he, hz, q⟩ := h
  cases rx
  obtain ⟨u, rfl, ru⟩ := rxs.one
  cases ru
  obtain ⟨z1, y1, v1, r1, d1⟩ := dk_of I.hok hd
  obtain ⟨z2, y2, v2, r2, d2⟩ := dk_of I.hok he
  refine call_meetsIn PySem.F.slot_dict_update d1.typeIs PySem.F.entry_dict_update (PySem.F.args_dict_update_2 _ _) (meets_dict_update (mixKind X.prog X.w) d e hne y2)
    ⟨v1, v2, d1, d2, by rw [← r1.length, ← r2.length]; exact hz, fun h' dd _ hs => ?_⟩
  refine ⟨.non, _, d_write (t' := s.toks) I (by rw [hd]; exact True.intro) hs ?_ (dk_new (Nat.le_trans (merge_len more kvs) hz) y1 (r2.merge r1) dd), rfl, q⟩
  obtain ⟨ob, _, _, hob, _⟩ := dd
  exact ⟨ob, hob⟩

/-- xs.count(b) of a list of truth values -/
def rCntB (K : PySem.W.Frag) : V → List V → Hp → VK → Prop := fun x xs H Q => ∃ (p : Addr) (bs : List Bool) (b : Bool), x = .ref p ∧ xs = [.bl b] ∧ SqL K H p (bs.map V.bl) ∧ Q (.int (bs.count b : Nat)) H
theorem bools_of : ∀ {bs : List Bool} {us : List Value}, Vals (bs.map V.bl) us → us = bs.map Value.bool
  | [], _, h => by cases h; rfl
  | b :: r, _, h => by
    cases h with
    | cons h1 h2 =>
      obtain rfl : _ = Value.bool b := h1
      rw [bools_of h2]; rfl
def isB (b : Bool) : Value → Bool
  | .bool c => c == b
  | _ => false
theorem mt_countB : MtR X "list.count" (rCntB X.K) := by
  intro pins s σ H x xs v us Q I rx rxs h
  obtain ⟨p, bs, b, rfl, rfl, hs, q⟩ := h
  cases rx
  obtain ⟨u, rfl, ru⟩ := rxs.one
  obtain rfl : u = Value.bool b := ru
  obtain ⟨its, rv, ⟨⟨cls, dd, data, sl⟩, n, ho, hc, hdn, hd⟩, hlen⟩ := I.list hs
  simp only at hc hd
  subst hc hd
  obtain rfl := bools_of rv
  refine call_meets PySem.F.slot_list_count ⟨_, ho, rfl⟩ PySem.F.entry_list_count (PySem.F.args_list_count_2 _ _)
    (SeqAt.list_countAt p (bs.map Value.bool).toArray n dd sl (.bool b) (isB b)) ⟨ho, fun y hy => ?_, ?_⟩
  · obtain ⟨c, _, rfl⟩ := List.mem_map.mp (show y ∈ bs.map Value.bool by simpa using hy)
    exact SeqAt.EqAt.bool_bool c b
  · have ec : (bs.map Value.bool).toArray.toList.countP (isB b) = bs.count b := by
      show (bs.map Value.bool).countP (isB b) = bs.count b
      rw [List.countP_map]
      rfl
    refine ⟨.int (bs.count b : Nat), H, I.tok _, ⟨s.toks, ?_⟩, q⟩
    rw [ec]
end
end K70
/-! #### K70Dc -/
set_option Elab.async false
set_option linter.all false
set_option maxRecDepth 100000
set_option maxHeartbeats 4000000
/-! {k: v for a in x for b in a}: a dict comprehension of two clauses without tests -/
namespace K70
open PySem PySem.Spec PyProof.Rows L2
abbrev dcE (kx vx t0 i0 t1 i1 : Expr) (sc : Scope) (pos : Pos) : Expr := .DictComp kx vx [⟨t0, i0, [], 0⟩, ⟨t1, i1, [], 0⟩] sc pos
theorem turn_first (kx vx t0 i0 t1 i1 : Expr) (sc : Scope) (pos : Pos) (it acc : Value) (env : Env) :
    compTurn (dcE kx vx t0 i0 t1 i1 sc pos) 0 it acc env = (do
      standAt i0.pos
      match ← pyNext it with
      | none => pure (.done .next)
      | some v => do
        letOwnedTupleGo t0 it v
        assign t0 env v
        let y ← eval i1 env
        standAt i1.pos
        let z ← foldedSetIterable i1 env y
        let j ← holding [z] (pyIter z)
        let _ ← runOwn (.compStart (dcE kx vx t0 i0 t1 i1 sc pos) 1 j acc env) env
        again (.compLoop (dcE kx vx t0 i0 t1 i1 sc pos) 0 it acc env)) := by rfl
theorem turn_second (kx vx t0 i0 t1 i1 : Expr) (sc : Scope) (pos : Pos) (it : Value) (D : Addr) (env : Env) :
    compTurn (dcE kx vx t0 i0 t1 i1 sc pos) 1 it (.ref D) env = (do
      standAt i1.pos
      match ← pyNext it with
      | none => pure (.done .next)
      | some v => do
        letOwnedTupleGo t1 it v
        assign t1 env v
        (do
          let kv ← eval kx env
          let vv ← holding [kv] (eval vx env)
          standAt { kx.pos with endLine := vx.pos.endLine, endCol := vx.pos.endCol }
          holding [kv, vv] (dictSet D kv vv))
        again (.compLoop (dcE kx vx t0 i0 t1 i1 sc pos) 1 it (.ref D) env)) := by rfl
section
variable {prog : Program} {w : World} {A : Around} {R : Result → Shared → Prop} {s : Shared} {kx vx t0 i0 t1 i1 : Expr} {sc : Scope} {pos : Pos} {it : Value} {D : Addr} {env : Env}
abbrev nb (prog : Program) (w : World) (A : Around) (env : Env) (R : Result → Shared → Prop) : Value → Shared → Prop := notedBy (model prog w) A env fun e s' => R (.error e) s'
theorem loop_first (hs : ∀ x, foldedSetIterable i1 env x = pure x) (I : Nat → Shared → Prop)
    (turn : ∀ n s, I n s → wpAny (model prog w) A (pyNext it) (fun r s1 => match r with
      | none => R (.ok .next) s1
      | some v => wpAny (model prog w) A (letOwnedTupleGo t0 it v) (fun _ s2 => wpAny (model prog w) A (assign t0 env v) (fun _ s3 =>
          wpAny (model prog w) A (eval i1 env) (fun x s4 => wpAny (model prog w) A (pyIter x) (fun j s5 =>
            codeAny (model prog w) A (.compStart (dcE kx vx t0 i0 t1 i1 sc pos) 1 j (.ref D) env) (fun r s' => match r with
              | .ok _ => ∃ m, m < n ∧ I m s'
              | .error _ => False) s5) (nb prog w A env R) s4) (nb prog w A env R) s3) (nb prog w A env R) s2) (nb prog w A env R) s1) (nb prog w A env R) s)
    (n : Nat) (h : I n s) : codeAny (model prog w) A (.compLoop (dcE kx vx t0 i0 t1 i1 sc pos) 0 it (.ref D) env) R s := by
  refine codeAny_loop rfl I (fun n s hI => ?_) n h
  show wpAny _ A ((compTurn (dcE kx vx t0 i0 t1 i1 sc pos) 0 it (.ref D) env).onRaise (fun x => do noteFrame x env; theTreesLotGoes x)) _ _ s
  refine wpAny_noted ?_
  rw [turn_first]
  refine wpAny_bind (wpAny_standAt (wpAny_bind (wpAny_mono (turn n s hI) (fun r s1 h1 => ?_) fun _ _ z => z)))
  cases r with
  | none => exact wpAny_pure h1
  | some v =>
    refine wpAny_bind (wpAny_mono h1 (fun _ s2 h2 => wpAny_bind (wpAny_mono h2 (fun _ s3 h3 => wpAny_bind (wpAny_mono h3 (fun x s4 h4 => ?_) fun _ _ z => z)) fun _ _ z => z)) fun _ _ z => z)
    refine wpAny_bind (wpAny_standAt (wpAny_bind (wpAny_of_eq (hs x) (wpAny_bind (wpAny_holding (wpAny_mono h4 (fun j s5 h5 => ?_) fun _ _ z => z))))))
    refine wpAny_bind (wpAny_runOwn ?_)
    rw [Around.mark_none]
    refine codeAny_mono h5 fun r s' hr => ?_
    cases r with
    | ok f => exact wpAny_pure ⟨rfl, hr⟩
    | error e => exact hr.elim
theorem loop_second (I : Nat → Shared → Prop)
    (turn : ∀ n s, I n s → wpAny (model prog w) A (pyNext it) (fun r s1 => match r with
      | none => R (.ok .next) s1
      | some v => wpAny (model prog w) A (letOwnedTupleGo t1 it v) (fun _ s2 => wpAny (model prog w) A (assign t1 env v) (fun _ s3 =>
          wpAny (model prog w) A (eval kx env) (fun a s4 => wpAny (model prog w) A (eval vx env) (fun b s5 =>
            wpAny (model prog w) A (dictSet D a b) (fun _ s6 => ∃ m, m < n ∧ I m s6) (nb prog w A env R) s5) (nb prog w A env R) s4) (nb prog w A env R) s3) (nb prog w A env R) s2) (nb prog w A env R) s1) (nb prog w A env R) s)
    (n : Nat) (h : I n s) : codeAny (model prog w) A (.compLoop (dcE kx vx t0 i0 t1 i1 sc pos) 1 it (.ref D) env) R s := by
  refine codeAny_loop rfl I (fun n s hI => ?_) n h
  show wpAny _ A ((compTurn (dcE kx vx t0 i0 t1 i1 sc pos) 1 it (.ref D) env).onRaise (fun x => do noteFrame x env; theTreesLotGoes x)) _ _ s
  refine wpAny_noted ?_
  rw [turn_second]
  refine wpAny_bind (wpAny_standAt (wpAny_bind (wpAny_mono (turn n s hI) (fun r s1 h1 => ?_) fun _ _ z => z)))
  cases r with
  | none => exact wpAny_pure h1
  | some v =>
    refine wpAny_bind (wpAny_mono h1 (fun _ s2 h2 => wpAny_bind (wpAny_mono h2 (fun _ s3 h3 => ?_) fun _ _ z => z)) fun _ _ z => z)
    refine wpAny_bind (wpAny_bind (wpAny_mono h3 (fun a s4 h4 => ?_) fun _ _ z => z))
    refine wpAny_bind (wpAny_holding (wpAny_mono h4 (fun b s5 h5 => ?_) fun _ _ z => z))
    exact wpAny_bind (wpAny_standAt (wpAny_holding (wpAny_mono h5 (fun _ s6 h6 => wpAny_pure ⟨rfl, h6⟩) fun _ _ z => z)))
theorem start_second (h0 : codeAny (model prog w) A (.compLoop (dcE kx vx t0 i0 t1 i1 sc pos) 1 it (.ref D) env) R s)
    (h : wpAny (model prog w) A (pyIter it) (fun j s' => codeAny (model prog w) A (.compLoop (dcE kx vx t0 i0 t1 i1 sc pos) 1 j (.ref D) env) R s') (nb prog w A env R) s) :
    codeAny (model prog w) A (.compStart (dcE kx vx t0 i0 t1 i1 sc pos) 1 it (.ref D) env) R s := by
  refine codeAny_of_tree ?_
  show wpAny _ _ ((compStart (dcE kx vx t0 i0 t1 i1 sc pos) 1 it (.ref D) env).onRaise (fun x => do noteFrame x env; standAt theWindowsPlace)) _ _ s
  refine wpAny_notedAt ?_
  unfold compStart
  show wpAny _ _ (ask >>= _) _ _ s
  refine wpAny_bind (wpAny_askSetting (wpAny_ite ?_))
  split
  · first
      | exact wpAny_pure ⟨rfl, h0⟩
      | exact wpAny_bind (wpAny_pure (wpAny_pure ⟨rfl, h0⟩))
  · refine wpAny_bind (wpAny_rule ?_)
    show wpAny _ _ (standAt i1.pos >>= _) _ _ s
    exact wpAny_bind (wpAny_standAt (wpAny_bind (wpAny_mono h (fun j s' z => wpAny_pure ⟨rfl, z⟩) fun _ _ z => z)))
end
end K70
/-! #### K70Dd -/
set_option Elab.async false
set_option linter.all false
set_option maxRecDepth 100000
set_option maxHeartbeats 4000000
namespace K70
open PySem PySem.Spec PyProof.Rows L2
section
variable {X : Cx}
/-- the reading: an outer walk J; in each of its turns an inner walk J1 from which Nx is reached; each inner turn puts one pair -/
def tDc2 (wi : TI) (g : TG) (wi1 : TI) (g1 : TG) (tk tv : TE) (vs vs1 : List Nat) : TE := fun σ H Q =>
  wi σ H fun J H1 => ∀ D, H1 D = none → ∃ W : Nat → Nat → Hp → Prop, (∃ m, W 0 m (upd H1 D (.dK []))) ∧ ∀ i m H, W i m H →
    (J.stop i H ∧ Q (.ref D) H) ∨ (J.go i H ∧ ∃ Nx : Hp → Prop, (∀ H', Nx H' → ∃ m', m' < m ∧ W (i + 1) m' H') ∧
      ∀ x H', J.yld i H x H' → g x (wipe σ vs) H' fun σ2 H2 => wipe σ2 vs = wipe σ vs ∧
        wi1 σ2 H2 fun J1 H4 => ∃ W1 : Nat → Nat → Hp → Prop, (∃ m, W1 0 m H4) ∧ ∀ j k H, W1 j k H →
          (J1.stop j H ∧ Nx H) ∨ (J1.go j H ∧ ∃ Nx1 : Hp → Prop, (∀ H', Nx1 H' → ∃ k', k' < k ∧ W1 (j + 1) k' H') ∧
            ∀ x H', J1.yld j H x H' → g1 x (wipe σ2 vs1) H' fun σ3 H5 => wipe σ3 vs1 = wipe σ2 vs1 ∧
              tk σ3 H5 fun y H6 => tv σ3 H6 fun z H7 => ∃ kvs k, y = kV k ∧ H7 D = some (.dK kvs) ∧ kvs.length < sizeLine ∧ Nx1 (upd H7 D (.dK (putK kvs k z)))))
abbrev Bl (X : Cx) (sc : Scope) (φ : Cx → Prop) : Prop := ∀ (s : Shared) (H : Hp) (C : Addr) (cl : List (Str × Addr)) (fp : List Addr), φ (X.blk s H sc (compEnvC sc cl C X.env) fp)
/-- behind a turn the pinned iterators stand as they stood -/
theorem pins_back {Y : Cx} {pins : List (Addr × Obj)} {σ : L2.St} {H : Hp} {h : Heap} {s : Shared} {fp : List Addr} (I : Inv Y (pins ++ pinsAt fp h) σ H s) {b : Addr} {o : Obj} (hb : b ∈ fp) (e : h.get? b = some o) : s.heap.get? b = some o ∧ H b = none :=
  have z := I.pin (b, o) (List.mem_append_right _ (List.mem_append_right _ (mem_pinsAt hb e)))
  ⟨z.1, z.2.1⟩
/-- the comprehension itself, whatever is done with the dict in the block's frame -/
theorem dc2_core {kx vx t0 i0 t1 i1 : Expr} {sc : Scope} {own : List (Str × Nat)} {vs1 : List Nat} {pos pos' : Pos} {wi wi1 : TI} {g g1 : TG} {tk tv : TE}
    {use : Option (Value → Sem Unit)} {Qf : Value → Shared → Prop} {pins : List (Addr × Obj)} {s : Shared} {σ : L2.St} {H : Hp} {Q : VK}
    (calm : X.calm = true) (nd : X.N.Nodup) (I : Inv X pins σ H s) (walk0 : PI X t0 i0 wi) (blk : BlkOk X.N X.env.scope sc own) (hv : ∀ i ∈ vs1, i ∈ own.map (·.2))
    (tgt0 : Bl X sc fun Y => PG Y t0 g) (walk1 : Bl X sc fun Y => PI Y t1 i1 wi1) (tgt1 : Bl X sc fun Y => PG Y t1 g1) (key : Bl X sc fun Y => PE Y kx tk) (val : Bl X sc fun Y => PE Y vx tv)
    (fs0 : ∀ x, foldedSetIterable i0 X.env x = pure x) (fs1 : ∀ env x, foldedSetIterable i1 env x = pure x)
    (asked : tDc2 wi g wi1 g1 tk tv (own.map (·.2)) vs1 σ H Q)
    (leave : ∀ (D C : Addr) (s' : Shared) (m : Str → Option Value) (H' : Hp), Inv X pins σ H' s' → Q (.ref D) H' → s'.heap.Ns C m → FpOk X pins H' C →
      compPost (model X.prog X.w) X.A X.xe use Qf (.ref D) C (.ok .next) s') :
    wpAny (model X.prog X.w) X.A (comprehension (dcE kx vx t0 i0 t1 i1 sc pos) sc X.env pos' newDict false (eval i0 X.env) use) Qf X.xe s := by
  have cellsThere : ∀ y ∈ sc.names, y.2 = .free → ∃ c, X.env.cells.lookup y.1 = some c := by
    intro y hy e
    exact (blk.free y hy e).elim (fun k => I.ok.has _ (.inl k)) fun k => I.ok.has _ (.inr k)
  refine wpAny_comprehension_free (use := use) rfl fs0 (closure_ok cellsThere) blk.kind (fun y hy e => by rw [blk.uniq y hy, e]) ?_
  refine thn (walk0.run pins s σ H _ I asked) fun _ _ hx => thn hx fun _ s2 got => ?_
  obtain ⟨it, fp, tn, J, H2, rfl, I2, T, here2, ok2, answer⟩ := got
  refine wpAny_newObj_type (newEnv_comp ?_)
  -- the new dict
  generalize hD : s2.heap.objs.size = D
  have freeD : H2 D = none := I2.hok.fresh (Nat.le_of_eq hD)
  obtain ⟨W, ⟨m0, w0⟩, turn⟩ := answer D freeD
  generalize hs3 : ({ s2 with heap := s2.heap.push { cls := .type "dict", data := .dict #[] } } : Shared) = s3
  have heap3 : s3.heap = s2.heap.push { cls := .type "dict", data := .dict #[] } := by subst hs3; rfl
  have I3 : Inv X pins σ (upd H2 D (.dK [])) s3 := by
    subst hs3 hD
    exact I2.laid (t' := s2.toks) (fun b o e => Heap.get?_push_of_some _ e) (Nat.le_refl _) (dk_empty s2.heap I2.big)
  have old : ∀ b ∈ fp, b < s2.heap.objs.size := by
    intro b hb
    obtain ⟨_, e, _⟩ := T.obj _ _ here2 b hb
    exact Heap.lt_size e
  have ok3 : ∀ b ∈ fp, FpOk X pins (upd H2 D (.dK [])) b ∧ b < s3.heap.objs.size := by
    intro b hb
    have lt := old b hb
    have ne : b ≠ D := by subst hD; exact Nat.ne_of_lt lt
    refine ⟨⟨(upd_ne ne).trans (ok2 b hb).1, (ok2 b hb).2⟩, ?_⟩
    rw [heap3, Heap.size_push]
    exact Nat.lt_succ_of_lt lt
  have here3 : tn 0 s3.heap := T.keep _ _ _ here2 fun b _ o e => heap3 ▸ Heap.get?_push_of_some _ e
  have I4 := block_start I3 blk nd ok3
  -- the block's rules at its own frame
  have pg0 := tgt0 s3 (upd H2 D (.dK [])) s3.heap.objs.size (cellsFrom (s3.heap.objs.size + 1) sc.names (cloFrom X.env.cells sc.names [])) fp
  have pi1 := walk1 s3 (upd H2 D (.dK [])) s3.heap.objs.size (cellsFrom (s3.heap.objs.size + 1) sc.names (cloFrom X.env.cells sc.names [])) fp
  have pg1 := tgt1 s3 (upd H2 D (.dK [])) s3.heap.objs.size (cellsFrom (s3.heap.objs.size + 1) sc.names (cloFrom X.env.cells sc.names [])) fp
  have pk := key s3 (upd H2 D (.dK [])) s3.heap.objs.size (cellsFrom (s3.heap.objs.size + 1) sc.names (cloFrom X.env.cells sc.names [])) fp
  have pv := val s3 (upd H2 D (.dK [])) s3.heap.objs.size (cellsFrom (s3.heap.objs.size + 1) sc.names (cloFrom X.env.cells sc.names [])) fp
  have none3 : ∀ b ∈ fp, (upd H2 D (.dK [])) b = none := fun b hb => (ok3 b hb).1.1
  show codeAny _ _ (.compStart (dcE kx vx t0 i0 t1 i1 sc pos) 0 (.ref it) (.ref D) (compEnvC sc (cellsFrom (s3.heap.objs.size + 1) sc.names (cloFrom X.env.cells sc.names [])) s3.heap.objs.size X.env))
    (compPost (model X.prog X.w) X.A X.xe use Qf (.ref D) s3.heap.objs.size) { s3 with heap := pushCells (s3.heap.push { cls := .type "dict", data := .dict #[] }) sc.names }
  generalize hce : compEnvC sc (cellsFrom (s3.heap.objs.size + 1) sc.names (cloFrom X.env.cells sc.names [])) s3.heap.objs.size X.env = ce at I4 pg0 pi1 pg1 pk pv ⊢
  have frame : ce.locals = s3.heap.objs.size := by subst hce; rfl
  generalize upd H2 D (.dK []) = H3 at I3 I4 pg0 pi1 pg1 pk pv w0 none3 ok3
  generalize hs4 : ({ s3 with heap := pushCells (s3.heap.push { cls := .type "dict", data := .dict #[] }) sc.names } : Shared) = s4 at I4 ⊢
  have here4 : tn 0 s4.heap := T.keep _ _ _ here3 fun b _ o e => by subst hs4; exact pushCells_keeps _ _ _ _ (Heap.get?_push_of_some _ e)
  generalize hY : X.blk s3 H3 sc ce fp = Y at I4 pg0 pi1 pg1 pk pv
  have eN : Y.prog = X.prog ∧ Y.w = X.w ∧ Y.A = X.A ∧ Y.calm = X.calm := by subst hY; exact ⟨rfl, rfl, rfl, rfl⟩
  have stands : ∀ {σ' : L2.St} {H' : Hp} {s' : Shared}, Inv Y [] σ' H' s' → (∀ b ∈ fp, H' b = none) → ∀ b ∈ fp, FpOk Y [] H' b := by
    subst hY
    intro σ' H' s' I' hn b hb
    exact ⟨hn b hb, (I'.ok.exf b hb).1, I'.ok.exfs b hb, .inl hb, fun x c e => (I'.ok.exf b hb).2 x c e, fun p hp => absurd hp (by intro z; cases z)⟩
  have whole : codeAny (model X.prog X.w) X.A (.compLoop (dcE kx vx t0 i0 t1 i1 sc pos) 0 (.ref it) (.ref D) ce)
      (compPost (model X.prog X.w) X.A X.xe use Qf (.ref D) s3.heap.objs.size) s4 := by
    subst hY
    refine loop_first (fs1 ce) (fun n s' => ∃ i H', Inv (X.blk s3 H3 sc ce fp) [] (wipe σ (own.map (·.2))) H' s' ∧ tn i s'.heap ∧ (∀ b ∈ fp, H' b = none) ∧ W i n H') ?_ m0 ⟨0, H3, I4, here4, none3, w0⟩
    rintro n s5 ⟨i, H5, I5, here5, none5, w5⟩
    rcases turn i n H5 w5 with ⟨stop, qq⟩ | ⟨go, Nx, down, step⟩
    · refine thnF (T.done (X.blk s3 H3 sc ce fp) rfl rfl rfl calm i [] s5 _ H5 (fun _ _ => False) I5 (stands I5 none5) here5 stop) fun r s6 ⟨hr, I6⟩ => ?_
      subst hr
      have back : Inv X pins σ H5 s6 := I3.call' (ch := fp) I6.os I6.base I6.hok I6.bare fun b hb =>
        have z := (ok3 b hb).1.2
        ⟨z.2.2.1, z.1, z.2.2.2.1, z.2.2.2.2⟩
      have freeC : H5 s3.heap.objs.size = none := frame ▸ (show H5 ce.locals = none from I6.free)
      obtain ⟨m, hn, _⟩ := I6.loc
      have hn' : s6.heap.Ns s3.heap.objs.size m := frame ▸ (show s6.heap.Ns ce.locals m from hn)
      exact leave D s3.heap.objs.size s6 m H5 back qq hn' (I3.fpOk (Nat.le_refl _) freeC)
    · refine thnF (T.item (X.blk s3 H3 sc ce fp) rfl rfl rfl calm i [] s5 _ H5 (fun _ _ => False) I5 (stands I5 none5) here5 go) fun r s6 ⟨u, hr, h6⟩ => ?_
      subst hr
      refine thnF h6 fun _ s7 ⟨x, H7, I7, r7, y7, here7, none7⟩ => ?_
      refine thnF (pg0.run _ s7 _ H7 x u _ (I7.pinned (stands I7 none7) (T.obj _ _ here7)) r7 (step x H7 y7)) fun _ s8 ⟨σ8, H8, I8, hw8, q8⟩ => ?_
      have len8 : (wipe σ (own.map (·.2))).length = (wipe σ8 vs1).length := by
        rw [← hw8, wipe_length, wipe_length]
      have know8 : ∀ (j : Nat) v, (wipe σ (own.map (·.2)))[j]? = some (some v) → (wipe σ8 vs1)[j]? = some (some v) := by
        intro j v e
        rw [← hw8] at e
        have z := wipe_some e
        rw [wipe_out fun y => z.2 (hv j y)]
        exact z.1
      refine thnF (pi1.run _ s8 σ8 H8 _ I8 q8) fun _ _ hx => thnF hx fun _ s11 h11 => ?_
      obtain ⟨it1, fp1, tn1, J1, H11, rfl, I11, T1, here11, ok11, W1, ⟨m1, w1⟩, turn1⟩ := h11
      have stands1 : ∀ {H' : Hp}, (∀ b ∈ fp1, H' b = none) → ∀ b ∈ fp1, FpOk (X.blk s3 H3 sc ce fp) ([] ++ pinsAt fp s7.heap) H' b := fun hn b hb => ⟨hn b hb, (ok11 b hb).2⟩
      have inner : codeAny (model X.prog X.w) X.A (.compLoop (dcE kx vx t0 i0 t1 i1 sc pos) 1 (.ref it1) (.ref D) ce) (fun r s' => match r with
          | .ok _ => ∃ m, m < n ∧ ∃ i H', Inv (X.blk s3 H3 sc ce fp) [] (wipe σ (own.map (·.2))) H' s' ∧ tn i s'.heap ∧ (∀ b ∈ fp, H' b = none) ∧ W i m H'
          | .error _ => False) s11 := by
        refine loop_second (fun k s' => ∃ j H', Inv (X.blk s3 H3 sc ce fp) ([] ++ pinsAt fp s7.heap) (wipe σ8 vs1) H' s' ∧ tn1 j s'.heap ∧ (∀ b ∈ fp1, H' b = none) ∧ W1 j k H') ?_ m1
          ⟨0, H11, I11.weak (wipe_length _ _) (fun j v e => (wipe_some e).1), here11, fun b hb => (ok11 b hb).1, w1⟩
        rintro k s12 ⟨j, H12, I12, here12, none12, w12⟩
        rcases turn1 j k H12 w12 with ⟨stop1, nx⟩ | ⟨go1, Nx1, down1, step1⟩
        · refine thnF (T1.done (X.blk s3 H3 sc ce fp) rfl rfl rfl calm j _ s12 (wipe σ8 vs1) H12 (fun _ _ => False) I12 (stands1 none12) here12 stop1) fun r s13 ⟨hr, I13⟩ => ?_
          subst hr
          obtain ⟨m', hm, w'⟩ := down H12 nx
          refine ⟨m', hm, i + 1, H12, (I13.unpinned (pins := [])).weak len8 know8, T.keep _ _ _ here7 fun b hb o e => (pins_back I13 hb e).1, fun b hb => ?_, w'⟩
          obtain ⟨o, e, _⟩ := T.obj _ _ here7 b hb
          exact (pins_back I13 hb e).2
        · refine thnF (T1.item (X.blk s3 H3 sc ce fp) rfl rfl rfl calm j _ s12 (wipe σ8 vs1) H12 (fun _ _ => False) I12 (stands1 none12) here12 go1) fun r s13 ⟨u1, hr, h13⟩ => ?_
          subst hr
          refine thnF h13 fun _ s14 ⟨x1, H14, I14, r14, y14, here14, none14⟩ => ?_
          refine thnF (pg1.run _ s14 (wipe σ8 vs1) H14 x1 u1 _ (I14.pinned (stands1 none14) (T1.obj _ _ here14)) r14 (step1 x1 H14 y14)) fun _ s15 ⟨σ15, H15, I15, hw15, q15⟩ => ?_
          refine thnF (pk.run _ s15 σ15 H15 _ I15 q15) fun a s16 ⟨y, H16, I16, r16, q16⟩ => ?_
          refine thnF (pv.run _ s16 σ15 H16 _ I16 q16) fun b s17 ⟨z, H17, I17, r17, kvs, kk, ek, at17, few, nx⟩ => ?_
          subst ek
          refine d_dictSet (X := X.blk s3 H3 sc ce fp) I17 at17 few r16 r17 fun s18 I18 => ?_
          obtain ⟨m', hm, w'⟩ := down1 _ nx
          refine ⟨m', hm, j + 1, _, I18.unpinned.weak (by rw [← hw15, wipe_length]) (fun j v e => ?_), T1.keep _ _ _ here14 fun b hb o e => (pins_back I18 hb e).1, fun b hb => ?_, w'⟩
          · rw [← hw15] at e
            exact (wipe_some e).1
          · obtain ⟨o, e, _⟩ := T1.obj _ _ here14 b hb
            exact (pins_back I18 hb e).2
      exact start_second inner (T1.self X.A 0 _ _ _ here11 inner)
  exact codeAny_compStart_dict whole (T.self X.A 0 _ _ _ here4 whole)
/-- as a value -/
theorem pe_dc2 {kx vx t0 i0 t1 i1 : Expr} {sc : Scope} {own : List (Str × Nat)} {vs1 : List Nat} {pos : Pos} {wi wi1 : TI} {g g1 : TG} {tk tv : TE}
    (calm : X.calm = true) (nd : X.N.Nodup) (walk0 : PI X t0 i0 wi) (blk : BlkOk X.N X.env.scope sc own) (hv : ∀ i ∈ vs1, i ∈ own.map (·.2))
    (tgt0 : Bl X sc fun Y => PG Y t0 g) (walk1 : Bl X sc fun Y => PI Y t1 i1 wi1) (tgt1 : Bl X sc fun Y => PG Y t1 g1) (key : Bl X sc fun Y => PE Y kx tk) (val : Bl X sc fun Y => PE Y vx tv)
    (fs0 : ∀ x, foldedSetIterable i0 X.env x = pure x := by intro _; rfl) (fs1 : ∀ env x, foldedSetIterable i1 env x = pure x := by intro _ _; rfl) :
    PE X (dcE kx vx t0 i0 t1 i1 sc pos) (tDc2 wi g wi1 g1 tk tv (own.map (·.2)) vs1) := by
  refine ⟨fun pins s σ H Q I asked => ?_⟩
  rw [arm_eval_DictComp]
  refine dc2_core calm nd I walk0 blk hv tgt0 walk1 tgt1 key val fs0 fs1 asked fun D C s' m H' back q ns f => ⟨m, ns, fun h'' sb => ?_⟩
  exact ⟨.ref D, H', back.turned (t' := s'.toks) (fun b o hb e => (sb.2 b hb).trans e) f.1 f.2.1 f.2.2.2.1 f.2.2.2.2.1 f.2.2.2.2.2, rfl, q⟩
/-- y = {..}: stored within the block's frame -/
theorem ps_setDc2 {i : Nat} {y : Str} {py spos : Pos} {kx vx t0 i0 t1 i1 : Expr} {sc : Scope} {own : List (Str × Nat)} {vs1 : List Nat} {pos : Pos} {wi wi1 : TI} {g g1 : TG} {tk tv : TE}
    (calm : X.calm = true) (nd : X.N.Nodup) (hy : X.N[i]? = some y) (hl : X.env.scope.names.lookup y = some .local)
    (sw : swapsWith (dcE kx vx t0 i0 t1 i1 sc pos) (some (.Name y py)) spos.line X.env = pure true)
    (walk0 : PI X t0 i0 wi) (blk : BlkOk X.N X.env.scope sc own) (hv : ∀ i ∈ vs1, i ∈ own.map (·.2))
    (tgt0 : Bl X sc fun Y => PG Y t0 g) (walk1 : Bl X sc fun Y => PI Y t1 i1 wi1) (tgt1 : Bl X sc fun Y => PG Y t1 g1) (key : Bl X sc fun Y => PE Y kx tk) (val : Bl X sc fun Y => PE Y vx tv)
    (fs0 : ∀ x, foldedSetIterable i0 X.env x = pure x := by intro _; rfl) (fs1 : ∀ env x, foldedSetIterable i1 env x = pure x := by intro _ _; rfl) :
    PS X (.Assign [.Name y py] (dcE kx vx t0 i0 t1 i1 sc pos) spos) (tAsg (tDc2 wi g wi1 g1 tk tv (own.map (·.2)) vs1) (gName i)) := by
  refine ⟨fun pins s σ H D I asked => ?_⟩
  rw [exec_Assign_Name_used _ _ _ _ sw]
  refine wpAny_bind (wpAny_standAt (wpAny_bind ?_))
  show wpAny _ X.A (do let _ ← comprehension (dcE kx vx t0 i0 t1 i1 sc pos) sc X.env _ newDict false (eval i0 X.env) (some (assign (.Name y py) X.env))) _ _ s
  have asked : tDc2 wi g wi1 g1 tk tv (own.map (·.2)) vs1 σ H (fun x H1 => gName i x σ H1 D.nx) := asked
  refine wpAny_bind (thn (dc2_core (Qf := fun _ s' => SP X pins D .next s') calm nd I walk0 blk hv tgt0 walk1 tgt1 key val fs0 fs1 asked fun L C s' m H' back q ns f => ?_) fun _ s' hq => wpAny_pure (wpAny_pure hq))
  show wpAny _ _ (assign (.Name y py) X.env (.ref L)) _ _ _
  refine wpAny_assign_Name (store_ok2 (v := V.ref L) back nd hy (.inl hl) rfl (fun s2 I2 ⟨a, sb, ha⟩ => ?_) (.inr hl))
  have ne : C ≠ a := by
    rcases ha with z | z
    · rw [z]; exact f.2.1
    · exact fun e => f.2.2.2.2.1 y a z e.symm
  exact ⟨m, ns.sameBut sb ne, fun h3 sb3 => ⟨_, H', I2.turned (t' := s2.toks) (fun b o hb e => (sb3.2 b hb).trans e) f.1 f.2.1 f.2.2.2.1 f.2.2.2.2.1 f.2.2.2.2.2, q⟩⟩
theorem sw_dict {kx vx : Expr} {gs : List Comprehension} {sc : Scope} {pos py : Pos} {y : Str} {l : Nat} {env : PySem.Env} (hk : env.scope.kind = .function) (hy : env.scope.names.lookup y = some .local) (hl : (py.line == pos.line) = true)
    (ha : (sc.names.any fun (n, k) => n == y && (k == .local || k == .cell)) = false) : swapsWith (.DictComp kx vx gs sc pos) (some (.Name y py)) l env = pure true := by
  have h1 : env.kindOf y = some .local := hy
  have h2 : env.blockKind = .function := by unfold Env.blockKind; rw [hk]; rfl
  unfold swapsWith
  simp only [h2, h1, ha, Expr.pos, hl]
  rfl
end
end K70
/-! #### K70Rv -/
set_option Elab.async false
set_option linter.all false
set_option maxRecDepth 100000
set_option maxHeartbeats 4000000
namespace K70
open PySem PySem.Spec PyProof.Rows L2
section
variable {X : Cx} {e : Expr} {te : TE} {p apos cpos pos : Pos}
def tListVals (te : TE) : TE := fun σ H Q => te σ H fun x H1 => ∃ (d : Addr) (kvs : List (Key × V)), x = .ref d ∧ H1 d = some (.dK kvs) ∧ ∀ q, H1 q = none → Q (.ref q) (upd H1 q (.lst (kvs.map (·.2))))
theorem vals_at : ∀ {us : List Value} {kvs : List (Key × V)} {vs : List (Key × Value)}, KV kvs vs → us.length = vs.length → (∀ (j : Nat) (v : Value), us[j]? = some v → ∃ k, vs[j]? = some (k, v)) → Vals (kvs.map (·.2)) us := by
  intro us kvs vs kv hl hv
  have e := PySem.W.kdl_vals_eq us hl hv
  subst e
  clear hl hv
  induction kv with
  | nil => exact .nil
  | cons h _ ih => exact .cons h.2 ih
/-- list(e.values()) -/
theorem pe_listVals (calm : X.calm = true) (he : PE X e te) (hg : Gl X "list") (hm : X.mg "list" = none) (hv : bootBuiltins "list" = some (.type "list") := by decide +kernel)
    (base : attributeBase e "values" X.env (eval e X.env) = eval e X.env := by rfl) (line : (apos.endLine == cpos.line) = true := by rfl)
    (hs : starEach [.Call (.Attribute e "values" apos) [] [] cpos] X.env = (false, eval (.Call (.Attribute e "values" apos) [] [] cpos) X.env) :: starEach [] X.env := by rfl) :
    PE X (.Call (.Name "list" p) [.Call (.Attribute e "values" apos) [] [] cpos] [] pos) (tListVals te) := by
  refine ⟨fun pins s σ H Q I hq => wpAny_Call_Name_kw (ld_blt I hg hm hv (PyProof.Rows.callWith_type1 ?_ hs rfl))⟩
  rw [hs]
  show wpAny _ _ (spliced ((false, eval (.Call (.Attribute e "values" apos) [] [] cpos) X.env) :: backTo pos (starEach [] X.env))) _ _ s
  refine Calls.spliced_cons (wpAny_Call_method (T := "dict") (id := "dict.values") base rfl line F.plainAttrs_dict F.slot_dict_values F.type_dict_values (thn (he.run pins s σ H _ I hq) fun u s1 got => ?_))
  obtain ⟨x, H1, I1, rx, d, kvs, rfl, hd, q⟩ := got
  obtain rfl : u = Value.ref d := rx
  obtain ⟨hz, lo, vs, kv, dd⟩ := dk_of I1.hok hd
  obtain ⟨ep, hat⟩ := dd.dictAt
  refine ⟨dd.typeIs, dd.mapOf.noDict, ?_⟩
  show wpAny _ _ (callWith cpos (.builtin "dict.values") [.ref d] [] []) _ X.xe s1
  refine method_meetsIn F.slot_dict_values F.entry_dict_values rfl (PySem.evalArgs_none ⟨rfl, dd.typeIs, F.args_dict_values_1 _, _, meets_dict_values (mixKind X.prog X.w) d lo, ⟨vs, dd⟩, ?_⟩)
  refine Calls.spliced_nil ?_
  have I2 : Inv X pins σ H1 { s1 with heap := s1.heap.push { cls := .type "dict_values", data := .fields #[.ref d] } } := I1.kept (t' := s1.toks) fun b ob z => Heap.get?_push_of_some _ z
  refine PySem.W.kdl_call (PySem.W.kdl_values (knd := mixKind X.prog X.w) (kvs := vs) (ep := ep)) (I1.ok.hd calm) ⟨⟨_, Heap.get?_push_size _ rfl, rfl, rfl⟩, hat.push _⟩ (by rw [← kv.length]; exact hz) fun h' tk acc c hk hD hacc => ?_
  have ra : Vals (kvs.map (·.2)) acc.toList := vals_at kv (by rw [Array.length_toList]; exact hacc.1) fun j v z => hacc.2 j v (by rw [← Array.getElem?_toList]; exact z)
  exact ⟨.ref _, _, I2.laid (o := .lst (kvs.map (·.2))) (t' := tk) hk (Nat.le_refl _) ⟨by rw [List.length_map]; exact hz, acc.toList, c, ra, by rw [Array.toArray_toList]; exact hD⟩, rfl, q _ (I2.hok.fresh (Nat.le_refl _))⟩
end
/-- f(e, .., k = v, ..) of a def whose defaults are keyword-only ones -/
theorem kbinds_kw {K : PySem.W.Frag} {x qual : Str} {params : Arguments} {body : List Stmt} {scope : Scope} {kws : List (Str × V)} {f : Addr} {fd : FuncData} {ps : List Str} (F : FunD K x qual params body scope [] kws f fd) (n : Nat) (ks : List Str) (ms : List (Str × V))
    (g : {α : Type} → List α → List α → List α → List α) (hk : kws ≠ []) (hms : ∀ q ∈ ms, q ∈ kws)
    (hrel : ∀ {vs mz zs : List V} {us mv ws : List Value}, Vals vs us → Vals mz mv → Vals zs ws → Vals (g vs mz zs) (g us mv ws))
    (h : ∀ (D : Addr) (doc pm : Value) (an : Option Addr) (cdv ct : Value) (us mv ws : List Value), us.length = n → mv.length = ms.length → ws.length = ks.length →
      KwChain D ((ms.map (·.1)).zip mv) (bindArgs (PySem.W.fnOf x qual params body scope .none (.ref D) doc pm an cdv ct) ⟨us, ks.zip ws⟩) (ps.zip (g us mv ws))) :
    ∃ mv : List Value, KBn K fd ps n ks (fun us ws => g us mv ws) (fun vs zs => g vs (ms.map (·.2)) zs) := by
  obtain ⟨oc, od, dV, kV, doc, pm, an, cdv, ct, osl, rfl, lk, hcd, hD, hK⟩ := F.ex
  rcases hD with ⟨_, rfl⟩ | ⟨z, _⟩
  · rcases hK with z | ⟨D, rfl, hq⟩
    · exact absurd z hk
    · obtain ⟨mv, hl, rk, hks⟩ := kwd_vals (ms := ms) fun q hm => hq q (hms q hm)
      exact ⟨mv, ⟨fun s us ws X l1 l2 => BindsTo.of_looks fun M => KwChain.looks X hks (h D doc pm an cdv ct us mv ws l1 hl l2), fun r1 r2 => hrel r1 rk r2⟩⟩
  · exact absurd rfl z
end K70
/-! #### K70At -/
set_option Elab.async false
set_option linter.all false
set_option maxRecDepth 100000
set_option maxHeartbeats 4000000
namespace K70
open PySem PySem.Spec PyProof.Rows L2
/-- a statement of the program's top -/
def topS (i : Nat) : Stmt := PySem.Challenge.pw_lateids_k70_whole_margins_by_readers.main.body.getD i (.Pass ⟨0, 0, 0, 0⟩)
/-- the def of this name stands as the top wrote it -/
def AtN (K : PySem.W.Frag) (mg : Str → Option Value) (x : Str) (st : Stmt) : Prop := ∃ f fd, Fun K x x st f fd ∧ mg x = some (.ref f)
def AtD (K : PySem.W.Frag) (mg : Str → Option Value) (x : Str) (st : Stmt) (dvs : List V) (kws : List (Str × V)) : Prop := ∃ f fd, FunD K x x (defArgs st) (defBody st) (defScope st) dvs kws f fd ∧ mg x = some (.ref f)
section
variable {K : PySem.W.Frag} {h : Heap} {mg : Str → Option Value} {x : Str} {st : Stmt} {f : Addr} {od an : Option Addr} {sl : Array (Option Value)} {oc dV kV dc pm cd ct : Value}
theorem atN (X : K.In h) (G : h.Ns mainGlobals mg) (a : PySem.W.nsIn K mainGlobals x = some (some (.ref f))) (l : K.lookup f = some ⟨oc, od, .func (PySem.W.fnOf x x (defArgs st) (defBody st) (defScope st) .none kV dc pm an cd ct), sl⟩)
    (c : PySem.W.codeIn K cd x = true) (k : PySem.W.keepIn K (.ref f) = true) : AtN K mg x st := ⟨f, _, fun_mk l c k, PySem.W.mg_of X G a⟩
theorem atD {dvs : List V} {kws : List (Str × V)} (X : K.In h) (G : h.Ns mainGlobals mg) (a : PySem.W.nsIn K mainGlobals x = some (some (.ref f))) (l : K.lookup f = some ⟨oc, od, .func (PySem.W.fnOf x x (defArgs st) (defBody st) (defScope st) dV kV dc pm an cd ct), sl⟩)
    (c : PySem.W.codeIn K cd x = true) (k : PySem.W.keepIn K (.ref f) = true) (hd : DflV K dV dvs) (hk : KwdV K kV kws) : AtD K mg x st dvs kws := ⟨f, _, ⟨⟨oc, od, dV, kV, dc, pm, an, cd, ct, sl, rfl, l, c, hd, hk⟩, k⟩, PySem.W.mg_of X G a⟩
theorem dfl1 {T : Addr} {o : Obj} {v : V} {u : Value} {n : Nat} (l : K.lookup T = some o) (e : o.data = .seq [u].toArray n) (r : RelV v u) : DflV K (.ref T) [v] := .inr ⟨by simp, T, o, [u], n, rfl, l, e, .cons r .nil⟩
theorem kwd3 {D : Addr} {a b c : Str} {x y z : V} {u v w : Value} (h1 : PySem.W.nsIn K D a = some (some u)) (r1 : RelV x u) (h2 : PySem.W.nsIn K D b = some (some v)) (r2 : RelV y v) (h3 : PySem.W.nsIn K D c = some (some w)) (r3 : RelV z w) : KwdV K (.ref D) [(a, x), (b, y), (c, z)] := by
  refine .inr ⟨D, rfl, fun q hq => ?_⟩
  rcases List.mem_cons.mp hq with e | hq
  · rw [e]; exact ⟨u, h1, r1⟩
  rcases List.mem_cons.mp hq with e | hq
  · rw [e]; exact ⟨v, h2, r2⟩
  · rw [List.mem_singleton.mp hq]; exact ⟨w, h3, r3⟩
end
end K70
/-! #### K70Env -/
set_option Elab.async false
set_option linter.all false
set_option maxRecDepth 100000
set_option maxHeartbeats 4000000
namespace K70
open PySem PySem.Spec PyProof.Rows L2
open Lat (OrdOk PollsOk)
abbrev IL (H : Hp) (a : Addr) (ns : List Int) : Prop := H a = some (.lst (ns.map V.int))
abbrev Ret (H : Hp) (Q : VK) (v : V) : Prop := ∀ H', Same H H' → Q v H'
/-- a def that may be called: its promise, its place, how it is bound -/
def Cal (P : Program) (w : World) (K : PySem.W.Frag) (mg : Str → Option Value) (base : Heap) (x : Str) (k : Nat) (ps : List Str) (dvs : List V) (sp : Sp) : Prop :=
  ∃ f fd ds, FnOk P w K mg base CX0 k f fd ps sp ∧ mg x = some (.ref f) ∧ PySem.W.keepIn K (.ref f) = true ∧ Binds K fd ps ds ∧ Vals dvs ds
/-- the built-ins' names are free, the module's constants are what they are -/
structure Env (mg : Str → Option Value) : Prop where
  m_isinstance : mg "isinstance" = none
  m_int : mg "int" = none
  m_bool : mg "bool" = none
  m_list : mg "list" = none
  m_str : mg "str" = none
  m_tuple : mg "tuple" = none
  m_set : mg "set" = none
  m_len : mg "len" = none
  m_all : mg "all" = none
  m_any : mg "any" = none
  m_max : mg "max" = none
  m_min : mg "min" = none
  m_abs : mg "abs" = none
  m_sorted : mg "sorted" = none
  m_range : mg "range" = none
  m_enumerate : mg "enumerate" = none
  c_GREATEST : ∃ t, mg "GREATEST" = some (.int 1000000000000000000000000000000 t)
  c_MOST_IDS : ∃ t, mg "MOST_IDS" = some (.int 30 t)
  c_MOST_POLLS : ∃ t, mg "MOST_POLLS" = some (.int 30 t)
  c_MOST_EVENTS : ∃ t, mg "MOST_EVENTS" = some (.int 60 t)
  c_BEGIN : ∃ t, mg "BEGIN" = some (.str "begin" t)
  c_COMMIT : ∃ t, mg "COMMIT" = some (.str "commit" t)
  c_ROLLBACK : ∃ t, mg "ROLLBACK" = some (.str "rollback" t)
  c_READ : ∃ t, mg "READ" = some (.str "read" t)
  c_LOST : ∃ t, mg "LOST" = some (.str "lost" t)
  c_OPEN : ∃ t, mg "OPEN" = some (.str "open" t)
theorem same_upd {H : Hp} {p : Addr} {o : HO} (h : H p = none) : Same H (upd H p o) := fun b x e => by
  rw [upd_ne (ne_of_none e h)]
  exact e
/-- a new object written again: what stood before stands -/
theorem same_new {H H' : Hp} {p : Addr} {o : HO} (n : H p = none) (h : Same H H') : Same H (upd H' p o) := fun b x e => by
  rw [upd_ne (ne_of_none e n)]
  exact h _ _ e
theorem small_line {n : Nat} (h : n ≤ 1000) : n ≤ sizeLine := Nat.le_trans h (by decide)
theorem get_map {α : Type} {f : α → V} {xs : List α} {i : Nat} {y : V} (h : (xs.map f)[i]? = some y) : ∃ x, xs[i]? = some x ∧ y = f x := by
  rw [List.getElem?_map] at h
  cases e : xs[i]? with
  | none => rw [e] at h; cases h
  | some x => rw [e] at h; exact ⟨x, rfl, (Option.some.inj h).symm⟩
theorem take_snoc {α : Type} {xs : List α} {i : Nat} {x : α} (h : xs[i]? = some x) : xs.take (i + 1) = xs.take i ++ [x] := by
  rw [List.take_add_one, h]; rfl
/-- within a comprehension's block the written part is the def's -/
theorem ix_listK (K : PySem.W.Frag) {X : Cx} (h : X.K = K) : IxR X (rIxL K) := h ▸ ix_list
theorem ix_tupK (K : PySem.W.Frag) {X : Cx} (h : X.K = K) : IxR X (rIxT K) := h ▸ ix_tup
theorem op_inK (K : PySem.W.Frag) {X : Cx} (h : X.K = K) : OpR X (compareOp .In) (rIn K false) := h ▸ op_in_seq
theorem op_notInK (K : PySem.W.Frag) {X : Cx} (h : X.K = K) : OpR X (compareOp .NotIn) (rIn K true) := h ▸ op_notIn_seq
theorem pg_tupK (K : PySem.W.Frag) {X : Cx} {es : List Expr} {k : Nat} {t : TGs} {n : Nat} {pos : Pos} (hK : X.K = K) (hc : X.calm = true) (h : PGs X es t)
    (hn : (assignEach es X.env).length = n := by rfl) (hst : (assignEach es X.env).findIdx? (·.1) = none := by rfl) : PG X (.Tuple es k pos) (gTup K n t) := hK ▸ pg_tup hc h hn hst
theorem pi_listK (K : PySem.W.Frag) {X : Cx} {tg l : Expr} {tl : TE} (hK : X.K = K) (hl : PE X l tl) : PI X tg l (iList K tl) := hK ▸ pi_list hl
theorem yes {σ : L2.St} {H : Hp} {k : Bool → Hp → Prop} (h : k true H) : tYes σ H k := h
theorem flat_ints (o : List Int) : (o.map V.int).all flatV = true := by
  rw [List.all_eq_true]
  intro x hx
  obtain ⟨i, _, rfl⟩ := List.mem_map.mp hx
  rfl
theorem eqV_int (i j : Int) : eqV (.int i) (.int j) = decide (i = j) := by
  show (i == j) = decide (i = j)
  rw [Bool.eq_iff_iff]; simp
theorem inV_int (r : Int) (o : List Int) : inV (.int r) (o.map V.int) = decide (r ∈ o) := by
  unfold inV
  rw [Bool.eq_iff_iff, List.any_eq_true, decide_eq_true_eq]
  constructor
  · rintro ⟨x, hx, e⟩
    obtain ⟨i, hi, rfl⟩ := List.mem_map.mp hx
    rw [eqV_int, decide_eq_true_eq] at e
    subst e; exact hi
  · intro h
    exact ⟨_, List.mem_map_of_mem h, by rw [eqV_int]; simp⟩
theorem idx_first : ∀ {o : List Int} {m : Nat} {x : Int}, o[m]? = some x → o.idxOf x ≤ m
  | [], m, x, h => by simp at h
  | y :: r, 0, x, h => by
    have e : y = x := Option.some.inj h
    subst e
    rw [List.idxOf_cons_self]
    exact Nat.le_refl _
  | y :: r, m + 1, x, h => by
    have ih := idx_first (o := r) (m := m) (x := x) (by simpa using h)
    rw [List.idxOf_cons]
    by_cases e : (y == x) = true
    · rw [e]; exact Nat.zero_le _
    · rw [Bool.not_eq_true] at e
      rw [e]
      exact Nat.succ_le_succ ih
theorem idx_int {o : List Int} {r : Int} (h : r ∈ o) : (o.map V.int)[o.idxOf r]? = some (.int r) ∧ ∀ (m : Nat) (z : V), m < o.idxOf r → (o.map V.int)[m]? = some z → eqV z (.int r) = false := by
  have hl : o.idxOf r < o.length := List.idxOf_lt_length_iff.mpr h
  constructor
  · rw [List.getElem?_map, List.getElem?_eq_getElem hl, List.getElem_idxOf hl]; rfl
  · intro m z hm hz
    obtain ⟨x, hx, rfl⟩ := get_map hz
    rw [eqV_int, decide_eq_false_iff_not]
    intro e
    subst e
    have := idx_first hx
    omega
section
variable {P : Program} {w : World} {K : PySem.W.Frag} {mg : Str → Option Value} {base : Heap}
theorem cal_mk {x : Str} {st : Stmt} {k : Nat} {ps : List Str} {sp : Sp} (A : AtN K mg x st) (hb : ∀ {f fd}, Fun K x x st f fd → Binds K fd ps []) (hf : ∀ {f fd}, Fun K x x st f fd → FnOk P w K mg base CX0 k f fd ps sp) : Cal P w K mg base x k ps [] sp := by
  obtain ⟨f, fd, F, g⟩ := A
  exact ⟨f, fd, [], hf F, g, F.kp, hb F, .nil⟩

/-! ### is_integer -/
abbrev s_is_integer : Stmt := topS 11
theorem sc_is_integer : FnScope ["value", "least", "greatest"] ["value", "least", "greatest"] (defScope s_is_integer) := ⟨rfl, rfl, rfl, by decide +kernel, rfl, by decide +kernel, by decide +kernel⟩
def sp_is_integer : Sp := fun vs H Q _ => ∃ (v l : Int) (g : V), vs = [.int v, .int l, g] ∧ l ≤ v ∧ (g = .non ∨ ∃ u, g = .int u ∧ v ≤ u) ∧ Q (.bl true) H
theorem ok_isInt {f : Addr} {fd : FuncData} (F : FunD K "is_integer" "is_integer" (defArgs s_is_integer) (defBody s_is_integer) (defScope s_is_integer) [.non] [] f fd) (T : Env mg) :
    FnOk P w K mg base CX0 1 f fd ["value", "least", "greatest"] sp_is_integer := by
  refine F.ok sc_is_integer (fun vs H Q E h => ?_) (fun cdv A outer s H vs Q E hr h => ?_)
  · obtain ⟨v, l, g, rfl, _⟩ := h
    rfl
  · obtain ⟨v, l, g, rfl, hl, hg, q⟩ := h
    refine ⟨_, pss_cons (ps_if (PW.pt (pw_or (pt_not (pt_val (pe_callB call_isi (by rfl) T.m_isinstance PyProof.Rows.boot_isinstance (pa_cons (pv 0) (pa_cons (pe_bltn (v := .ty "int") (by rfl) T.m_int PyProof.Rows.boot_int rfl) pa_nil)))))
        (pw_or (pt_val (pe_callB call_isi (by rfl) T.m_isinstance PyProof.Rows.boot_isinstance (pa_cons (pv 0) (pa_cons (pe_bltn (v := .ty "bool") (by rfl) T.m_bool (by decide +kernel) rfl) pa_nil))))
          (pw_or1 (pt_cmpR op_lt (pv 0) (pv 1) (nomark _))))))
        (pss_one (ps_ret pe_bl)) pss_nil)
      (pss_one (ps_ret (pe_or (pe_cmpR op_isN (pv 2) pe_non (nomark _)) (pe_one (pe_cmpR op_le (pv 0) (pv 2) (nomark _))))))
      , ?_⟩
    refine ⟨_, rfl, _, _, _, _, true, rfl, .ty "int", .base (.int v), kit_ty (by decide +kernel), _, rfl, iteF ?_⟩
    refine ⟨_, rfl, _, _, _, _, false, rfl, .ty "bool", .base (.int v), kit_ty (by decide +kernel), _, rfl, iteF ?_⟩
    refine ⟨_, rfl, _, rfl, _, _, rfl, rfl, _, rfl, ?_⟩
    rw [decide_eq_false (by omega)]
    refine iteF ?_
    refine ⟨g, rfl, rfl, _, rfl, ?_⟩
    rcases hg with rfl | ⟨u, rfl, hu⟩
    · exact iteT q
    · refine iteF ⟨_, rfl, _, rfl, _, _, rfl, rfl, ?_⟩
      show Q (V.bl (decide (v ≤ u))) H
      rw [decide_eq_true hu]
      exact q
theorem cal_is_integer2 (A : AtD K mg "is_integer" s_is_integer [.non] []) (T : Env mg) : Cal P w K mg base "is_integer" 1 ["value", "least", "greatest"] [.non] sp_is_integer := by
  obtain ⟨f, fd, F, g⟩ := A
  obtain ⟨ds, hd, hb⟩ := F.binds1 (ps := ["value", "least", "greatest"]) 2 0 (by simp) rfl fun T kV doc pm an cdv ct us its h1 h2 => match us, its, h1, h2 with | [_, _], [_], _, _ => ⟨_, rfl, rfl⟩
  exact ⟨f, fd, ds, ok_isInt F T, g, F.kp, hb, hd⟩
theorem cal_is_integer3 (A : AtD K mg "is_integer" s_is_integer [.non] []) (T : Env mg) : Cal P w K mg base "is_integer" 1 ["value", "least", "greatest"] [] sp_is_integer := by
  obtain ⟨f, fd, F, g⟩ := A
  obtain ⟨ds, hd, hb⟩ := F.binds1 (ps := ["value", "least", "greatest"]) 3 1 (by simp) rfl fun T kV doc pm an cdv ct us its h1 h2 => match us, its, h1, h2 with | [_, _, _], [_], _, _ => ⟨_, rfl, rfl⟩
  exact ⟨f, fd, ds, ok_isInt F T, g, F.kp, hb, hd⟩
end
end K70
/-! #### K70Lib -/
set_option Elab.async false
set_option linter.all false
set_option maxRecDepth 100000
set_option maxHeartbeats 4000000
namespace K70
open PySem PySem.Spec PyProof.Rows L2
open Lat
/-! ### tops as the program lists them -/
def topsN (o : List Int) (n : Nat) : List Int := (List.range n).map fun p : Nat => topAt o (p : Int)
def topsL (o : List Int) : List Int := topsN o (o.length + 1)
theorem topsN_succ (o : List Int) (n : Nat) : topsN o (n + 1) = topsN o n ++ [topAt o (n : Int)] := by
  unfold topsN
  rw [List.range_succ, List.map_append]; rfl
theorem topsN_len (o : List Int) (n : Nat) : (topsN o n).length = n := by unfold topsN; simp
theorem topAt_succ {o : List Int} {i : Nat} {x : Int} (h : o[i]? = some x) : topAt o ((i + 1 : Nat) : Int) = max (topAt o (i : Int)) x := by
  unfold topAt topL
  rw [Int.toNat_natCast, Int.toNat_natCast, take_snoc h, mx_snoc]
theorem max_if (i j : Int) : (if j > i then j else i) = max i j := by
  by_cases h : j > i
  · rw [if_pos h]; omega
  · rw [if_neg h]; omega
theorem topsL_get {o : List Int} {p : Int} (h0 : 0 ≤ p) (h1 : p ≤ o.length) : atI ((topsL o).map V.int) p = some (.int (topAt o p)) := by
  obtain ⟨n, rfl⟩ : ∃ n : Nat, p = (n : Int) := ⟨p.toNat, by omega⟩
  refine at_of rfl ?_
  unfold topsL topsN
  rw [List.getElem?_map, List.getElem?_map, List.getElem?_range (by omega)]
  rfl
theorem atI_end (xs : List Int) (h : xs ≠ []) : atI (xs.map V.int) (-1) = some (.int (lastD xs)) := by
  obtain ⟨l, x, rfl⟩ : ∃ l x, xs = l ++ [x] := ⟨xs.dropLast, xs.getLast h, (List.dropLast_concat_getLast h).symm⟩
  rw [List.map_append, lastD_snoc]
  exact atI_last _ _
/-! ### slices -/
theorem cut_take {xs : List V} {j : Int} (h : 0 ≤ j) : cutV xs none (some j) = xs.take j.toNat := by
  obtain ⟨n, rfl⟩ : ∃ n : Nat, j = (n : Int) := ⟨j.toNat, by omega⟩
  unfold cutV
  rw [HT.sIx_none, HT.sIx_nat, List.drop_zero, Nat.sub_zero, Int.toNat_natCast]
  rw [Nat.min_comm, ← List.take_take]
  exact List.take_of_length_le (List.length_take_le' _ _)
theorem cut_drop {xs : List V} {i : Int} (h : 0 ≤ i) : cutV xs (some i) none = xs.drop i.toNat := by
  obtain ⟨n, rfl⟩ : ∃ n : Nat, i = (n : Int) := ⟨i.toNat, by omega⟩
  unfold cutV
  rw [HT.sIx_none, HT.sIx_nat, Int.toNat_natCast]
  by_cases hn : n ≤ xs.length
  · rw [Nat.min_eq_left hn]
    exact List.take_of_length_le (by rw [List.length_drop]; omega)
  · rw [Nat.min_eq_right (by omega), List.drop_eq_nil_of_le (Nat.le_refl _), List.drop_eq_nil_of_le (by omega)]
    simp
theorem cut_sub {xs : List V} {lo hi : Option Int} : ∀ v ∈ cutV xs lo hi, v ∈ xs := fun v h => List.mem_of_mem_drop (List.mem_of_mem_take h)
/-! ### a list that a comprehension keeps by a test -/
theorem filter_snoc {p : Int → Bool} {xs : List Int} {i : Nat} {x : Int} (h : xs[i]? = some x) : (xs.take (i + 1)).filter p = (xs.take i).filter p ++ (if p x = true then [x] else []) := by
  rw [take_snoc h, List.filter_append]
  congr 1
  by_cases hp : p x = true
  · rw [if_pos hp, List.filter_cons_of_pos hp]; rfl
  · rw [if_neg hp, List.filter_cons_of_neg hp]; rfl
theorem filter_few (p : Int → Bool) (xs : List Int) (i : Nat) (h : xs.length ≤ 1000) : (((xs.take i).filter p).map V.int).length < sizeLine := by
  rw [List.length_map]
  have h1 := List.length_filter_le p (xs.take i)
  have h2 : (xs.take i).length ≤ xs.length := List.length_take_le' _ _
  exact small1000 (by omega)
/-! ### lists of ints compared -/
theorem dp_all (K : PySem.W.Frag) (H : Hp) : ∀ ns : List Int, DpAll K H (ns.map V.int) (ns.map PyData.int)
  | [] => .nil
  | n :: r => .cons (.int n) (dp_all K H r)
theorem dp_ints {K : PySem.W.Frag} {H : Hp} {a : Addr} {ns : List Int} (h : SqL K H a (ns.map V.int)) : Dp K H (.ref a) (.list (ns.map PyData.int)) := .lst h (dp_all K H ns)
theorem shaped_ints (ns : List Int) : SeqAt.shaped (.list (ns.map PyData.int)) = true := by
  have h1 : ∀ ns : List Int, PyData.canLayAll0 (ns.map PyData.int) = true := by
    intro ns
    induction ns with
    | nil => rfl
    | cons n r ih => rw [List.map_cons, PyData.canLayAll0, ih]; rfl
  have h2 : ∀ ns : List Int, PyData.depthAll (ns.map PyData.int) ≤ 1 := by
    intro ns
    induction ns with
    | nil => exact Nat.zero_le _
    | cons n r ih =>
      rw [List.map_cons, PyData.depthAll]
      have e : PyData.depth (.int n) ≤ 1 := by simp [PyData.depth]
      omega
  unfold SeqAt.shaped
  rw [Bool.and_eq_true]
  constructor
  · rw [PyData.canLay0]; exact h1 ns
  · rw [decide_eq_true_eq, PyData.depth]
    have := h2 ns
    omega
theorem eqv_ints (ns ms : List Int) : PyData.eqv (.list (ns.map PyData.int)) (.list (ms.map PyData.int)) = decide (ns = ms) := by
  show PyData.eqvAll _ _ = _
  exact PySem.W.ked_eqvAll ns ms
/-- what the layer's == asks of two lists of ints -/
theorem eq_ints {K : PySem.W.Frag} {H : Hp} {a b : Addr} {ns ms : List Int} {Q : VK} (ha : SqL K H a (ns.map V.int)) (hb : SqL K H b (ms.map V.int)) (q : Q (.bl (decide (ns = ms))) H) : rEqD K (.ref a) (.ref b) H Q :=
  ⟨_, _, dp_ints ha, dp_ints hb, shaped_ints ns, shaped_ints ms, by rw [eqv_ints]; exact q⟩
theorem ne_ints {K : PySem.W.Frag} {H : Hp} {a b : Addr} {ns ms : List Int} {Q : VK} (ha : SqL K H a (ns.map V.int)) (hb : SqL K H b (ms.map V.int)) (q : Q (.bl (!decide (ns = ms))) H) : rNeD K (.ref a) (.ref b) H Q :=
  ⟨_, _, dp_ints ha, dp_ints hb, shaped_ints ns, shaped_ints ms, by rw [eqv_ints]; exact q⟩
/-! ### dicts from ids to a number or None -/
def vO : Option Int → V
  | none => .non
  | some x => .int x
def rdict (f : Int → V) (L : List Int) : List (Key × V) := L.map fun r => (Sum.inl r, f r)
theorem rdict_len (f : Int → V) (L : List Int) : (rdict f L).length = L.length := List.length_map ..
theorem valV_rdict (f : Int → V) (r : Int) : ∀ L : List Int, valV (rdict f L) (Sum.inl r) = if r ∈ L then some (f r) else none
  | [] => rfl
  | x :: L => by
    show valV ((Sum.inl x, f x) :: rdict f L) (Sum.inl r) = _
    by_cases e : x = r
    · subst e
      rw [valV_pos rfl, if_pos List.mem_cons_self]
    · rw [valV_neg (by intro z; exact e (Sum.inl.inj z)), valV_rdict f r L]
      by_cases h : r ∈ L
      · rw [if_pos h, if_pos (List.mem_cons_of_mem _ h)]
      · rw [if_neg h, if_neg]
        intro z
        rcases List.mem_cons.mp z with z | z
        · exact e z.symm
        · exact h z
theorem put_rdict {f : Int → V} {L : List Int} {r : Int} (h : r ∉ L) : putK (rdict f L) (Sum.inl r) (f r) = rdict f (L ++ [r]) := by
  rw [putK_new _ (by rw [valV_rdict, if_neg h])]
  unfold rdict
  rw [List.map_append]; rfl
theorem rdict_keys (f : Int → V) (L : List Int) : (rdict f L).map (·.1) = L.map Sum.inl := by unfold rdict; rw [List.map_map]; rfl
theorem rdict_vals (f : Int → V) (L : List Int) : (rdict f L).map (·.2) = L.map f := by unfold rdict; rw [List.map_map]; rfl
/-- the i-th of a list without repetitions is not among those ahead of it -/
theorem not_ahead {L : List Int} (h : L.Nodup) {i : Nat} {x : Int} (hx : L[i]? = some x) : x ∉ L.take i := by
  intro z
  rw [List.mem_take_iff_getElem] at z
  obtain ⟨j, hj, e⟩ := z
  obtain ⟨hi, e2⟩ := List.getElem?_eq_some_iff.mp hx
  have := (List.getElem_inj h).mp (e.trans e2.symm)
  omega
/-- what stood ahead of a lock stands behind it -/
theorem same_unlock {H H' : Hp} {d : Addr} {u : HO} {od : Obj} (hd : H d = some u) (h : Same (upd H d (.frz od u)) H') : Same H (upd H' d u) := by
  intro b o e
  by_cases hb : b = d
  · subst hb
    rw [upd_same, ← hd]; exact e
  · rw [upd_ne hb]
    exact h b o (by rw [upd_ne hb]; exact e)
/-- a dict comprehension over a walk -/
theorem dc_it {J : It} {n : Nat} {G : Hp → Prop} {Y : Nat → Hp → V → Hp → Prop} (w : Walk J n G Y) {g : TG} {tt : TT} {tk tv : TE} {vs : List Nat} {σ : L2.St} {H1 : Hp} {D : Addr} {Qd : Hp → Prop} (Pv : Nat → Hp → Prop) (h0 : Pv 0 (upd H1 D (.dK []))) (hG : ∀ i H, i ≤ n → Pv i H → G H)
    (hs : ∀ i x H H', i < n → Pv i H → Y i H x H' → g x (wipe σ vs) H' fun σ2 H2 => wipe σ2 vs = wipe σ vs ∧ tt σ2 H2 fun b H3 =>
      if b = true then tk σ2 H3 fun y H4 => tv σ2 H4 fun z H5 => ∃ kvs k, y = kV k ∧ H5 D = some (.dK kvs) ∧ kvs.length < sizeLine ∧ Pv (i + 1) (upd H5 D (.dK (putK kvs k z))) else Pv (i + 1) H3) (hd : ∀ H, Pv n H → Qd H) :
    ∃ W : Nat → Nat → Hp → Prop, (∃ m, W 0 m (upd H1 D (.dK []))) ∧ ∀ i m H, W i m H →
      (J.stop i H ∧ Qd H) ∨ (J.go i H ∧ ∃ Nx : Hp → Prop, (∀ H', Nx H' → ∃ m', m' < m ∧ W (i + 1) m' H') ∧ ∀ x H', J.yld i H x H' → g x (wipe σ vs) H' fun σ2 H2 => wipe σ2 vs = wipe σ vs ∧ tt σ2 H2 fun b H3 =>
        if b = true then tk σ2 H3 fun y H4 => tv σ2 H4 fun z H5 => ∃ kvs k, y = kV k ∧ H5 D = some (.dK kvs) ∧ kvs.length < sizeLine ∧ Nx (upd H5 D (.dK (putK kvs k z))) else Nx H3) := by
  refine ⟨fun i m H => m + i = n ∧ Pv i H, ⟨n, rfl, h0⟩, fun i m H h => ?_⟩
  obtain ⟨e, p⟩ := h
  rcases Nat.lt_or_ge i n with hlt | hge
  · exact .inr ⟨w.goes i H hlt (hG i H (Nat.le_of_lt hlt) p), Pv (i + 1), fun H' p' => ⟨m - 1, by omega, by omega, p'⟩, fun x H' y => hs i x H H' hlt p (w.yields i H x H' hlt (hG i H (Nat.le_of_lt hlt) p) y)⟩
  · obtain rfl : i = n := by omega
    exact .inl ⟨w.stops H (hG i H (Nat.le_refl _) p), hd H p⟩
/-! ### histories as the program holds them -/
def evT : Ev → List V
  | .b => [.str "begin"]
  | .c i => [.str "commit", .int i]
  | .r i => [.str "rollback", .int i]
def evD : Ev → List PyData
  | .b => [.str "begin"]
  | .c i => [.str "commit", .int i]
  | .r i => [.str "rollback", .int i]
theorem dp_ev (K : PySem.W.Frag) (H : Hp) : ∀ e : Ev, DpAll K H (evT e) (evD e)
  | .b => .cons (.str _) .nil
  | .c i => .cons (.str _) (.cons (.int i) .nil)
  | .r i => .cons (.str _) (.cons (.int i) .nil)
theorem shaped_ev (e : Ev) : SeqAt.shaped (.tuple (evD e)) = true := by
  have h1 : PyData.strOk "begin" = true := by decide +kernel
  have h2 : PyData.strOk "commit" = true := by decide +kernel
  have h3 : PyData.strOk "rollback" = true := by decide +kernel
  cases e <;> simp [evD, SeqAt.shaped, PyData.canLay0, PyData.canLayAll0, PyData.depth, PyData.depthAll, h1, h2, h3]
theorem eqv_ev (e : Ev) : PyData.eqv (.tuple (evD e)) (.tuple []) = false := by
  cases e <;> simp [evD, PyData.eqv, PyData.eqvAll]
def HisAt (H : Hp) (h : Addr) (evs : List Ev) : Prop := ∃ ts : List Addr, H h = some (.lst (ts.map V.ref)) ∧ ts.length = evs.length ∧ ∀ (i : Nat) t e, ts[i]? = some t → evs[i]? = some e → H t = some (.tup (evT e))
theorem HisAt.keep {H H' : Hp} {h : Addr} {evs : List Ev} (s : Same H H') (a : HisAt H h evs) : HisAt H' h evs := by
  obtain ⟨ts, h1, h2, h3⟩ := a
  exact ⟨ts, s _ _ h1, h2, fun i t e h4 h5 => s _ _ (h3 i t e h4 h5)⟩
theorem runH_take {evs : List Ev} {i : Nat} {t : Int × List Int} (h : runH evs (0, []) = some t) : ∃ b l, runH (evs.take i) (0, []) = some (b, l) := by
  have app : ∀ (xs ys : List Ev) (s : Int × List Int), runH (xs ++ ys) s = (runH xs s).bind (runH ys) := by
    intro xs ys
    induction xs with
    | nil => intro s; rfl
    | cons x r ih =>
      intro s
      show (stepH s x).bind (runH (r ++ ys)) = ((stepH s x).bind (runH r)).bind (runH ys)
      cases stepH s x with
      | none => rfl
      | some u => exact ih u
  rw [← List.take_append_drop i evs, app] at h
  cases e : runH (evs.take i) (0, []) with
  | none => rw [e] at h; cases h
  | some u => exact ⟨u.1, u.2, rfl⟩
/-- one event of a history that can be -/
theorem runH_step {evs : List Ev} {i : Nat} {e : Ev} {t : Int × List Int} (h : runH evs (0, []) = some t) (he : evs[i]? = some e) :
    ∃ b l b' l', runH (evs.take i) (0, []) = some (b, l) ∧ runH (evs.take (i + 1)) (0, []) = some (b', l') ∧ stepH (b, l) e = some (b', l') := by
  obtain ⟨b, l, h1⟩ := runH_take (i := i) h
  obtain ⟨b', l', h2⟩ := runH_take (i := i + 1) h
  refine ⟨b, l, b', l', h1, h2, ?_⟩
  rw [take_snoc he, runH_snoc, h1] at h2
  exact h2
/-- the open ids' dict -/
abbrev openD (l : List Int) : List (Key × V) := rdict (fun _ => .bl true) l
theorem drop_open {l : List Int} {i : Int} (hn : l.Nodup) : dropK (openD l) (Sum.inl i) = openD (l.erase i) := by
  rw [hn.erase_eq_filter]
  unfold dropK openD rdict
  rw [List.filter_map]
  congr 1
  refine List.filter_congr fun x _ => ?_
  show decide (¬ (Sum.inl x : Key) = Sum.inl i) = (x != i)
  by_cases e : x = i
  · subst e; simp
  · have : ¬ (Sum.inl x : Key) = Sum.inl i := fun z => e (Sum.inl.inj z)
    rw [decide_eq_true this]
    exact (bne_iff_ne.mpr e).symm
/-- the spans' dict -/
def spD (L : List (Int × Int)) : List (Key × V) := L.map fun p => (Sum.inl p.1, V.int p.2)
theorem spD_keys (L : List (Int × Int)) : (spD L).map (·.1) = (L.map (·.1)).map Sum.inl := by unfold spD; rw [List.map_map, List.map_map]; rfl
theorem valV_spD (r : Int) : ∀ L : List (Int × Int), valV (spD L) (Sum.inl r) = (L.find? fun p => decide (p.1 = r)).map fun p => V.int p.2
  | [] => rfl
  | p :: L => by
    show valV ((Sum.inl p.1, V.int p.2) :: spD L) (Sum.inl r) = _
    by_cases e : p.1 = r
    · rw [valV_pos (by rw [e]), List.find?_cons_of_pos (by simpa using e)]; rfl
    · rw [valV_neg (by intro z; exact e (Sum.inl.inj z)), valV_spD r L, List.find?_cons_of_neg (by simpa using e)]
theorem spD_snoc {L : List (Int × Int)} {r v : Int} (h : r ∉ L.map (·.1)) : putK (spD L) (Sum.inl r) (.int v) = spD (L ++ [(r, v)]) := by
  rw [putK_new]
  · unfold spD; rw [List.map_append]; rfl
  · rw [valV_spD, List.find?_eq_none.mpr]
    · rfl
    · intro p hp e
      exact h (List.mem_map.mpr ⟨p, hp, of_decide_eq_true e⟩)
theorem spD_get {evs : List Ev} {r : Int} (h : r ∈ (runS evs).2.map (·.1)) : valV (spD (runS evs).2) (Sum.inl r) = some (.int (spanOf evs r)) := by
  rw [valV_spD]
  unfold spanOf
  cases e : (runS evs).2.find? (fun p => decide (p.1 = r)) with
  | some p => rfl
  | none =>
    obtain ⟨p, hp, e2⟩ := List.mem_map.mp h
    exact absurd (decide_eq_true e2) (by simpa using List.find?_eq_none.mp e p hp)
end K70
/-! #### K70Lj -/
set_option Elab.async false
set_option linter.all false
set_option maxRecDepth 100000
set_option maxHeartbeats 4000000
namespace K70
open PySem PySem.Spec PyProof.Rows L2
open Lat
/-! ### the readers' lists, ranges and dicts -/
def RngAt (H : Hp) (R : Addr) (rs : List (Int × Int)) : Prop := ∃ ts : List Addr, H R = some (.lst (ts.map V.ref)) ∧ ts.length = rs.length ∧ ∀ (i : Nat) t p, ts[i]? = some t → rs[i]? = some p → H t = some (.tup [.int p.1, .int p.2])
def LsAt (H : Hp) (F : Addr) (ls : List (List Int)) : Prop := ∃ as : List Addr, H F = some (.lst (as.map V.ref)) ∧ as.length = ls.length ∧ ∀ (i : Nat) a l, as[i]? = some a → ls[i]? = some l → IL H a l
/-- .. and none of the lists is F or R -/
def LsApart (H : Hp) (F R : Addr) (ls : List (List Int)) : Prop := ∃ as : List Addr, H F = some (.lst (as.map V.ref)) ∧ as.length = ls.length ∧ (∀ (i : Nat) a l, as[i]? = some a → ls[i]? = some l → IL H a l) ∧ ∀ a ∈ as, a ≠ F ∧ a ≠ R
theorem LsApart.ls {H : Hp} {F R : Addr} {ls : List (List Int)} (h : LsApart H F R ls) : LsAt H F ls := let ⟨as, a, b, c, _⟩ := h; ⟨as, a, b, c⟩
theorem RngAt.keep {H H' : Hp} {R : Addr} {rs : List (Int × Int)} (s : Same H H') (h : RngAt H R rs) : RngAt H' R rs := by
  obtain ⟨ts, h1, h2, h3⟩ := h
  exact ⟨ts, s _ _ h1, h2, fun i t p a b => s _ _ (h3 i t p a b)⟩
theorem LsAt.keep {H H' : Hp} {F : Addr} {ls : List (List Int)} (s : Same H H') (h : LsAt H F ls) : LsAt H' F ls := by
  obtain ⟨ts, h1, h2, h3⟩ := h
  exact ⟨ts, s _ _ h1, h2, fun i t p a b => s _ _ (h3 i t p a b)⟩
theorem LsApart.keep {H H' : Hp} {F R : Addr} {ls : List (List Int)} (s : Same H H') (h : LsApart H F R ls) : LsApart H' F R ls := by
  obtain ⟨ts, h1, h2, h3, h4⟩ := h
  exact ⟨ts, s _ _ h1, h2, fun i t p a b => s _ _ (h3 i t p a b), h4⟩
/-- an object that is no tuple is written, the ranges stand -/
theorem RngAt.write {H : Hp} {R b : Addr} {rs : List (Int × Int)} {u o : HO} (hb : H b = some u) (hu : ∀ xs, u ≠ .tup xs) (hne : R ≠ b) (h : RngAt H R rs) : RngAt (upd H b o) R rs := by
  obtain ⟨ts, h1, h2, h3⟩ := h
  refine ⟨ts, (upd_ne hne).trans h1, h2, fun i t p a c => ?_⟩
  have e := h3 i t p a c
  rw [upd_ne (ne_of e hb (fun z => hu _ z.symm))]
  exact e
theorem LsApart.write {H : Hp} {F R b : Addr} {ls : List (List Int)} {o : HO} (hF : F ≠ b) (hb : ∀ l, IL H b l → b = R) (h : LsApart H F R ls) : LsApart (upd H b o) F R ls := by
  obtain ⟨ts, h1, h2, h3, h4⟩ := h
  refine ⟨ts, (upd_ne hF).trans h1, h2, fun i t l a c => ?_, h4⟩
  have e := h3 i t l a c
  have ne : t ≠ b := by
    intro z
    subst z
    exact (h4 t (List.mem_of_getElem? a)).2 (hb l e)
  show upd H b o t = _
  rw [upd_ne ne]
  exact e
theorem RngAt.drop {H : Hp} {D : Addr} {rs : List (Int × Int)} (n : Nat) {ts : List Addr} (h1 : H D = some (.lst ((ts.map V.ref).drop n))) (h2 : ts.length = rs.length) (h3 : ∀ (i : Nat) t p, ts[i]? = some t → rs[i]? = some p → H t = some (.tup [.int p.1, .int p.2])) : RngAt H D (rs.drop n) := by
  refine ⟨ts.drop n, by rw [h1, List.map_drop], by rw [List.length_drop, List.length_drop, h2], fun i t p a b => ?_⟩
  rw [List.getElem?_drop] at a b
  exact h3 _ t p a b
/-- one more pair -/
theorem RngAt.snoc {H : Hp} {R T : Addr} {rs : List (Int × Int)} {p : Int × Int} {ts : List Addr} (h1 : H R = some (.lst (ts.map V.ref))) (h2 : ts.length = rs.length) (h3 : ∀ (i : Nat) t p, ts[i]? = some t → rs[i]? = some p → H t = some (.tup [.int p.1, .int p.2]))
    (hT : H T = some (.tup [.int p.1, .int p.2])) : RngAt (upd H R (.lst (ts.map V.ref ++ [.ref T]))) R (rs ++ [p]) := by
  refine ⟨ts ++ [T], by rw [upd_same, List.map_append]; rfl, by rw [List.length_append, List.length_append, h2]; rfl, fun i t q a b => ?_⟩
  have key : H t = some (.tup [.int q.1, .int q.2]) := by
    by_cases hi : i < ts.length
    · rw [List.getElem?_append_left hi] at a
      rw [List.getElem?_append_left (by omega)] at b
      exact h3 i t q a b
    · have hi2 : i = ts.length := by
        have := (List.getElem?_eq_some_iff.mp a).1
        simp at this; omega
      subst hi2
      rw [List.getElem?_append_right (Nat.le_refl _), Nat.sub_self] at a
      rw [h2, List.getElem?_append_right (Nat.le_refl _), Nat.sub_self] at b
      obtain rfl : T = t := Option.some.inj a
      obtain rfl : p = q := Option.some.inj b
      exact hT
  rw [upd_ne (ne_of key h1 (by intro z; cases z))]
  exact key
theorem LsApart.snoc {H : Hp} {F R b : Addr} {ls : List (List Int)} {l : List Int} (h : LsApart H F R ls) (hb : IL H b l) (h1 : b ≠ F) (h2 : b ≠ R) :
    ∃ as : List Addr, H F = some (.lst (as.map V.ref)) ∧ as.length = ls.length ∧ LsApart (upd H F (.lst (as.map V.ref ++ [.ref b]))) F R (ls ++ [l]) := by
  obtain ⟨ts, e1, e2, e3, e4⟩ := h
  refine ⟨ts, e1, e2, ts ++ [b], by rw [upd_same, List.map_append]; rfl, by rw [List.length_append, List.length_append, e2]; rfl, fun i t q a c => ?_, fun t ht => ?_⟩
  · have key : IL H t q ∧ t ≠ F := by
      by_cases hi : i < ts.length
      · rw [List.getElem?_append_left hi] at a
        rw [List.getElem?_append_left (by omega)] at c
        exact ⟨e3 i t q a c, (e4 t (List.mem_of_getElem? a)).1⟩
      · have hi2 : i = ts.length := by
          have := (List.getElem?_eq_some_iff.mp a).1
          simp at this; omega
        subst hi2
        rw [List.getElem?_append_right (Nat.le_refl _), Nat.sub_self] at a
        rw [e2, List.getElem?_append_right (Nat.le_refl _), Nat.sub_self] at c
        obtain rfl : b = t := Option.some.inj a
        obtain rfl : l = q := Option.some.inj c
        exact ⟨hb, h1⟩
    show upd H F _ t = _
    rw [upd_ne key.2]
    exact key.1
  · rcases List.mem_append.mp ht with z | z
    · exact e4 t z
    · rw [List.mem_singleton.mp z]; exact ⟨h1, h2⟩
theorem ranges_last {ts : List Addr} {T : Addr} : atI ((ts.map V.ref) ++ [.ref T]) (-1) = some (.ref T) := atI_last _ _
/-- the open dict of one list, with another one's -/
theorem merge_open : ∀ (more l : List Int), (l ++ more).Nodup → mergeK (openD l) (openD more) = openD (l ++ more)
  | [], l, _ => by rw [List.append_nil]; rfl
  | x :: r, l, h => by
    show mergeK (putK (openD l) (Sum.inl x) (.bl true)) (openD r) = _
    have hx : x ∉ l := by
      intro z
      exact (List.nodup_append.mp h).2.2 x z x List.mem_cons_self rfl
    have e := put_rdict (f := fun _ => V.bl true) hx
    show mergeK (putK (rdict (fun _ => V.bl true) l) (Sum.inl x) (V.bl true)) (openD r) = _
    rw [e]
    have h2 : ((l ++ [x]) ++ r).Nodup := by simpa using h
    have := merge_open r (l ++ [x]) h2
    rw [List.append_assoc] at this
    exact this
/-- two lists without repetitions, one within the other -/
theorem nodup_len {xs ys : List Int} (hx : xs.Nodup) (hy : ys.Nodup) (h : ∀ x ∈ xs, x ∈ ys) : xs.length ≤ ys.length := by
  have p : xs.Perm (ys.filter fun y => decide (y ∈ xs)) := by
    refine (List.perm_ext_iff_of_nodup hx (hy.sublist List.filter_sublist)).mpr fun a => ?_
    rw [List.mem_filter, decide_eq_true_eq]
    exact ⟨fun z => ⟨h a z, z⟩, fun z => z.2⟩
  rw [p.length_eq]
  exact List.length_filter_le _ _
theorem PollsOk.take {n : Int} {ps : List Int} (h : PollsOk n ps) (i : Nat) : PollsOk n (ps.take i) := ⟨h.pw.sublist (List.take_sublist _ _), fun p hp => h.rng p (List.mem_of_mem_take hp)⟩
/-! ### an inner and an outer walk of a dict comprehension -/
theorem in_it {J : It} {n : Nat} {G : Hp → Prop} {Y : Nat → Hp → V → Hp → Prop} (w : Walk J n G Y) {g : TG} {tk tv : TE} {τ : L2.St} {vs1 : List Nat} {H4 : Hp} {D : Addr} {Nx : Hp → Prop} (Pv : Nat → Hp → Prop) (h0 : Pv 0 H4) (hG : ∀ i H, i ≤ n → Pv i H → G H)
    (hs : ∀ i x H H', i < n → Pv i H → Y i H x H' → g x (wipe τ vs1) H' fun σ3 H5 => wipe σ3 vs1 = wipe τ vs1 ∧ tk σ3 H5 fun y H6 => tv σ3 H6 fun z H7 => ∃ kvs k, y = kV k ∧ H7 D = some (.dK kvs) ∧ kvs.length < sizeLine ∧ Pv (i + 1) (upd H7 D (.dK (putK kvs k z)))) (hd : ∀ H, Pv n H → Nx H) :
    ∃ W1 : Nat → Nat → Hp → Prop, (∃ m, W1 0 m H4) ∧ ∀ j k H, W1 j k H →
      (J.stop j H ∧ Nx H) ∨ (J.go j H ∧ ∃ Nx1 : Hp → Prop, (∀ H', Nx1 H' → ∃ k', k' < k ∧ W1 (j + 1) k' H') ∧
        ∀ x H', J.yld j H x H' → g x (wipe τ vs1) H' fun σ3 H5 => wipe σ3 vs1 = wipe τ vs1 ∧ tk σ3 H5 fun y H6 => tv σ3 H6 fun z H7 => ∃ kvs k, y = kV k ∧ H7 D = some (.dK kvs) ∧ kvs.length < sizeLine ∧ Nx1 (upd H7 D (.dK (putK kvs k z)))) := by
  refine ⟨fun i m H => m + i = n ∧ Pv i H, ⟨n, rfl, h0⟩, fun i m H h => ?_⟩
  obtain ⟨e, p⟩ := h
  rcases Nat.lt_or_ge i n with hlt | hge
  · exact .inr ⟨w.goes i H hlt (hG i H (Nat.le_of_lt hlt) p), Pv (i + 1), fun H' p' => ⟨m - 1, by omega, by omega, p'⟩, fun x H' y => hs i x H H' hlt p (w.yields i H x H' hlt (hG i H (Nat.le_of_lt hlt) p) y)⟩
  · obtain rfl : i = n := by omega
    exact .inl ⟨w.stops H (hG i H (Nat.le_refl _) p), hd H p⟩
theorem out_it {J : It} {n : Nat} {G : Hp → Prop} {Y : Nat → Hp → V → Hp → Prop} (w : Walk J n G Y) {H1 : Hp} {Qd : Hp → Prop} {D : Addr} (step : (Hp → Prop) → V → Hp → Prop) (Pv : Nat → Hp → Prop) (h0 : Pv 0 (upd H1 D (.dK []))) (hG : ∀ i H, i ≤ n → Pv i H → G H)
    (hs : ∀ i x H H', i < n → Pv i H → Y i H x H' → step (Pv (i + 1)) x H') (hd : ∀ H, Pv n H → Qd H) :
    ∃ W : Nat → Nat → Hp → Prop, (∃ m, W 0 m (upd H1 D (.dK []))) ∧ ∀ i m H, W i m H →
      (J.stop i H ∧ Qd H) ∨ (J.go i H ∧ ∃ Nx : Hp → Prop, (∀ H', Nx H' → ∃ m', m' < m ∧ W (i + 1) m' H') ∧ ∀ x H', J.yld i H x H' → step Nx x H') := by
  refine ⟨fun i m H => m + i = n ∧ Pv i H, ⟨n, rfl, h0⟩, fun i m H h => ?_⟩
  obtain ⟨e, p⟩ := h
  rcases Nat.lt_or_ge i n with hlt | hge
  · exact .inr ⟨w.goes i H hlt (hG i H (Nat.le_of_lt hlt) p), Pv (i + 1), fun H' p' => ⟨m - 1, by omega, by omega, p'⟩, fun x H' y => hs i x H H' hlt p (w.yields i H x H' hlt (hG i H (Nat.le_of_lt hlt) p) y)⟩
  · obtain rfl : i = n := by omega
    exact .inl ⟨w.stops H (hG i H (Nat.le_refl _) p), hd H p⟩
/-! ### what became of an id -/
def stV (ret : List Int) (r : Int) : V := if r ∈ ret then .str "read" else if r < mx 0 ret then .str "lost" else .str "open"
end K70
/-! #### K70A1 -/
set_option Elab.async false
set_option linter.all false
set_option maxRecDepth 100000
set_option maxHeartbeats 4000000
namespace K70
open PySem PySem.Spec PyProof.Rows L2
open Lat (OrdOk PollsOk)
section
variable {P : Program} {w : World} {K : PySem.W.Frag} {mg : Str → Option Value} {base : Heap}
/-! ### is_id -/
abbrev s_is_id : Stmt := topS 12
theorem sc_is_id : FnScope ["value"] ["value"] (defScope s_is_id) := ⟨rfl, rfl, rfl, by decide +kernel, rfl, by decide +kernel, by decide +kernel⟩
def sp_is_id : Sp := fun vs H Q _ => ∃ (v : Int), vs = [.int v] ∧ 1 ≤ v ∧ v ≤ 1000000000000000000000000000000 ∧ Q (.bl true) H
theorem cal_is_id (T : Env mg) (At : AtN K mg "is_id" s_is_id) (C_is_integer3 : Cal P w K mg base "is_integer" 1 ["value", "least", "greatest"] [] sp_is_integer) : Cal P w K mg base "is_id" 2 ["value"] [] sp_is_id := by
  refine cal_mk At (fun F => F.binds (ps := ["value"]) fun _ _ _ _ _ _ us hl => match us, hl with | [_], _ => rfl) fun F => ?_
  obtain ⟨f_is_integer3, fd_is_integer3, d_is_integer3, G_is_integer3, g_is_integer3, k_is_integer3, b_is_integer3, v_is_integer3⟩ := C_is_integer3
  obtain ⟨t_GREATEST, c_GREATEST⟩ := T.c_GREATEST
  refine F.ok sc_is_id (fun vs H Q E h => ?_) (fun cdv A outer s H vs Q E hr h => ?_)
  · obtain ⟨v, rfl, h1, h2, q⟩ := h
    rfl
  · obtain ⟨v, rfl, h1, h2, q⟩ := h
    refine ⟨_, (pss_one (ps_ret (pe_call G_is_integer3 (hr.mono (by decide)) (by rfl) g_is_integer3 k_is_integer3 b_is_integer3 v_is_integer3 pass0 (pa_cons (pv 0) (pa_cons pe_int (pa_cons (pe_glob (v := .int 1000000000000000000000000000000) (by rfl) c_GREATEST ⟨_, rfl⟩) pa_nil)))))), ?_⟩
    exact ⟨_, rfl, v, 1, _, rfl, h1, .inr ⟨_, rfl, h2⟩, q⟩
/-! ### is_order -/
abbrev s_is_order : Stmt := topS 13
theorem sc_is_order : FnScope ["value", "row"] ["value"] (defScope s_is_order) := ⟨rfl, rfl, rfl, by decide +kernel, rfl, by decide +kernel, by decide +kernel⟩
def sp_is_order : Sp := fun vs H Q _ => ∃ (a : Addr) (o : List Int), vs = [.ref a] ∧ IL H a o ∧ OrdOk o ∧ Ret H Q (.bl true)
theorem cal_is_order (T : Env mg) (At : AtN K mg "is_order" s_is_order) (C_is_id : Cal P w K mg base "is_id" 2 ["value"] [] sp_is_id) : Cal P w K mg base "is_order" 3 ["value"] [] sp_is_order := by
  refine cal_mk At (fun F => F.binds (ps := ["value"]) fun _ _ _ _ _ _ us hl => match us, hl with | [_], _ => rfl) fun F => ?_
  obtain ⟨f_is_id, fd_is_id, d_is_id, G_is_id, g_is_id, k_is_id, b_is_id, v_is_id⟩ := C_is_id
  obtain ⟨t_MOST_IDS, c_MOST_IDS⟩ := T.c_MOST_IDS
  have m_all := T.m_all
  have m_isinstance := T.m_isinstance
  have m_len := T.m_len
  have m_list := T.m_list
  have m_set := T.m_set
  refine F.ok sc_is_order (fun vs H Q E h => ?_) (fun cdv A outer s H vs Q E hr h => ?_)
  · obtain ⟨a, o, rfl, hA, ho, q⟩ := h
    rfl
  · obtain ⟨a, o, rfl, hA, ho, q⟩ := h
    refine ⟨_, (pss_cons (ps_if (PW.pt (pw_or (pt_not (pt_val (pe_callB call_isi (by rfl) m_isinstance (by decide +kernel) (pa_cons (pv 0) (pa_cons (pe_bltn (v := .ty "list") (by rfl) m_list (by decide +kernel) rfl) pa_nil))))) (pw_or (pt_cmpR op_gt (pe_callB call_len_seq (by rfl) m_len (by decide +kernel) (pa_cons (pv 0) pa_nil)) (pe_glob (v := .int 30) (by rfl) c_MOST_IDS ⟨_, rfl⟩) (nomark _)) (pw_or1 (pt_not (pt_val (pe_callB (cr_all rfl) (by rfl) m_all (by decide +kernel) (pa_cons (pe_lc (own := [("row", 1)]) (g := gName 1) (tt := tYes) rfl sc_is_order.nd (pi_list (pv 0)) (blkOk_by (own := [("row", 1)]) (N := ["value", "row"]) (sc := defScope s_is_order) (by decide +kernel)) (fun _ _ _ _ _ => (pg_name (i := 1) sc_is_order.nd rfl (Or.inl rfl))) (fun _ _ _ _ _ => pts_nil) (fun _ _ _ _ _ => (pe_call G_is_id (hr.mono (by decide)) (by rfl) g_is_id k_is_id b_is_id v_is_id pass0 (pa_cons (pv 1) pa_nil)))) pa_nil)))))))) (pss_one (ps_ret pe_bl)) pss_nil)
      (pss_one (ps_ret (pe_cmpR op_eq (RZ.pe_lenSetI (by rfl) m_len (by rfl) m_set (pv 0)) (pe_callB call_len_seq (by rfl) m_len (by decide +kernel) (pa_cons (pv 0) pa_nil)) (nomark _))))), ?_⟩
    refine ⟨_, rfl, _, _, _, _, true, rfl, .ty "list", .base (.lst hA), kit_ty (by decide +kernel), _, rfl, iteF ?_⟩
    refine ⟨_, rfl, a, _, rfl, .inl (SqL.of hA), _, _, rfl, rfl, _, rfl, ?_⟩
    have hl : (o.map V.int).length = o.length := List.length_map ..
    rw [hl, decide_eq_false (by have := ho.len; omega)]
    refine iteF ?_
    refine ⟨_, rfl, a, rfl, ⟨_, SqL.of hA⟩, fun D nD => ?_⟩
    have sD : Same H (upd H D (.lst [])) := same_upd nD
    refine lc_list (K := K) (a := a) (xs := o.map V.int) (fun i H' => Same H H' ∧ H' D = some (.lst ((List.replicate i true).map V.bl))) ⟨sD, upd_same⟩ (fun i H' _ h => SqL.of (h.1 _ _ hA)) (fun i x H' hx h => ?_) (fun H' h => ?_)
    · obtain ⟨v, hv, rfl⟩ := get_map hx
      have hm := ho.rng v (List.mem_of_getElem? hv)
      have hi := (List.getElem?_eq_some_iff.mp hv).1
      refine ⟨rfl, yes (iteT ?_)⟩
      refine ⟨_, rfl, v, rfl, hm.1, hm.2, _, h.2, ?_, fun b ob e => ?_, ?_⟩
      · rw [List.length_map, List.length_replicate]
        have := ho.len
        exact Nat.lt_of_lt_of_le (show i < 1000 by omega) (by decide)
      · rw [upd_ne (ne_of_none e nD)]
        exact h.1 _ _ e
      · rw [upd_same, List.replicate_succ', List.map_append]; rfl
    · refine ⟨D, _, rfl, SqL.of h.2, _, rfl, ?_⟩
      have e : (List.replicate (o.map V.int).length true).all id = true := by simp
      rw [e]
      refine iteF ?_
      refine ⟨_, rfl, a, o, rfl, SqL.of (h.1 _ _ hA), ho.nd, by have := ho.len; omega, _, rfl, a, _, rfl, .inl (SqL.of (h.1 _ _ hA)), rfl, ?_⟩
      show Q (V.bl (decide (V.int ((o.length : Nat) : Int) = V.int (((o.map V.int).length : Nat) : Int)))) H'
      rw [hl, decide_eq_true rfl]
      exact q H' h.1
/-! ### require_order -/
abbrev s_require_order : Stmt := topS 14
theorem sc_require_order : FnScope ["order"] ["order"] (defScope s_require_order) := ⟨rfl, rfl, rfl, by decide +kernel, rfl, by decide +kernel, by decide +kernel⟩
def sp_require_order : Sp := fun vs H Q _ => ∃ (a : Addr) (o : List Int), vs = [.ref a] ∧ IL H a o ∧ OrdOk o ∧ Ret H Q .non
theorem cal_require_order (T : Env mg) (At : AtN K mg "require_order" s_require_order) (C_is_order : Cal P w K mg base "is_order" 3 ["value"] [] sp_is_order) : Cal P w K mg base "require_order" 4 ["order"] [] sp_require_order := by
  refine cal_mk At (fun F => F.binds (ps := ["order"]) fun _ _ _ _ _ _ us hl => match us, hl with | [_], _ => rfl) fun F => ?_
  obtain ⟨f_is_order, fd_is_order, d_is_order, G_is_order, g_is_order, k_is_order, b_is_order, v_is_order⟩ := C_is_order
  refine F.ok sc_require_order (fun vs H Q E h => ?_) (fun cdv A outer s H vs Q E hr h => ?_)
  · obtain ⟨a, o, rfl, hA, ho, q⟩ := h
    rfl
  · obtain ⟨a, o, rfl, hA, ho, q⟩ := h
    refine ⟨_, (pss_one (ps_if (pt_not (pt_val (pe_call G_is_order (hr.mono (by decide)) (by rfl) g_is_order k_is_order b_is_order v_is_order pass0 (pa_cons (pv 0) pa_nil)))) (pss_one ps_never) pss_nil)), ?_⟩
    refine ⟨_, rfl, a, o, rfl, hA, ho, fun H1 s1 => ?_⟩
    refine ⟨_, rfl, iteF ?_⟩
    exact q H1 s1
/-! ### require_polls -/
abbrev s_require_polls : Stmt := topS 15
theorem sc_require_polls : FnScope ["order", "polls", "before", "moment"] ["order", "polls"] (defScope s_require_polls) := ⟨rfl, rfl, rfl, by decide +kernel, rfl, by decide +kernel, by decide +kernel⟩
def sp_require_polls : Sp := fun vs H Q _ => ∃ (a b : Addr) (o ps : List Int), vs = [.ref a, .ref b] ∧ IL H a o ∧ o.length ≤ 30 ∧ IL H b ps ∧ ps.length ≤ 30 ∧ PollsOk o.length ps ∧ Q .non H
theorem cal_require_polls (T : Env mg) (At : AtN K mg "require_polls" s_require_polls) (C_is_integer3 : Cal P w K mg base "is_integer" 1 ["value", "least", "greatest"] [] sp_is_integer) : Cal P w K mg base "require_polls" 2 ["order", "polls"] [] sp_require_polls := by
  refine cal_mk At (fun F => F.binds (ps := ["order", "polls"]) fun _ _ _ _ _ _ us hl => match us, hl with | [_, _], _ => rfl) fun F => ?_
  obtain ⟨f_is_integer3, fd_is_integer3, d_is_integer3, G_is_integer3, g_is_integer3, k_is_integer3, b_is_integer3, v_is_integer3⟩ := C_is_integer3
  obtain ⟨t_MOST_POLLS, c_MOST_POLLS⟩ := T.c_MOST_POLLS
  have m_isinstance := T.m_isinstance
  have m_len := T.m_len
  have m_list := T.m_list
  refine F.ok sc_require_polls (fun vs H Q E h => ?_) (fun cdv A outer s H vs Q E hr h => ?_)
  · obtain ⟨a, b, o, ps, rfl, hA, hl, hB, hp, ok, q⟩ := h
    rfl
  · obtain ⟨a, b, o, ps, rfl, hA, hl, hB, hp, ok, q⟩ := h
    refine ⟨_, (pss_cons (ps_if (PW.pt (pw_or (pt_not (pt_val (pe_callB call_isi (by rfl) m_isinstance (by decide +kernel) (pa_cons (pv 1) (pa_cons (pe_bltn (v := .ty "list") (by rfl) m_list (by decide +kernel) rfl) pa_nil))))) (pw_or1 (pt_cmpR op_gt (pe_callB call_len_seq (by rfl) m_len (by decide +kernel) (pa_cons (pv 1) pa_nil)) (pe_glob (v := .int 30) (by rfl) c_MOST_POLLS ⟨_, rfl⟩) (nomark _))))) (pss_one ps_never) pss_nil)
      (pss_cons (ps_set (i := 2) sc_require_polls.nd rfl (Or.inl rfl) pe_int)
      (pss_one (ps_for PassesOwn.never rfl (pi_list (pv 1)) (pg_name (i := 3) sc_require_polls.nd rfl (Or.inl rfl)) (pss_cons (ps_if (pt_not (pt_val (pe_call G_is_integer3 (hr.mono (by decide)) (by rfl) g_is_integer3 k_is_integer3 b_is_integer3 v_is_integer3 pass0 (pa_cons (pv 3) (pa_cons (pv 2) (pa_cons (pe_callB call_len_seq (by rfl) m_len (by decide +kernel) (pa_cons (pv 0) pa_nil)) pa_nil)))))) (pss_one ps_never) pss_nil)
          (pss_one (ps_set (i := 2) sc_require_polls.nd rfl (Or.inl rfl) (pv 3)))))))), ?_⟩
    refine ⟨_, rfl, _, _, _, _, true, rfl, .ty "list", .base (.lst hB), kit_ty (by decide +kernel), _, rfl, iteF ?_⟩
    refine ⟨_, rfl, b, _, rfl, .inl (SqL.of hB), _, _, rfl, rfl, _, rfl, ?_⟩
    have hlp : (ps.map V.int).length = ps.length := List.length_map ..
    have hlo : (o.map V.int).length = o.length := List.length_map ..
    rw [hlp, decide_eq_false (by omega)]
    refine iteF ?_
    refine ⟨_, rfl, b, rfl, ⟨_, SqL.of hB⟩, for_list (K := K) (a := b) (xs := ps.map V.int) (fun i σ H' => H' = H ∧ ∃ (c : Int) (z : Option V), σ = [some (.ref a), some (.ref b), some (.int c), z] ∧ 0 ≤ c ∧ ∀ x ∈ ps.drop i, c ≤ x)
      ⟨rfl, 0, none, rfl, Int.le_refl _, fun x hx => (ok.rng x (List.mem_of_mem_drop hx)).1⟩ (fun i σ H' _ h => by rw [h.1]; exact SqL.of hB) ?_ ?_⟩
    · rintro i y σ H' hy ⟨rfl, c, z, rfl, hc, hle⟩
      obtain ⟨v, hv, rfl⟩ := get_map hy
      have hm := List.mem_of_getElem? hv
      have hi := (List.getElem?_eq_some_iff.mp hv).1
      have hd : ps.drop i = v :: ps.drop (i + 1) := by
        rw [List.drop_eq_getElem_cons hi]
        congr 1
        exact (List.getElem?_eq_some_iff.mp hv).2
      have h1 := hle v (by rw [hd]; exact List.mem_cons_self)
      refine ⟨_, rfl, _, rfl, _, rfl, a, _, rfl, .inl (SqL.of hA), v, c, _, rfl, h1, .inr ⟨_, rfl, ?_⟩, ?_⟩
      · rw [hlo]; exact (ok.rng v hm).2
      · refine ⟨_, rfl, iteF ?_⟩
        refine ⟨_, rfl, rfl, v, some (.int v), rfl, by omega, fun x hx => ?_⟩
        have hpw := ok.pw.sublist (List.drop_sublist i ps)
        rw [hd] at hpw
        exact (List.pairwise_cons.mp hpw).1 x hx
    · rintro σ H' ⟨rfl, c, z, rfl, _⟩
      exact q
/-! ### require_id_of -/
abbrev s_require_id_of : Stmt := topS 16
theorem sc_require_id_of : FnScope ["order", "row"] ["order", "row"] (defScope s_require_id_of) := ⟨rfl, rfl, rfl, by decide +kernel, rfl, by decide +kernel, by decide +kernel⟩
def sp_require_id_of : Sp := fun vs H Q _ => ∃ (a : Addr) (o : List Int) (r : Int), vs = [.ref a, .int r] ∧ IL H a o ∧ OrdOk o ∧ r ∈ o ∧ Q .non H
theorem cal_require_id_of (T : Env mg) (At : AtN K mg "require_id_of" s_require_id_of) (C_is_id : Cal P w K mg base "is_id" 2 ["value"] [] sp_is_id) : Cal P w K mg base "require_id_of" 3 ["order", "row"] [] sp_require_id_of := by
  refine cal_mk At (fun F => F.binds (ps := ["order", "row"]) fun _ _ _ _ _ _ us hl => match us, hl with | [_, _], _ => rfl) fun F => ?_
  obtain ⟨f_is_id, fd_is_id, d_is_id, G_is_id, g_is_id, k_is_id, b_is_id, v_is_id⟩ := C_is_id
  refine F.ok sc_require_id_of (fun vs H Q E h => ?_) (fun cdv A outer s H vs Q E hr h => ?_)
  · obtain ⟨a, o, r, rfl, hA, ho, hr1, q⟩ := h
    rfl
  · obtain ⟨a, o, r, rfl, hA, ho, hr1, q⟩ := h
    refine ⟨_, (pss_one (ps_if (PW.pt (pw_or (pt_not (pt_val (pe_call G_is_id (hr.mono (by decide)) (by rfl) g_is_id k_is_id b_is_id v_is_id pass0 (pa_cons (pv 1) pa_nil)))) (pw_or1 (pt_cmpR (op_notInK K rfl) (pv 1) (pv 0) (by rfl))))) (pss_one ps_never) pss_nil)), ?_⟩
    have hm := ho.rng r hr1
    refine ⟨_, rfl, r, rfl, hm.1, hm.2, _, rfl, iteF ?_⟩
    refine ⟨_, rfl, _, rfl, a, _, rfl, .inl (SqL.of hA), rfl, flat_ints o, _, rfl, ?_⟩
    rw [inV_int, decide_eq_true hr1]
    refine iteF ?_
    exact q
end
end K70
/-! #### K70A2 -/
set_option Elab.async false
set_option linter.all false
set_option maxRecDepth 100000
set_option maxHeartbeats 4000000
namespace K70
open PySem PySem.Spec PyProof.Rows L2
open Lat (OrdOk PollsOk)
section
variable {P : Program} {w : World} {K : PySem.W.Frag} {mg : Str → Option Value} {base : Heap}
/-! ### tops_in -/
abbrev s_tops_in : Stmt := topS 18
theorem sc_tops_in : FnScope ["order", "found", "row"] ["order"] (defScope s_tops_in) := ⟨rfl, rfl, rfl, by decide +kernel, rfl, by decide +kernel, by decide +kernel⟩
def sp_tops_in : Sp := fun vs H Q _ => ∃ (a : Addr) (o : List Int), vs = [.ref a] ∧ IL H a o ∧ o.length ≤ 60 ∧ ∀ H' p, Same H H' → H p = none → IL H' p (topsL o) → Q (.ref p) H'
theorem cal_tops_in (T : Env mg) (At : AtN K mg "tops_in" s_tops_in) : Cal P w K mg base "tops_in" 1 ["order"] [] sp_tops_in := by
  refine cal_mk At (fun F => F.binds (ps := ["order"]) fun _ _ _ _ _ _ us hl => match us, hl with | [_], _ => rfl) fun F => ?_
  have m_max := T.m_max
  refine F.ok sc_tops_in (fun vs H Q E h => ?_) (fun cdv A outer s H vs Q E hr h => ?_)
  · obtain ⟨a, o, rfl, hA, hl, q⟩ := h
    rfl
  · obtain ⟨a, o, rfl, hA, hl, q⟩ := h
    refine ⟨_, (pss_cons (ps_set (i := 1) sc_tops_in.nd rfl (Or.inl rfl) (pe_lst (pa_cons pe_int pa_nil)))
      (pss_cons (ps_for PassesOwn.never rfl (pi_list (pv 0)) (pg_name (i := 2) sc_tops_in.nd rfl (Or.inl rfl)) (pss_one (ps_expr (pe_bm PySem.F.plainAttrs_list PySem.F.slot_list_append PySem.F.type_list_append mt_append (pv 1) (pa_cons (pe_callB (call_max2 rfl) (by rfl) m_max (by decide +kernel) (pa_cons (pe_ix (ix_listK K rfl) (pv 1) (pe_un un_neg pe_int) (fun _ _ => rfl)) (pa_cons (pv 2) pa_nil))) pa_nil)))))
      (pss_one (ps_ret (pv 1))))), ?_⟩
    refine ⟨by show 1 ≤ sizeLine; decide, fun p np => ?_⟩
    have s0 : Same H (upd H p (.lst [.int 0])) := same_upd np
    refine ⟨_, rfl, a, rfl, ⟨_, SqL.of (s0 _ _ hA)⟩, for_list (K := K) (a := a) (xs := o.map V.int) (fun i σ H' => ∃ z, σ = [some (.ref a), some (.ref p), z] ∧ Same H H' ∧ IL H' p (topsN o (i + 1)))
      ⟨none, rfl, s0, upd_same⟩ (fun i σ H' _ ⟨_, _, h, _⟩ => SqL.of (h _ _ hA)) ?_ ?_⟩
    · rintro i y σ H' hy ⟨z, rfl, hs, hp⟩
      obtain ⟨v, hv, rfl⟩ := get_map hy
      have hi := (List.getElem?_eq_some_iff.mp hv).1
      have hlast : atI ((topsN o (i + 1)).map V.int) (-1) = some (.int (Lat.topAt o (i : Int))) := by
        rw [topsN_succ, List.map_append]
        exact atI_last _ _
      refine ⟨_, rfl, .inl ⟨rfl, _, SqL.of hp⟩, ?_⟩
      refine ⟨_, rfl, 1, rfl, p, _, -1, _, rfl, rfl, SqL.of hp, hlast, _, rfl, _, _, rfl, p, _, _, rfl, rfl, hp, ?_, ?_⟩
      · rw [List.length_map, topsN_len]
        exact small1000 (by omega)
      · refine ⟨_, rfl, same_new np hs, ?_⟩
        show upd H' p _ p = _
        rw [upd_same, max_if, topsN_succ o (i + 1), List.map_append, topAt_succ hv]
        rfl
    · rintro σ H' ⟨z, rfl, hs, hp⟩
      refine ⟨_, rfl, q H' p hs np ?_⟩
      have e : (o.map V.int).length = o.length := List.length_map ..
      rw [e] at hp
      exact hp
/-! ### danger_in -/
abbrev s_danger_in : Stmt := topS 19
theorem sc_danger_in : FnScope ["order", "row", "place", "moment", "top"] ["order", "row"] (defScope s_danger_in) := ⟨rfl, rfl, rfl, by decide +kernel, rfl, by decide +kernel, by decide +kernel⟩
def sp_danger_in : Sp := fun vs H Q _ => ∃ (a : Addr) (o : List Int) (r : Int), vs = [.ref a, .int r] ∧ IL H a o ∧ o.length ≤ 60 ∧ r ∈ o ∧ (Lat.dangM o r = none → Ret H Q .non) ∧
  ∀ f l, Lat.dangM o r = some (f, l) → ∀ H' p, Same H H' → H p = none → H' p = some (.tup [.int f, .int l]) → Q (.ref p) H'
theorem cal_danger_in (T : Env mg) (At : AtN K mg "danger_in" s_danger_in) (C_tops_in : Cal P w K mg base "tops_in" 1 ["order"] [] sp_tops_in) : Cal P w K mg base "danger_in" 2 ["order", "row"] [] sp_danger_in := by
  refine cal_mk At (fun F => F.binds (ps := ["order", "row"]) fun _ _ _ _ _ _ us hl => match us, hl with | [_, _], _ => rfl) fun F => ?_
  obtain ⟨f_tops_in, fd_tops_in, d_tops_in, G_tops_in, g_tops_in, k_tops_in, b_tops_in, v_tops_in⟩ := C_tops_in
  have m_enumerate := T.m_enumerate
  refine F.ok sc_danger_in (fun vs H Q E h => ?_) (fun cdv A outer s H vs Q E hr h => ?_)
  · obtain ⟨a, o, r, rfl, hA, hl, hr1, q0, q1⟩ := h
    rfl
  · obtain ⟨a, o, r, rfl, hA, hl, hr1, q0, q1⟩ := h
    refine ⟨_, (pss_cons (ps_set (i := 2) sc_danger_in.nd rfl (Or.inl rfl) (pe_bm PySem.F.plainAttrs_list PySem.F.slot_list_index PySem.F.type_list_index mt_index (pv 0) (pa_cons (pv 1) pa_nil)))
      (pss_cons (ps_for PassesOwn.never rfl (pi_enum (by rfl) m_enumerate (pa_cons (pe_slice sl_list (pe_call G_tops_in (hr.mono (by decide)) (by rfl) g_tops_in k_tops_in b_tops_in v_tops_in pass0 (pa_cons (pv 0) pa_nil)) po_none (po_some (pe_op op_add (pv 2) pe_int))) pa_nil)) (pg_tupK K (n := 2) rfl rfl (pgs_cons (pg_name (i := 3) sc_danger_in.nd rfl (Or.inl rfl)) (pgs_cons (pg_name (i := 4) sc_danger_in.nd rfl (Or.inl rfl)) pgs_nil))) (pss_one (ps_if (pt_cmpR op_gt (pv 4) (pv 1) (nomark _)) (pss_one (ps_ret (pe_tup (pa_cons (pv 3) (pa_cons (pv 2) pa_nil))))) pss_nil)))
      (pss_one (ps_ret pe_non)))), ?_⟩
    have hx := idx_int hr1
    have hlt : o.idxOf r < o.length := List.idxOf_lt_length_iff.mpr hr1
    refine ⟨_, rfl, .inl ⟨rfl, _, SqL.of hA⟩, _, rfl, a, _, _, o.idxOf r, _, rfl, rfl, SqL.of hA, rfl, flat_ints o, hx.1, by rw [eqV_int]; exact decide_eq_true rfl, hx.2, ?_⟩
    refine ⟨_, rfl, a, o, rfl, hA, hl, fun H1 t s1 nt ht => ?_⟩
    refine ⟨_, rfl, _, _, rfl, rfl, _, rfl, t, _, rfl, SqL.of ht, fun c nc => ?_⟩
    have hc : cutV ((topsL o).map V.int) none (some ((o.idxOf r : Int) + 1)) = (topsN o (o.idxOf r + 1)).map V.int := by
      rw [cut_take (by omega), ← List.map_take]
      unfold topsL topsN
      rw [← List.map_take, List.take_range, show min ((o.idxOf r : Int) + 1).toNat (o.length + 1) = o.idxOf r + 1 by omega]
    rw [hc]
    have s2 : Same H (upd H1 c (.lst ((topsN o (o.idxOf r + 1)).map V.int))) := s1.trans (same_upd nc)
    refine ⟨c, _, rfl, SqL.of upd_same, for_it (walk_enum (xs := (topsN o (o.idxOf r + 1)).map V.int)) (fun i σ H' => ∃ z1 z2, σ = [some (.ref a), some (.int r), some (.int (o.idxOf r : Int)), z1, z2] ∧ Same H H' ∧ IL H' c (topsN o (o.idxOf r + 1)) ∧ ∀ j : Nat, j < i → ¬ r < Lat.topAt o j)
      ⟨none, none, rfl, s2, upd_same, fun j hj => absurd hj (Nat.not_lt_zero j)⟩ (fun i σ H' _ ⟨_, _, _, _, h, _⟩ => SqL.of h) ?_ ?_⟩
    · rintro i x σ H' H'' hi ⟨z1, z2, rfl, hs, hcc, hno⟩ ⟨T, x1, x2, rfl, nT, rfl, e1, e2⟩
      obtain rfl := (Option.some.inj e1).symm
      obtain ⟨v, hv, rfl⟩ := get_map e2
      have hv2 : v = Lat.topAt o (i : Int) := by
        unfold topsN at hv
        rw [List.length_map, topsN_len] at hi
        rw [List.getElem?_map, List.getElem?_range hi] at hv
        exact (Option.some.inj hv).symm
      rw [List.length_map, topsN_len] at hi
      refine ⟨T, _, rfl, SqT.of upd_same, rfl, _, _, rfl, _, [], rfl, rfl, ?_⟩
      have sT := same_upd (H := H') (p := T) (o := .tup [.int (i : Nat), .int v]) nT
      refine ⟨_, rfl, _, rfl, _, _, rfl, rfl, _, rfl, ite2 (fun e => ?_) (fun e => ?_)⟩
      · have e := of_decide_eq_true e
        refine ⟨_, rfl, _, rfl, by show 2 ≤ sizeLine; decide, fun p np => ?_⟩
        have hd : Lat.dangM o r = some ((i : Int), (o.idxOf r : Int)) := by
          unfold Lat.dangM
          have hf : (List.range (o.idxOf r + 1)).find? (fun p : Nat => decide (r < Lat.topAt o (p : Int))) = some i := by
            rw [List.find?_range_eq_some]
            refine ⟨decide_eq_true (by rw [← hv2]; exact e), List.mem_range.mpr hi, fun j hj => ?_⟩
            have := hno j hj
            simpa using this
          rw [hf]; rfl
        refine q1 _ _ hd _ p ((hs.trans sT).trans (same_upd np)) ?_ upd_same
        exact (hs.trans sT).free np
      · have e : ¬ r < v := fun z => e (decide_eq_true z)
        refine ⟨_, _, rfl, hs.trans sT, sT _ _ hcc, fun j hj => ?_⟩
        by_cases hj2 : j = i
        · subst hj2; rw [← hv2]; exact e
        · exact hno j (by omega)
    · rintro σ H' ⟨z1, z2, rfl, hs, hcc, hno⟩
      refine q0 ?_ H' hs
      unfold Lat.dangM
      rw [List.length_map, topsN_len] at hno
      have hf : (List.range (o.idxOf r + 1)).find? (fun p : Nat => decide (r < Lat.topAt o (p : Int))) = none := by
        rw [List.find?_eq_none]
        intro j hj
        have := hno j (List.mem_range.mp hj)
        simpa using this
      rw [hf]; rfl
/-! ### danger_of -/
abbrev s_danger_of : Stmt := topS 20
theorem sc_danger_of : FnScope ["order", "row"] ["order", "row"] (defScope s_danger_of) := ⟨rfl, rfl, rfl, by decide +kernel, rfl, by decide +kernel, by decide +kernel⟩
def sp_danger_of : Sp := fun vs H Q _ => ∃ (a : Addr) (o : List Int) (r : Int), vs = [.ref a, .int r] ∧ IL H a o ∧ OrdOk o ∧ r ∈ o ∧ (Lat.dangM o r = none → Ret H Q .non) ∧
  ∀ f l, Lat.dangM o r = some (f, l) → ∀ H' p, Same H H' → H p = none → H' p = some (.tup [.int f, .int l]) → Q (.ref p) H'
theorem cal_danger_of (T : Env mg) (At : AtN K mg "danger_of" s_danger_of) (C_require_order : Cal P w K mg base "require_order" 4 ["order"] [] sp_require_order) (C_require_id_of : Cal P w K mg base "require_id_of" 3 ["order", "row"] [] sp_require_id_of) (C_danger_in : Cal P w K mg base "danger_in" 2 ["order", "row"] [] sp_danger_in) : Cal P w K mg base "danger_of" 5 ["order", "row"] [] sp_danger_of := by
  refine cal_mk At (fun F => F.binds (ps := ["order", "row"]) fun _ _ _ _ _ _ us hl => match us, hl with | [_, _], _ => rfl) fun F => ?_
  obtain ⟨f_require_order, fd_require_order, d_require_order, G_require_order, g_require_order, k_require_order, b_require_order, v_require_order⟩ := C_require_order
  obtain ⟨f_require_id_of, fd_require_id_of, d_require_id_of, G_require_id_of, g_require_id_of, k_require_id_of, b_require_id_of, v_require_id_of⟩ := C_require_id_of
  obtain ⟨f_danger_in, fd_danger_in, d_danger_in, G_danger_in, g_danger_in, k_danger_in, b_danger_in, v_danger_in⟩ := C_danger_in
  refine F.ok sc_danger_of (fun vs H Q E h => ?_) (fun cdv A outer s H vs Q E hr h => ?_)
  · obtain ⟨a, o, r, rfl, hA, ho, hr1, q0, q1⟩ := h
    rfl
  · obtain ⟨a, o, r, rfl, hA, ho, hr1, q0, q1⟩ := h
    refine ⟨_, (pss_cons (ps_expr (pe_call G_require_order (hr.mono (by decide)) (by rfl) g_require_order k_require_order b_require_order v_require_order pass0 (pa_cons (pv 0) pa_nil)))
      (pss_cons (ps_expr (pe_call G_require_id_of (hr.mono (by decide)) (by rfl) g_require_id_of k_require_id_of b_require_id_of v_require_id_of pass0 (pa_cons (pv 0) (pa_cons (pv 1) pa_nil))))
      (pss_one (ps_ret (pe_call G_danger_in (hr.mono (by decide)) (by rfl) g_danger_in k_danger_in b_danger_in v_danger_in pass0 (pa_cons (pv 0) (pa_cons (pv 1) pa_nil))))))), ?_⟩
    refine ⟨_, rfl, a, o, rfl, hA, ho, fun H1 s1 => ?_⟩
    refine ⟨_, rfl, _, rfl, a, o, r, rfl, s1 _ _ hA, ho, hr1, ?_⟩
    refine ⟨_, rfl, _, rfl, a, o, r, rfl, s1 _ _ hA, by have := ho.len; omega, hr1, fun e H2 s2 => q0 e H2 (s1.trans s2), fun f l e H2 p s2 np hp => q1 f l e H2 p (s1.trans s2) (s1.free np) hp⟩
/-! ### polls_around -/
abbrev s_polls_around : Stmt := topS 22
theorem sc_polls_around : FnScope ["order", "polls", "row", "position", "moment"] ["order", "polls", "row"] (defScope s_polls_around) := ⟨rfl, rfl, rfl, by decide +kernel, rfl, by decide +kernel, by decide +kernel⟩
def sp_polls_around : Sp := fun vs H Q _ => ∃ (a b : Addr) (o ps : List Int) (r : Int), vs = [.ref a, .ref b, .int r] ∧ IL H a o ∧ IL H b ps ∧ ps.length ≤ 60 ∧ r ∈ o ∧
  ∀ H' p c d, Same H H' → H p = none → H' p = some (.tup [.ref c, .ref d]) → IL H' c (Lat.ahead o ps r) → IL H' d (Lat.behind o ps r) → Q (.ref p) H'
theorem cal_polls_around (T : Env mg) (At : AtN K mg "polls_around" s_polls_around) : Cal P w K mg base "polls_around" 1 ["order", "polls", "row"] [] sp_polls_around := by
  refine cal_mk At (fun F => F.binds (ps := ["order", "polls", "row"]) fun _ _ _ _ _ _ us hl => match us, hl with | [_, _, _], _ => rfl) fun F => ?_
  refine F.ok sc_polls_around (fun vs H Q E h => ?_) (fun cdv A outer s H vs Q E hr h => ?_)
  · obtain ⟨a, b, o, ps, r, rfl, hA, hB, hl, hr1, q⟩ := h
    rfl
  · obtain ⟨a, b, o, ps, r, rfl, hA, hB, hl, hr1, q⟩ := h
    refine ⟨_, (pss_cons (ps_set (i := 3) sc_polls_around.nd rfl (Or.inr rfl) (pe_op op_add (pe_bm PySem.F.plainAttrs_list PySem.F.slot_list_index PySem.F.type_list_index mt_index (pv 0) (pa_cons (pv 2) pa_nil)) pe_int))
      (pss_one (ps_ret (pe_tup (pa_cons (pe_lc (own := [("moment", 4)]) (g := gName 4) rfl sc_polls_around.nd (pi_list (pv 1)) (blkOk_by (own := [("moment", 4)]) (N := ["order", "polls", "row", "position", "moment"]) (sc := defScope s_polls_around) (by decide +kernel)) (fun _ _ _ _ _ => (pg_name (i := 4) sc_polls_around.nd rfl (Or.inl rfl))) (fun _ _ _ _ _ => (pts_one (pt_cmpR op_lt (pv 4) (pv 3) (nomark _)))) (fun _ _ _ _ _ => (pv 4))) (pa_cons (pe_lc (own := [("moment", 4)]) (g := gName 4) rfl sc_polls_around.nd (pi_list (pv 1)) (blkOk_by (own := [("moment", 4)]) (N := ["order", "polls", "row", "position", "moment"]) (sc := defScope s_polls_around) (by decide +kernel)) (fun _ _ _ _ _ => (pg_name (i := 4) sc_polls_around.nd rfl (Or.inl rfl))) (fun _ _ _ _ _ => (pts_one (pt_cmpR op_ge (pv 4) (pv 3) (nomark _)))) (fun _ _ _ _ _ => (pv 4))) pa_nil)))))), ?_⟩
    have hx := idx_int hr1
    refine ⟨_, rfl, .inl ⟨rfl, _, SqL.of hA⟩, _, rfl, a, _, _, o.idxOf r, _, rfl, rfl, SqL.of hA, rfl, flat_ints o, hx.1, by rw [eqV_int]; exact decide_eq_true rfl, hx.2, ?_⟩
    refine ⟨_, _, rfl, rfl, ?_⟩
    refine ⟨_, rfl, b, rfl, ⟨_, SqL.of hB⟩, fun c nc => ?_⟩
    have s1 : Same H (upd H c (.lst [])) := same_upd nc
    refine lc_list (K := K) (a := b) (xs := ps.map V.int) (fun i H' => Same H H' ∧ IL H' c ((ps.take i).filter fun m => decide (m < Lat.pos o r))) ⟨s1, upd_same⟩ (fun i H' _ h => SqL.of (h.1 _ _ hB)) (fun i x H' hx h => ?_) (fun H' h => ?_)
    · obtain ⟨v, hv, rfl⟩ := get_map hx
      refine ⟨rfl, _, rfl, _, rfl, _, _, rfl, rfl, _, rfl, ?_⟩
      have fs := filter_snoc (p := fun m => decide (m < Lat.pos o r)) hv
      show if decide (v < Lat.pos o r) = true then _ else _
      refine ite2 (fun e => ?_) (fun e => ?_)
      · refine ⟨_, rfl, _, h.2, filter_few _ _ _ (by omega), same_new nc h.1, ?_⟩
        show upd H' c _ c = _
        rw [upd_same, fs, if_pos e, List.map_append]; rfl
      · refine ⟨h.1, ?_⟩
        rw [fs, if_neg e, List.append_nil]
        exact h.2
    · have e : (ps.map V.int).length = ps.length := List.length_map ..
      rw [e, List.take_length] at h
      refine ⟨_, rfl, b, rfl, ⟨_, SqL.of (h.1 _ _ hB)⟩, fun d nd => ?_⟩
      have s2 : Same H' (upd H' d (.lst [])) := same_upd nd
      have hcd : c ≠ d := ne_of_none h.2 nd
      refine lc_list (K := K) (a := b) (xs := ps.map V.int) (fun i H2 => Same H' H2 ∧ IL H2 d ((ps.take i).filter fun m => decide (Lat.pos o r ≤ m))) ⟨s2, upd_same⟩ (fun i H2 _ h2 => SqL.of (h2.1 _ _ (h.1 _ _ hB))) (fun i x H2 hx h2 => ?_) (fun H2 h2 => ?_)
      · obtain ⟨v, hv, rfl⟩ := get_map hx
        refine ⟨rfl, _, rfl, _, rfl, _, _, rfl, rfl, _, rfl, ?_⟩
        have fs := filter_snoc (p := fun m => decide (Lat.pos o r ≤ m)) hv
        show if decide (Lat.pos o r ≤ v) = true then _ else _
        refine ite2 (fun e => ?_) (fun e => ?_)
        · refine ⟨_, rfl, _, h2.2, filter_few _ _ _ (by omega), same_new nd h2.1, ?_⟩
          show upd H2 d _ d = _
          rw [upd_same, fs, if_pos e, List.map_append]; rfl
        · refine ⟨h2.1, ?_⟩
          rw [fs, if_neg e, List.append_nil]
          exact h2.2
      · rw [e, List.take_length] at h2
        refine ⟨by show 2 ≤ sizeLine; decide, fun p np => ?_⟩
        have s3 := same_upd (H := H2) (p := p) (o := .tup [.ref c, .ref d]) np
        have s4 := (h.1.trans h2.1)
        exact q _ p c d (s4.trans s3) (s4.free np) upd_same (s3 _ _ (h2.1 _ _ h.2)) (s3 _ _ h2.2)
end
end K70
/-! #### K70A3 -/
set_option Elab.async false
set_option linter.all false
set_option maxRecDepth 100000
set_option maxHeartbeats 4000000
namespace K70
open PySem PySem.Spec PyProof.Rows L2
open Lat (OrdOk PollsOk)
section
variable {P : Program} {w : World} {K : PySem.W.Frag} {mg : Str → Option Value} {base : Heap}
theorem cAt_iff {o ps : List Int} {r : Int} (hr : 1 ≤ r) : r < Lat.cAt o ps r ↔ Lat.ahead o ps r ≠ [] ∧ r < Lat.topAt o (Lat.lastD (Lat.ahead o ps r)) := by
  unfold Lat.cAt
  constructor
  · intro h
    refine ⟨fun e => ?_, h⟩
    rw [e, Lat.lastD_nil, Lat.topAt_zero] at h
    omega
  · exact fun h => h.2
theorem last_rng {o ps : List Int} {n r : Int} (hp : PollsOk n ps) (h : Lat.ahead o ps r ≠ []) : 0 ≤ Lat.lastD (Lat.ahead o ps r) ∧ Lat.lastD (Lat.ahead o ps r) ≤ n :=
  hp.rng _ ((Lat.ahead_ne _).mp (Lat.lastD_mem h)).1
/-! ### reaches_in -/
abbrev s_reaches_in : Stmt := topS 23
theorem sc_reaches_in : FnScope ["order", "polls", "tops", "found", "row", "ahead", "behind"] ["order", "polls"] (defScope s_reaches_in) := ⟨rfl, rfl, rfl, by decide +kernel, rfl, by decide +kernel, by decide +kernel⟩
def sp_reaches_in : Sp := fun vs H Q _ => ∃ (a b : Addr) (o ps : List Int), vs = [.ref a, .ref b] ∧ IL H a o ∧ OrdOk o ∧ IL H b ps ∧ ps.length ≤ 30 ∧ PollsOk o.length ps ∧
  ∀ H' d, Same H H' → H d = none → H' d = some (.dK (rdict (fun r => vO (Lat.vR o ps r)) (Lat.lostL o ps 1 0))) → Q (.ref d) H'
theorem cal_reaches_in (T : Env mg) (At : AtN K mg "reaches_in" s_reaches_in) (C_tops_in : Cal P w K mg base "tops_in" 1 ["order"] [] sp_tops_in) (C_polls_around : Cal P w K mg base "polls_around" 1 ["order", "polls", "row"] [] sp_polls_around) : Cal P w K mg base "reaches_in" 2 ["order", "polls"] [] sp_reaches_in := by
  refine cal_mk At (fun F => F.binds (ps := ["order", "polls"]) fun _ _ _ _ _ _ us hl => match us, hl with | [_, _], _ => rfl) fun F => ?_
  obtain ⟨f_tops_in, fd_tops_in, d_tops_in, G_tops_in, g_tops_in, k_tops_in, b_tops_in, v_tops_in⟩ := C_tops_in
  obtain ⟨f_polls_around, fd_polls_around, d_polls_around, G_polls_around, g_polls_around, k_polls_around, b_polls_around, v_polls_around⟩ := C_polls_around
  have m_sorted := T.m_sorted
  refine F.ok sc_reaches_in (fun vs H Q E h => ?_) (fun cdv A outer s H vs Q E hr h => ?_)
  · obtain ⟨a, b, o, ps, rfl, hA, ho, hB, hl, ok, q⟩ := h
    rfl
  · obtain ⟨a, b, o, ps, rfl, hA, ho, hB, hl, ok, q⟩ := h
    refine ⟨_, (pss_cons (ps_par (i := 2) (j := 3) (by rfl) sc_reaches_in.nd rfl rfl (by decide) rfl rfl (pa_cons (pe_call G_tops_in (hr.mono (by decide)) (by rfl) g_tops_in k_tops_in b_tops_in v_tops_in pass0 (pa_cons (pv 0) pa_nil)) (pa_cons pe_dnewK pa_nil)) (by rfl))
      (pss_cons (ps_for PassesOwn.never rfl (pi_list (pe_callB cr_sortedI (by rfl) m_sorted (by decide +kernel) (pa_cons (pv 0) pa_nil))) (pg_name (i := 4) sc_reaches_in.nd rfl (Or.inl rfl)) (pss_cons (ps_asg (pe_call G_polls_around (hr.mono (by decide)) (by rfl) g_polls_around k_polls_around b_polls_around v_polls_around pass0 (pa_cons (pv 0) (pa_cons (pv 1) (pa_cons (pv 4) pa_nil)))) (pg_tupK K (n := 2) rfl rfl (pgs_cons (pg_name (i := 5) sc_reaches_in.nd rfl (Or.inl rfl)) (pgs_cons (pg_name (i := 6) sc_reaches_in.nd rfl (Or.inl rfl)) pgs_nil))))
          (pss_one (ps_if (PW.pt (pw_and (pt_cmpR (op_neD hr.units) (pv 5) (pe_lst pa_nil) (nomark _)) (pw_and1 (pt_cmpR op_gt (pe_ix (ix_listK K rfl) (pv 2) (pe_ix (ix_listK K rfl) (pv 5) (pe_un un_neg pe_int) (fun _ _ => rfl)) (fun _ _ => rfl)) (pv 4) (nomark _))))) (pss_one (ps_dput (hu_of hr) (pv 3) (pv 4) (pe_ifExp (pt_cmpR (op_neD hr.units) (pv 6) (pe_lst pa_nil) (nomark _)) (pe_op op_add (pe_op op_sub (pe_ix (ix_listK K rfl) (pv 2) (pe_ix (ix_listK K rfl) (pv 5) (pe_un un_neg pe_int) (fun _ _ => rfl)) (fun _ _ => rfl)) (pv 4)) pe_int) pe_non) rfl)) pss_nil))))
      (pss_one (ps_ret (pv 3))))), ?_⟩
    have hol := ho.len
    refine ⟨_, rfl, a, o, rfl, hA, by omega, fun H1 t s1 nt ht => ?_⟩
    refine fun d nd => ⟨_, _, rfl, ?_⟩
    have s2 : Same H (upd H1 d (.dK [])) := s1.trans (same_upd nd)
    have ntd : t ≠ d := ne_of_none ht nd
    refine ⟨_, rfl, a, o, rfl, SqL.of (s2 _ _ hA), fun ns p hp hs np => ?_⟩
    obtain rfl := Lat.srt_uniq hp hs
    have s3 : Same (upd H1 d (.dK [])) (upd (upd H1 d (.dK [])) p (.lst ((Lat.srt o).map V.int))) := same_upd np
    have npd : d ≠ p := ne_of_none upd_same np
    have hn := Lat.srt_nodup ho.nd
    refine ⟨p, rfl, ⟨_, SqL.of upd_same⟩, for_list (K := K) (a := p) (xs := (Lat.srt o).map V.int) (fun i σ H' => ∃ z1 z2 z3, σ = [some (.ref a), some (.ref b), some (.ref t), some (.ref d), z1, z2, z3] ∧ Same H H' ∧ IL H' t (topsL o) ∧ IL H' p (Lat.srt o) ∧
        H' d = some (.dK (rdict (fun r => vO (Lat.vR o ps r)) (((Lat.srt o).take i).filter fun r => decide (r < Lat.cAt o ps r)))))
      ⟨none, none, none, rfl, s2.trans s3, by show upd (upd H1 d _) p _ t = _; rw [upd_ne (ne_of_none (by rw [upd_ne ntd]; exact ht) np), upd_ne ntd]; exact ht, upd_same, by rw [upd_ne npd, upd_same]; rfl⟩
      (fun i σ H' _ ⟨_, _, _, _, _, _, h, _⟩ => SqL.of h) ?_ ?_⟩
    · rintro i y σ H' hy ⟨z1, z2, z3, rfl, hs, hT, hP, hD⟩
      obtain ⟨v, hv, rfl⟩ := get_map hy
      have hvo : v ∈ o := Lat.mem_srt.mp (List.mem_of_getElem? hv)
      have hv1 := (ho.rng v hvo).1
      refine ⟨_, rfl, _, rfl, _, rfl, a, b, o, ps, v, rfl, hs _ _ hA, hs _ _ hB, by omega, hvo, fun H2 T c e s5 nT hTT hc he => ?_⟩
      refine ⟨T, _, rfl, SqT.of hTT, rfl, _, _, rfl, _, [], rfl, rfl, ?_⟩
      refine ⟨_, rfl, Nat.zero_le _, fun x nx => ?_⟩
      have s6 := same_upd (o := .lst []) nx
      refine ne_ints (ms := []) (SqL.of (s6 _ _ hc)) (SqL.of upd_same) ⟨_, rfl, ?_⟩
      have fs := filter_snoc (p := fun r => decide (r < Lat.cAt o ps r)) hv
      have hdl : d ≠ p := ne_of hD hP (by intro z; cases z)
      have hdt : d ≠ t := ne_of hD hT (by intro z; cases z)
      have stay : ∀ {H3 : Hp}, Same H' H3 → ¬ v < Lat.cAt o ps v → ∃ z1 z2 z3, ([some (.ref a), some (.ref b), some (.ref t), some (.ref d), some (.int v), some (.ref c), some (.ref e)] : L2.St) = [some (.ref a), some (.ref b), some (.ref t), some (.ref d), z1, z2, z3] ∧ Same H H3 ∧ IL H3 t (topsL o) ∧ IL H3 p (Lat.srt o) ∧
          H3 d = some (.dK (rdict (fun r => vO (Lat.vR o ps r)) (((Lat.srt o).take (i + 1)).filter fun r => decide (r < Lat.cAt o ps r)))) := by
        intro H3 s7 hno
        refine ⟨_, _, _, rfl, hs.trans s7, s7 _ _ hT, s7 _ _ hP, ?_⟩
        rw [fs, if_neg (by simpa using hno), List.append_nil]
        exact s7 _ _ hD
      refine ite2 (fun hne => ?_) (fun hne => ?_)
      · have hne : Lat.ahead o ps v ≠ [] := by simpa using hne
        have hlr := last_rng ok hne
        have hT3 : IL (upd H2 x (.lst [])) t (topsL o) := s6 _ _ (s5 _ _ hT)
        refine ⟨_, rfl, _, rfl, 1, rfl, c, _, -1, _, rfl, rfl, SqL.of (s6 _ _ hc), atI_end _ hne, t, _, _, _, rfl, rfl, SqL.of hT3, topsL_get hlr.1 hlr.2, _, rfl, _, _, rfl, rfl, _, rfl, ?_⟩
        refine ite2 (fun hlt => ?_) (fun hlt => ?_)
        · have hlt : v < Lat.topAt o (Lat.lastD (Lat.ahead o ps v)) := of_decide_eq_true hlt
          have hcv : v < Lat.cAt o ps v := (cAt_iff hv1).mpr ⟨hne, hlt⟩
          refine ⟨_, rfl, Nat.zero_le _, fun x2 nx2 => ?_⟩
          have s7 := same_upd (o := .lst []) nx2
          refine ne_ints (ms := []) (SqL.of (s7 _ _ (s6 _ _ he))) (SqL.of upd_same) ⟨_, rfl, ?_⟩
          have s8 := s5.trans (s6.trans s7)
          have fin : ∀ w : V, w = vO (Lat.vR o ps v) → ∃ a_1 H4, V.ref d = .ref a_1 ∧ DPut (upd (upd H2 x (.lst [])) x2 (.lst [])) a_1 (.int v) w H4 ∧ ∃ z1 z2 z3, ([some (.ref a), some (.ref b), some (.ref t), some (.ref d), some (.int v), some (.ref c), some (.ref e)] : L2.St) = [some (.ref a), some (.ref b), some (.ref t), some (.ref d), z1, z2, z3] ∧ Same H H4 ∧ IL H4 t (topsL o) ∧ IL H4 p (Lat.srt o) ∧
              H4 d = some (.dK (rdict (fun r => vO (Lat.vR o ps r)) (((Lat.srt o).take (i + 1)).filter fun r => decide (r < Lat.cAt o ps r)))) := by
            rintro w rfl
            refine ⟨d, _, rfl, DPut.k (k := Sum.inl v) (s8 _ _ hD) ?_, _, _, _, rfl, same_new (s1.free nd) (hs.trans s8), ?_, ?_, ?_⟩
            · rw [rdict_len]
              have h1 := List.length_filter_le (fun r => decide (r < Lat.cAt o ps r)) ((Lat.srt o).take i)
              have h2 : ((Lat.srt o).take i).length ≤ (Lat.srt o).length := List.length_take_le' _ _
              rw [Lat.srt_length] at h2
              exact small1000 (by omega)
            · show upd _ d _ t = _
              rw [upd_ne hdt.symm]; exact s8 _ _ hT
            · show upd _ d _ p = _
              rw [upd_ne hdl.symm]; exact s8 _ _ hP
            · rw [upd_same, fs, if_pos (decide_eq_true hcv)]
              rw [put_rdict (f := fun r => vO (Lat.vR o ps r))]
              intro z
              exact not_ahead hn hv ((List.mem_filter.mp z).1)
          refine ite2 (fun hb => ?_) (fun hb => ?_)
          · have hb : Lat.behind o ps v ≠ [] := by simpa using hb
            refine ⟨_, rfl, _, rfl, 1, rfl, c, _, -1, _, rfl, rfl, SqL.of (s7 _ _ (s6 _ _ hc)), atI_end _ hne, t, _, _, _, rfl, rfl, SqL.of (s8 _ _ hT), topsL_get hlr.1 hlr.2, _, rfl, _, _, rfl, rfl, _, _, rfl, rfl, ?_⟩
            refine ⟨_, rfl, _, rfl, fin _ ?_⟩
            unfold Lat.vR
            rw [if_pos hb]; rfl
          · have hb : Lat.behind o ps v = [] := by simpa using hb
            refine ⟨_, rfl, _, rfl, fin _ ?_⟩
            unfold Lat.vR
            rw [if_neg (by simpa using hb)]; rfl
        · have hlt : ¬ v < Lat.topAt o (Lat.lastD (Lat.ahead o ps v)) := fun z => hlt (decide_eq_true z)
          exact stay (s5.trans s6) fun z => hlt ((cAt_iff hv1).mp z).2
      · have hne : Lat.ahead o ps v = [] := by simpa using hne
        refine iteF ?_
        exact stay (s5.trans s6) fun z => ((cAt_iff hv1).mp z).1 hne
    · rintro σ H' ⟨z1, z2, z3, rfl, hs, _, _, hD⟩
      refine ⟨_, rfl, q H' d hs (s1.free nd) ?_⟩
      have e : ((Lat.srt o).map V.int).length = (Lat.srt o).length := List.length_map ..
      rw [e, List.take_length] at hD
      rw [Lat.plain_reach ho ok]
      exact hD
/-! ### waits_in -/
abbrev s_waits_in : Stmt := topS 24
theorem sc_waits_in : FnScope ["order", "polls", "tops", "found", "row", "ahead", "behind", "passing", "moment"] ["order", "polls"] (defScope s_waits_in) := ⟨rfl, rfl, rfl, by decide +kernel, rfl, by decide +kernel, by decide +kernel⟩
def sp_waits_in : Sp := fun vs H Q _ => ∃ (a b : Addr) (o ps : List Int), vs = [.ref a, .ref b] ∧ IL H a o ∧ OrdOk o ∧ IL H b ps ∧ ps.length ≤ 30 ∧ PollsOk o.length ps ∧
  ∀ H' d, Same H H' → H d = none → H' d = some (.dK (rdict (fun r => vO (Lat.vW o ps r)) (Lat.lostL o ps 1 0))) → Q (.ref d) H'
theorem cal_waits_in (T : Env mg) (At : AtN K mg "waits_in" s_waits_in) (C_tops_in : Cal P w K mg base "tops_in" 1 ["order"] [] sp_tops_in) (C_polls_around : Cal P w K mg base "polls_around" 1 ["order", "polls", "row"] [] sp_polls_around) : Cal P w K mg base "waits_in" 2 ["order", "polls"] [] sp_waits_in := by
  refine cal_mk At (fun F => F.binds (ps := ["order", "polls"]) fun _ _ _ _ _ _ us hl => match us, hl with | [_, _], _ => rfl) fun F => ?_
  obtain ⟨f_tops_in, fd_tops_in, d_tops_in, G_tops_in, g_tops_in, k_tops_in, b_tops_in, v_tops_in⟩ := C_tops_in
  obtain ⟨f_polls_around, fd_polls_around, d_polls_around, G_polls_around, g_polls_around, k_polls_around, b_polls_around, v_polls_around⟩ := C_polls_around
  have m_len := T.m_len
  have m_sorted := T.m_sorted
  refine F.ok sc_waits_in (fun vs H Q E h => ?_) (fun cdv A outer s H vs Q E hr h => ?_)
  · obtain ⟨a, b, o, ps, rfl, hA, ho, hB, hl, ok, q⟩ := h
    rfl
  · obtain ⟨a, b, o, ps, rfl, hA, ho, hB, hl, ok, q⟩ := h
    refine ⟨_, (pss_cons (ps_asg (pe_tup (pa_cons (pe_call G_tops_in (hr.mono (by decide)) (by rfl) g_tops_in k_tops_in b_tops_in v_tops_in pass0 (pa_cons (pv 0) pa_nil)) (pa_cons pe_dnewK pa_nil))) (pg_tupK K (n := 2) rfl rfl (pgs_cons (pg_name (i := 2) sc_waits_in.nd rfl (Or.inr rfl)) (pgs_cons (pg_name (i := 3) sc_waits_in.nd rfl (Or.inl rfl)) pgs_nil))))
      (pss_cons (ps_for PassesOwn.never rfl (pi_list (pe_callB cr_sortedI (by rfl) m_sorted (by decide +kernel) (pa_cons (pv 0) pa_nil))) (pg_name (i := 4) sc_waits_in.nd rfl (Or.inr rfl)) (pss_cons (ps_asg (pe_call G_polls_around (hr.mono (by decide)) (by rfl) g_polls_around k_polls_around b_polls_around v_polls_around pass0 (pa_cons (pv 0) (pa_cons (pv 1) (pa_cons (pv 4) pa_nil)))) (pg_tupK K (n := 2) rfl rfl (pgs_cons (pg_name (i := 5) sc_waits_in.nd rfl (Or.inl rfl)) (pgs_cons (pg_name (i := 6) sc_waits_in.nd rfl (Or.inl rfl)) pgs_nil))))
          (pss_cons (ps_set (i := 7) sc_waits_in.nd rfl (Or.inl rfl) (pe_callB call_len_seq (by rfl) m_len (by decide +kernel) (pa_cons (pe_lc (own := [("moment", 8)]) (g := gName 8) rfl sc_waits_in.nd (pi_list (pv 5)) (blkOk_by (own := [("moment", 8)]) (N := ["order", "polls", "tops", "found", "row", "ahead", "behind", "passing", "moment"]) (sc := defScope s_waits_in) (by decide +kernel)) (fun _ _ _ _ _ => (pg_name (i := 8) sc_waits_in.nd rfl (Or.inl rfl))) (fun _ _ _ _ _ => (pts_one (pt_cmpR op_gt (pe_ix (ix_listK K rfl) (pv 2) (pv 8) (fun _ _ => rfl)) (pv 4) (nomark _)))) (fun _ _ _ _ _ => (pv 8))) pa_nil)))
          (pss_one (ps_if (pt_cmpR op_gt (pv 7) pe_int (nomark _)) (pss_one (ps_dput (hu_of hr) (pv 3) (pv 4) (pe_ifExp (pt_cmpR (op_neD hr.units) (pv 6) (pe_lst pa_nil) (nomark _)) (pv 7) pe_non) rfl)) pss_nil)))))
      (pss_one (ps_ret (pv 3))))), ?_⟩
    have hol := ho.len
    refine ⟨_, rfl, a, o, rfl, hA, by omega, fun H1 t s1 nt ht => ?_⟩
    refine fun d nd => ⟨by show 2 ≤ sizeLine; decide, fun U nU => ?_⟩
    refine ⟨U, _, rfl, SqT.of upd_same, rfl, _, _, rfl, _, [], rfl, rfl, ?_⟩
    have s2 : Same H (upd (upd H1 d (.dK [])) U (.tup [.ref t, .ref d])) := s1.trans ((same_upd nd).trans (same_upd nU))
    have ntd : t ≠ d := ne_of_none ht nd
    have ht2 : IL (upd (upd H1 d (.dK [])) U (.tup [.ref t, .ref d])) t (topsL o) := same_upd nU _ _ (same_upd nd _ _ ht)
    have hd2 : (upd (upd H1 d (.dK [])) U (.tup [.ref t, .ref d])) d = some (.dK []) := same_upd nU _ _ upd_same
    generalize upd (upd H1 d (.dK [])) U (.tup [.ref t, .ref d]) = H2 at s2 ht2 hd2
    refine ⟨_, rfl, a, o, rfl, SqL.of (s2 _ _ hA), fun ns p hp hs np => ?_⟩
    obtain rfl := Lat.srt_uniq hp hs
    have s3 : Same H2 (upd H2 p (.lst ((Lat.srt o).map V.int))) := same_upd np
    have hn := Lat.srt_nodup ho.nd
    refine ⟨p, rfl, ⟨_, SqL.of upd_same⟩, for_list (K := K) (a := p) (xs := (Lat.srt o).map V.int) (fun i σ H' => ∃ z1 z2 z3 z4, σ = [some (.ref a), some (.ref b), some (.ref t), some (.ref d), z1, z2, z3, z4, none] ∧ Same H H' ∧ IL H' t (topsL o) ∧ IL H' p (Lat.srt o) ∧
        H' d = some (.dK (rdict (fun r => vO (Lat.vW o ps r)) (((Lat.srt o).take i).filter fun r => decide (0 < Lat.dcnt o ps r)))))
      ⟨none, none, none, none, rfl, s2.trans s3, s3 _ _ ht2, upd_same, s3 _ _ hd2⟩
      (fun i σ H' _ ⟨_, _, _, _, _, _, _, h, _⟩ => SqL.of h) ?_ ?_⟩
    · rintro i y σ H' hy ⟨z1, z2, z3, z4, rfl, hs, hT, hP, hD⟩
      obtain ⟨v, hv, rfl⟩ := get_map hy
      have hvo : v ∈ o := Lat.mem_srt.mp (List.mem_of_getElem? hv)
      have hv1 := (ho.rng v hvo).1
      refine ⟨_, rfl, _, rfl, _, rfl, a, b, o, ps, v, rfl, hs _ _ hA, hs _ _ hB, by omega, hvo, fun H3 T c e s5 nT hTT hc he => ?_⟩
      refine ⟨T, _, rfl, SqT.of hTT, rfl, _, _, rfl, _, [], rfl, rfl, ?_⟩
      refine ⟨_, rfl, c, rfl, ⟨_, SqL.of hc⟩, fun x nx => ?_⟩
      have fs := filter_snoc (p := fun r => decide (0 < Lat.dcnt o ps r)) hv
      have hdl : d ≠ p := ne_of hD hP (by intro z; cases z)
      have hdt : d ≠ t := ne_of hD hT (by intro z; cases z)
      have hal : (Lat.ahead o ps v).length ≤ ps.length := List.length_filter_le _ _
      refine lc_list (K := K) (a := c) (xs := (Lat.ahead o ps v).map V.int) (fun j H4 => Same H3 H4 ∧ IL H4 x (((Lat.ahead o ps v).take j).filter fun m => decide (v < Lat.topAt o m))) ⟨same_upd nx, upd_same⟩ (fun j H4 _ h => SqL.of (h.1 _ _ hc)) (fun j y H4 hx h => ?_) (fun H4 h => ?_)
      · obtain ⟨m, hm, rfl⟩ := get_map hx
        have hm2 := ok.rng m ((Lat.ahead_ne _).mp (List.mem_of_getElem? hm)).1
        refine ⟨rfl, _, rfl, _, rfl, t, _, _, _, rfl, rfl, SqL.of (h.1 _ _ (s5 _ _ hT)), topsL_get hm2.1 hm2.2, _, rfl, _, _, rfl, rfl, _, rfl, ?_⟩
        have fj := filter_snoc (p := fun m => decide (v < Lat.topAt o m)) hm
        refine ite2 (fun e => ?_) (fun e => ?_)
        · refine ⟨_, rfl, _, h.2, filter_few _ _ _ (by omega), same_new nx h.1, ?_⟩
          show upd H4 x _ x = _
          rw [upd_same, fj, if_pos e, List.map_append]; rfl
        · refine ⟨h.1, ?_⟩
          rw [fj, if_neg e, List.append_nil]
          exact h.2
      · have e1 : ((Lat.ahead o ps v).map V.int).length = (Lat.ahead o ps v).length := List.length_map ..
        rw [e1, List.take_length] at h
        have e2 : (((Lat.ahead o ps v).filter fun m => decide (v < Lat.topAt o m)).map V.int).length = Lat.dcnt o ps v := List.length_map ..
        refine ⟨x, _, rfl, .inl (SqL.of h.2), ?_⟩
        rw [e2]
        have s6 := s5.trans h.1
        refine ⟨_, rfl, _, _, rfl, rfl, _, rfl, ite2 (fun hp => ?_) (fun hp => ?_)⟩
        · have hp : 0 < Lat.dcnt o ps v := by have := of_decide_eq_true hp; omega
          refine ⟨_, rfl, Nat.zero_le _, fun x2 nx2 => ?_⟩
          have s7 := same_upd (o := .lst []) nx2
          refine ne_ints (ms := []) (SqL.of (s7 _ _ (h.1 _ _ he))) (SqL.of upd_same) ⟨_, rfl, ?_⟩
          have s8 := s6.trans s7
          have fin : ∀ w : V, w = vO (Lat.vW o ps v) → ∃ a_1 H5, V.ref d = .ref a_1 ∧ DPut (upd H4 x2 (.lst [])) a_1 (.int v) w H5 ∧ ∃ z1 z2 z3 z4, ([some (.ref a), some (.ref b), some (.ref t), some (.ref d), some (.int v), some (.ref c), some (.ref e), some (.int (Lat.dcnt o ps v : Int)), none] : L2.St) = [some (.ref a), some (.ref b), some (.ref t), some (.ref d), z1, z2, z3, z4, none] ∧ Same H H5 ∧ IL H5 t (topsL o) ∧ IL H5 p (Lat.srt o) ∧
              H5 d = some (.dK (rdict (fun r => vO (Lat.vW o ps r)) (((Lat.srt o).take (i + 1)).filter fun r => decide (0 < Lat.dcnt o ps r)))) := by
            rintro w rfl
            refine ⟨d, _, rfl, DPut.k (k := Sum.inl v) (s8 _ _ hD) ?_, _, _, _, _, rfl, same_new (s1.free nd) (hs.trans s8), ?_, ?_, ?_⟩
            · rw [rdict_len]
              have h1 := List.length_filter_le (fun r => decide (0 < Lat.dcnt o ps r)) ((Lat.srt o).take i)
              have h2 : ((Lat.srt o).take i).length ≤ (Lat.srt o).length := List.length_take_le' _ _
              rw [Lat.srt_length] at h2
              exact small1000 (by omega)
            · show upd _ d _ t = _
              rw [upd_ne hdt.symm]; exact s8 _ _ hT
            · show upd _ d _ p = _
              rw [upd_ne hdl.symm]; exact s8 _ _ hP
            · rw [upd_same, fs, if_pos (decide_eq_true hp)]
              rw [put_rdict (f := fun r => vO (Lat.vW o ps r))]
              intro z
              exact not_ahead hn hv (List.mem_filter.mp z).1
          refine ite2 (fun hb => ?_) (fun hb => ?_)
          · have hb : Lat.behind o ps v ≠ [] := by simpa using hb
            refine ⟨_, rfl, _, rfl, _, rfl, fin _ ?_⟩
            unfold Lat.vW
            rw [if_pos hb]; rfl
          · have hb : Lat.behind o ps v = [] := by simpa using hb
            refine ⟨_, rfl, _, rfl, fin _ ?_⟩
            unfold Lat.vW
            rw [if_neg (by simpa using hb)]; rfl
        · have hp : ¬ 0 < Lat.dcnt o ps v := fun z => hp (decide_eq_true (by omega))
          refine ⟨_, _, _, _, rfl, hs.trans s6, s6 _ _ hT, s6 _ _ hP, ?_⟩
          rw [fs, if_neg (by simpa using hp), List.append_nil]
          exact s6 _ _ hD
    · rintro σ H' ⟨z1, z2, z3, z4, rfl, hs, _, _, hD⟩
      refine ⟨_, rfl, q H' d hs (s1.free nd) ?_⟩
      have e : ((Lat.srt o).map V.int).length = (Lat.srt o).length := List.length_map ..
      rw [e, List.take_length] at hD
      rw [Lat.plain_wait ho ok]
      exact hD
end
end K70
/-! #### K70A4 -/
set_option Elab.async false
set_option linter.all false
set_option maxRecDepth 100000
set_option maxHeartbeats 4000000
namespace K70
open PySem PySem.Spec PyProof.Rows L2
open Lat (OrdOk PollsOk)
section
variable {P : Program} {w : World} {K : PySem.W.Frag} {mg : Str → Option Value} {base : Heap}
theorem some_vals : ∀ vals : List (Option Int), (vals.filterMap id).map V.int = (vals.filter Option.isSome).map vO
  | [] => rfl
  | none :: r => some_vals r
  | some x :: r => by
    show V.int x :: (r.filterMap id).map V.int = vO (some x) :: (r.filter Option.isSome).map vO
    rw [some_vals r]; rfl
theorem fm_snoc {vals : List (Option Int)} {i : Nat} {v : Option Int} (h : vals[i]? = some v) : (vals.take (i + 1)).filterMap id = (vals.take i).filterMap id ++ v.toList := by
  rw [take_snoc h, List.filterMap_append]
  cases v <;> rfl
/-! ### least_margin -/
abbrev s_least_margin : Stmt := topS 25
theorem sc_least_margin : FnScope ["needed", "least", "most", "kept", "left", "margin"] ["needed", "least", "most"] (defScope s_least_margin) := ⟨rfl, rfl, rfl, by decide +kernel, rfl, by decide +kernel, by decide +kernel⟩
def sp_least_margin : Sp := fun vs H Q _ => ∃ (d : Addr) (kvs : List (Key × V)) (vals : List (Option Int)) (least most : Int), vs = [.ref d, .int least, .int most] ∧ H d = some (.dK kvs) ∧ kvs.map (·.2) = vals.map vO ∧ vals.length ≤ 60 ∧
  ∀ H', Same H H' → Q (vO (Lat.leastM vals least most)) H'
theorem cal_least_margin (T : Env mg) (At : AtN K mg "least_margin" s_least_margin) : Cal P w K mg base "least_margin" 1 ["needed", "least", "most"] [] sp_least_margin := by
  refine cal_mk At (fun F => F.binds (ps := ["needed", "least", "most"]) fun _ _ _ _ _ _ us hl => match us, hl with | [_, _, _], _ => rfl) fun F => ?_
  have m_len := T.m_len
  have m_max := T.m_max
  have m_sorted := T.m_sorted
  refine F.ok sc_least_margin (fun vs H Q E h => ?_) (fun cdv A outer s H vs Q E hr h => ?_)
  · obtain ⟨d, kvs, vals, least, most, rfl, hD, hv, hl, q⟩ := h
    rfl
  · obtain ⟨d, kvs, vals, least, most, rfl, hD, hv, hl, q⟩ := h
    refine ⟨_, (pss_cons (ps_set (i := 3) sc_least_margin.nd rfl (Or.inl rfl) (pe_callB cr_sortedI (by rfl) m_sorted (by decide +kernel) (pa_cons (pe_lock (pe_lc (own := [("margin", 5)]) (g := gName 5) rfl sc_least_margin.nd (pi_values (pv 0)) (blkOk_by (own := [("margin", 5)]) (N := ["needed", "least", "most", "kept", "left", "margin"]) (sc := defScope s_least_margin) (by decide +kernel)) (fun _ _ _ _ _ => (pg_name (i := 5) sc_least_margin.nd rfl (Or.inl rfl))) (fun _ _ _ _ _ => (pts_one (pt_cmpR op_notN (pv 5) pe_non (nomark _)))) (fun _ _ _ _ _ => (pv 5)))) pa_nil)))
      (pss_cons (ps_set (i := 4) sc_least_margin.nd rfl (Or.inl rfl) (pe_op op_sub (pv 2) (pe_op op_sub (pe_callB call_lenD (by rfl) m_len (by decide +kernel) (pa_cons (pv 0) pa_nil)) (pe_callB call_len_seq (by rfl) m_len (by decide +kernel) (pa_cons (pv 3) pa_nil)))))
      (pss_cons (ps_if (pt_cmpR op_lt (pv 4) pe_int (nomark _)) (pss_one (ps_ret pe_non)) pss_nil)
      (pss_one (ps_ret (pe_callB (cr_max rfl) (by rfl) m_max (by decide +kernel) (pa_cons (pe_op op_cat (pe_lst (pa_cons (pv 1) pa_nil)) (pe_slice sl_list (pv 3) po_none (po_some (pe_callB (call_max2 rfl) (by rfl) m_max (by decide +kernel) (pa_cons pe_int (pa_cons (pe_op op_sub (pe_callB call_len_seq (by rfl) m_len (by decide +kernel) (pa_cons (pv 3) pa_nil)) (pv 4)) pa_nil)))))) pa_nil))))))), ?_⟩
    have hlen : kvs.length = vals.length := by
      have := congrArg List.length hv
      rw [List.length_map, List.length_map] at this
      exact this
    refine ⟨d, _, hD, True.intro, fun od => ?_⟩
    refine ⟨_, rfl, d, od, kvs, rfl, upd_same, fun D nD => ?_⟩
    have s0 : Same (upd H d (.frz od (.dK kvs))) (upd (upd H d (.frz od (.dK kvs))) D (.lst [])) := same_upd nD
    have ndD : d ≠ D := ne_of_none upd_same nD
    refine lc_it (walk_values (d := d) (o := od) (kvs := kvs)) (fun i H' => Same (upd H d (.frz od (.dK kvs))) H' ∧ IL H' D ((vals.take i).filterMap id)) ⟨s0, upd_same⟩ (fun i H' _ h => h.1 _ _ upd_same) ?_ (fun H' h => ?_)
    · rintro i x H' H'' hi h ⟨rfl, k, hk⟩
      have hx : (vals.map vO)[i]? = some x := by rw [← hv, List.getElem?_map, hk]; rfl
      obtain ⟨v, hv2, rfl⟩ := get_map hx
      have fs := fm_snoc hv2
      refine ⟨rfl, _, rfl, rfl, _, rfl, ?_⟩
      cases v with
      | none =>
        refine iteF ⟨h.1, ?_⟩
        rw [fs]
        show IL H'' D ((vals.take i).filterMap id ++ [])
        rw [List.append_nil]; exact h.2
      | some v =>
        show if true = true then _ else _
        refine iteT ?_
        refine ⟨_, rfl, _, h.2, ?_, same_new nD h.1, ?_⟩
        · rw [List.length_map]
          have h1 := List.length_filterMap_le (f := (id : Option Int → Option Int)) (vals.take i)
          have h2 : (vals.take i).length ≤ vals.length := List.length_take_le' _ _
          exact small1000 (by omega)
        · show upd H'' D _ D = _
          rw [upd_same, fs, List.map_append]; rfl
    · rw [hlen, List.take_length] at h
      refine ⟨h.1 _ _ upd_same, ?_⟩
      have s1 : Same H (upd H' d (.dK kvs)) := same_unlock hD h.1
      have hDD : IL (upd H' d (.dK kvs)) D (vals.filterMap id) := by
        show upd H' d _ D = _
        rw [upd_ne ndD.symm]; exact h.2
      generalize upd H' d (.dK kvs) = H2 at s1 hDD
      refine ⟨D, _, rfl, SqL.of hDD, fun ns p hp hs np => ?_⟩
      obtain rfl := Lat.srt_uniq hp hs
      show tNext _ _ _
      have s2 := same_upd (o := .lst ((Lat.srt (vals.filterMap id)).map V.int)) np
      have hK : IL (upd H2 p (.lst ((Lat.srt (vals.filterMap id)).map V.int))) p (Lat.kept vals) := upd_same
      have s3 := s1.trans s2
      generalize upd H2 p (.lst ((Lat.srt (vals.filterMap id)).map V.int)) = H3 at s3 hK
      have hkl : ((Lat.kept vals).map V.int).length = (Lat.kept vals).length := List.length_map ..
      have hkle := Lat.kept_le vals
      refine ⟨_, rfl, _, rfl, d, kvs, rfl, s3 _ _ hD, _, rfl, p, _, rfl, .inl (SqL.of hK), _, _, rfl, rfl, _, _, rfl, rfl, ?_⟩
      rw [hkl, hlen]
      refine ⟨_, rfl, _, _, rfl, rfl, _, rfl, ite2 (fun e => ?_) (fun e => ?_)⟩
      · have e := of_decide_eq_true e
        have q1 := q H3 s3
        unfold Lat.leastM at q1
        rw [if_pos e] at q1
        exact q1
      · have e : ¬ (most - ((vals.length : Int) - ((Lat.kept vals).length : Int)) < 0) := fun z => e (decide_eq_true z)
        refine ⟨_, rfl, by show 1 ≤ sizeLine; decide, fun x nx => ?_⟩
        have s4 := same_upd (o := .lst [.int least]) nx
        refine ⟨_, rfl, _, rfl, p, _, rfl, .inl (SqL.of (s4 _ _ hK)), _, rfl, _, _, rfl, rfl, _, _, rfl, ?_⟩
        rw [hkl, max_if]
        refine ⟨_, rfl, p, _, rfl, SqL.of (s4 _ _ hK), fun y ny => ?_⟩
        rw [cut_take (by omega), ← List.map_take]
        have s5 := same_upd (o := .lst (((Lat.kept vals).take (max 0 (((Lat.kept vals).length : Int) - (most - ((vals.length : Int) - ((Lat.kept vals).length : Int))))).toNat).map V.int)) ny
        have hyl := List.length_take_le' (max 0 (((Lat.kept vals).length : Int) - (most - ((vals.length : Int) - ((Lat.kept vals).length : Int))))).toNat (Lat.kept vals)
        refine ⟨x, y, _, _, rfl, rfl, s5 _ _ upd_same, upd_same, ?_, fun z nz => ?_⟩
        · rw [List.length_map]
          exact small_line (by simp only [List.length_singleton]; omega)
        · refine ⟨z, least :: (Lat.kept vals).take (max 0 (((Lat.kept vals).length : Int) - (most - ((vals.length : Int) - ((Lat.kept vals).length : Int))))).toNat, rfl, SqL.of upd_same, Nat.succ_pos _, fun m hm hle => ?_⟩
          have q1 := q _ (((s3.trans s4).trans s5).trans (same_upd (o := .lst ([V.int least] ++ ((Lat.kept vals).take (max 0 (((Lat.kept vals).length : Int) - (most - ((vals.length : Int) - ((Lat.kept vals).length : Int))))).toNat).map V.int)) nz))
          unfold Lat.leastM at q1
          rw [if_neg e, ← Lat.mx_uniq hm hle] at q1
          exact q1
/-! ### require_most -/
abbrev s_require_most : Stmt := topS 26
theorem sc_require_most : FnScope ["most"] ["most"] (defScope s_require_most) := ⟨rfl, rfl, rfl, by decide +kernel, rfl, by decide +kernel, by decide +kernel⟩
def sp_require_most : Sp := fun vs H Q _ => ∃ (m : Int), vs = [.int m] ∧ 0 ≤ m ∧ Q .non H
theorem cal_require_most (T : Env mg) (At : AtN K mg "require_most" s_require_most) (C_is_integer2 : Cal P w K mg base "is_integer" 1 ["value", "least", "greatest"] [.non] sp_is_integer) : Cal P w K mg base "require_most" 2 ["most"] [] sp_require_most := by
  refine cal_mk At (fun F => F.binds (ps := ["most"]) fun _ _ _ _ _ _ us hl => match us, hl with | [_], _ => rfl) fun F => ?_
  obtain ⟨f_is_integer2, fd_is_integer2, d_is_integer2, G_is_integer2, g_is_integer2, k_is_integer2, b_is_integer2, v_is_integer2⟩ := C_is_integer2
  refine F.ok sc_require_most (fun vs H Q E h => ?_) (fun cdv A outer s H vs Q E hr h => ?_)
  · obtain ⟨m, rfl, h0, q⟩ := h
    rfl
  · obtain ⟨m, rfl, h0, q⟩ := h
    refine ⟨_, (pss_one (ps_if (pt_not (pt_val (pe_call G_is_integer2 (hr.mono (by decide)) (by rfl) g_is_integer2 k_is_integer2 b_is_integer2 v_is_integer2 pass0 (pa_cons (pv 0) (pa_cons pe_int pa_nil))))) (pss_one ps_never) pss_nil)), ?_⟩
    exact ⟨_, rfl, m, 0, _, rfl, h0, .inl rfl, _, rfl, iteF q⟩
/-! ### reaches -/
abbrev s_reaches : Stmt := topS 27
theorem sc_reaches : FnScope ["order", "polls"] ["order", "polls"] (defScope s_reaches) := ⟨rfl, rfl, rfl, by decide +kernel, rfl, by decide +kernel, by decide +kernel⟩
def sp_reaches : Sp := fun vs H Q _ => ∃ (a b : Addr) (o ps : List Int), vs = [.ref a, .ref b] ∧ IL H a o ∧ OrdOk o ∧ IL H b ps ∧ ps.length ≤ 30 ∧ PollsOk o.length ps ∧
  ∀ H' d, Same H H' → H d = none → H' d = some (.dK (rdict (fun r => vO (Lat.vR o ps r)) (Lat.lostL o ps 1 0))) → Q (.ref d) H'
theorem cal_reaches (T : Env mg) (At : AtN K mg "reaches" s_reaches) (C_require_order : Cal P w K mg base "require_order" 4 ["order"] [] sp_require_order) (C_require_polls : Cal P w K mg base "require_polls" 2 ["order", "polls"] [] sp_require_polls) (C_reaches_in : Cal P w K mg base "reaches_in" 2 ["order", "polls"] [] sp_reaches_in) : Cal P w K mg base "reaches" 5 ["order", "polls"] [] sp_reaches := by
  refine cal_mk At (fun F => F.binds (ps := ["order", "polls"]) fun _ _ _ _ _ _ us hl => match us, hl with | [_, _], _ => rfl) fun F => ?_
  obtain ⟨f_require_order, fd_require_order, d_require_order, G_require_order, g_require_order, k_require_order, b_require_order, v_require_order⟩ := C_require_order
  obtain ⟨f_require_polls, fd_require_polls, d_require_polls, G_require_polls, g_require_polls, k_require_polls, b_require_polls, v_require_polls⟩ := C_require_polls
  obtain ⟨f_reaches_in, fd_reaches_in, d_reaches_in, G_reaches_in, g_reaches_in, k_reaches_in, b_reaches_in, v_reaches_in⟩ := C_reaches_in
  refine F.ok sc_reaches (fun vs H Q E h => ?_) (fun cdv A outer s H vs Q E hr h => ?_)
  · obtain ⟨a, b, o, ps, rfl, hA, ho, hB, hl, ok, q⟩ := h
    rfl
  · obtain ⟨a, b, o, ps, rfl, hA, ho, hB, hl, ok, q⟩ := h
    refine ⟨_, (pss_cons (ps_expr (pe_call G_require_order (hr.mono (by decide)) (by rfl) g_require_order k_require_order b_require_order v_require_order pass0 (pa_cons (pv 0) pa_nil)))
      (pss_cons (ps_expr (pe_call G_require_polls (hr.mono (by decide)) (by rfl) g_require_polls k_require_polls b_require_polls v_require_polls pass0 (pa_cons (pv 0) (pa_cons (pv 1) pa_nil))))
      (pss_one (ps_ret (pe_call G_reaches_in (hr.mono (by decide)) (by rfl) g_reaches_in k_reaches_in b_reaches_in v_reaches_in pass0 (pa_cons (pv 0) (pa_cons (pv 1) pa_nil))))))), ?_⟩
    refine ⟨_, rfl, a, o, rfl, hA, ho, fun H1 s1 => ?_⟩
    refine ⟨_, rfl, _, rfl, a, b, o, ps, rfl, s1 _ _ hA, ho.len, s1 _ _ hB, hl, ok, ?_⟩
    exact ⟨_, rfl, _, rfl, a, b, o, ps, rfl, s1 _ _ hA, ho, s1 _ _ hB, hl, ok, fun H2 d s2 nd hd => q H2 d (s1.trans s2) (s1.free nd) hd⟩
/-! ### waits -/
abbrev s_waits : Stmt := topS 28
theorem sc_waits : FnScope ["order", "polls"] ["order", "polls"] (defScope s_waits) := ⟨rfl, rfl, rfl, by decide +kernel, rfl, by decide +kernel, by decide +kernel⟩
def sp_waits : Sp := fun vs H Q _ => ∃ (a b : Addr) (o ps : List Int), vs = [.ref a, .ref b] ∧ IL H a o ∧ OrdOk o ∧ IL H b ps ∧ ps.length ≤ 30 ∧ PollsOk o.length ps ∧
  ∀ H' d, Same H H' → H d = none → H' d = some (.dK (rdict (fun r => vO (Lat.vW o ps r)) (Lat.lostL o ps 1 0))) → Q (.ref d) H'
theorem cal_waits (T : Env mg) (At : AtN K mg "waits" s_waits) (C_require_order : Cal P w K mg base "require_order" 4 ["order"] [] sp_require_order) (C_require_polls : Cal P w K mg base "require_polls" 2 ["order", "polls"] [] sp_require_polls) (C_waits_in : Cal P w K mg base "waits_in" 2 ["order", "polls"] [] sp_waits_in) : Cal P w K mg base "waits" 5 ["order", "polls"] [] sp_waits := by
  refine cal_mk At (fun F => F.binds (ps := ["order", "polls"]) fun _ _ _ _ _ _ us hl => match us, hl with | [_, _], _ => rfl) fun F => ?_
  obtain ⟨f_require_order, fd_require_order, d_require_order, G_require_order, g_require_order, k_require_order, b_require_order, v_require_order⟩ := C_require_order
  obtain ⟨f_require_polls, fd_require_polls, d_require_polls, G_require_polls, g_require_polls, k_require_polls, b_require_polls, v_require_polls⟩ := C_require_polls
  obtain ⟨f_waits_in, fd_waits_in, d_waits_in, G_waits_in, g_waits_in, k_waits_in, b_waits_in, v_waits_in⟩ := C_waits_in
  refine F.ok sc_waits (fun vs H Q E h => ?_) (fun cdv A outer s H vs Q E hr h => ?_)
  · obtain ⟨a, b, o, ps, rfl, hA, ho, hB, hl, ok, q⟩ := h
    rfl
  · obtain ⟨a, b, o, ps, rfl, hA, ho, hB, hl, ok, q⟩ := h
    refine ⟨_, (pss_cons (ps_expr (pe_call G_require_order (hr.mono (by decide)) (by rfl) g_require_order k_require_order b_require_order v_require_order pass0 (pa_cons (pv 0) pa_nil)))
      (pss_cons (ps_expr (pe_call G_require_polls (hr.mono (by decide)) (by rfl) g_require_polls k_require_polls b_require_polls v_require_polls pass0 (pa_cons (pv 0) (pa_cons (pv 1) pa_nil))))
      (pss_one (ps_ret (pe_call G_waits_in (hr.mono (by decide)) (by rfl) g_waits_in k_waits_in b_waits_in v_waits_in pass0 (pa_cons (pv 0) (pa_cons (pv 1) pa_nil))))))), ?_⟩
    refine ⟨_, rfl, a, o, rfl, hA, ho, fun H1 s1 => ?_⟩
    refine ⟨_, rfl, _, rfl, a, b, o, ps, rfl, s1 _ _ hA, ho.len, s1 _ _ hB, hl, ok, ?_⟩
    exact ⟨_, rfl, _, rfl, a, b, o, ps, rfl, s1 _ _ hA, ho, s1 _ _ hB, hl, ok, fun H2 d s2 nd hd => q H2 d (s1.trans s2) (s1.free nd) hd⟩
theorem lost_few {o ps : List Int} {w k : Int} (ho : OrdOk o) : (Lat.lostL o ps w k).length ≤ 30 := by
  have h1 := List.length_filter_le (Lat.lostB o (Lat.runR o w k ps)) (Lat.srt o)
  rw [Lat.srt_length] at h1
  exact Nat.le_trans h1 ho.len
theorem rdict_vO (f : Int → Option Int) (L : List Int) : (rdict (fun r => vO (f r)) L).map (·.2) = (L.map f).map vO := by
  rw [rdict_vals, List.map_map]; rfl
/-! ### least_overlap -/
abbrev s_least_overlap : Stmt := topS 29
theorem sc_least_overlap : FnScope ["order", "polls", "most"] ["order", "polls", "most"] (defScope s_least_overlap) := ⟨rfl, rfl, rfl, by decide +kernel, rfl, by decide +kernel, by decide +kernel⟩
def sp_least_overlap : Sp := fun vs H Q _ => ∃ (a b : Addr) (o ps : List Int) (m : Int), vs = [.ref a, .ref b, .int m] ∧ IL H a o ∧ OrdOk o ∧ IL H b ps ∧ ps.length ≤ 30 ∧ PollsOk o.length ps ∧ 0 ≤ m ∧
  ∀ H', Same H H' → Q (vO (Lat.leastM ((Lat.lostL o ps 1 0).map (Lat.vR o ps)) 1 m)) H'
theorem cal_least_overlap (T : Env mg) (At : AtN K mg "least_overlap" s_least_overlap) (C_require_order : Cal P w K mg base "require_order" 4 ["order"] [] sp_require_order) (C_require_polls : Cal P w K mg base "require_polls" 2 ["order", "polls"] [] sp_require_polls) (C_require_most : Cal P w K mg base "require_most" 2 ["most"] [] sp_require_most) (C_least_margin : Cal P w K mg base "least_margin" 1 ["needed", "least", "most"] [] sp_least_margin) (C_reaches_in : Cal P w K mg base "reaches_in" 2 ["order", "polls"] [] sp_reaches_in) : Cal P w K mg base "least_overlap" 5 ["order", "polls", "most"] [] sp_least_overlap := by
  refine cal_mk At (fun F => F.binds (ps := ["order", "polls", "most"]) fun _ _ _ _ _ _ us hl => match us, hl with | [_, _, _], _ => rfl) fun F => ?_
  obtain ⟨f_require_order, fd_require_order, d_require_order, G_require_order, g_require_order, k_require_order, b_require_order, v_require_order⟩ := C_require_order
  obtain ⟨f_require_polls, fd_require_polls, d_require_polls, G_require_polls, g_require_polls, k_require_polls, b_require_polls, v_require_polls⟩ := C_require_polls
  obtain ⟨f_require_most, fd_require_most, d_require_most, G_require_most, g_require_most, k_require_most, b_require_most, v_require_most⟩ := C_require_most
  obtain ⟨f_least_margin, fd_least_margin, d_least_margin, G_least_margin, g_least_margin, k_least_margin, b_least_margin, v_least_margin⟩ := C_least_margin
  obtain ⟨f_reaches_in, fd_reaches_in, d_reaches_in, G_reaches_in, g_reaches_in, k_reaches_in, b_reaches_in, v_reaches_in⟩ := C_reaches_in
  refine F.ok sc_least_overlap (fun vs H Q E h => ?_) (fun cdv A outer s H vs Q E hr h => ?_)
  · obtain ⟨a, b, o, ps, m, rfl, hA, ho, hB, hl, ok, h0, q⟩ := h
    rfl
  · obtain ⟨a, b, o, ps, m, rfl, hA, ho, hB, hl, ok, h0, q⟩ := h
    refine ⟨_, (pss_cons (ps_expr (pe_call G_require_order (hr.mono (by decide)) (by rfl) g_require_order k_require_order b_require_order v_require_order pass0 (pa_cons (pv 0) pa_nil)))
      (pss_cons (ps_expr (pe_call G_require_polls (hr.mono (by decide)) (by rfl) g_require_polls k_require_polls b_require_polls v_require_polls pass0 (pa_cons (pv 0) (pa_cons (pv 1) pa_nil))))
      (pss_cons (ps_expr (pe_call G_require_most (hr.mono (by decide)) (by rfl) g_require_most k_require_most b_require_most v_require_most pass0 (pa_cons (pv 2) pa_nil)))
      (pss_one (ps_ret (pe_call G_least_margin (hr.mono (by decide)) (by rfl) g_least_margin k_least_margin b_least_margin v_least_margin pass0 (pa_cons (pe_call G_reaches_in (hr.mono (by decide)) (by rfl) g_reaches_in k_reaches_in b_reaches_in v_reaches_in pass0 (pa_cons (pv 0) (pa_cons (pv 1) pa_nil))) (pa_cons pe_int (pa_cons (pv 2) pa_nil))))))))), ?_⟩
    refine ⟨_, rfl, a, o, rfl, hA, ho, fun H1 s1 => ?_⟩
    refine ⟨_, rfl, _, rfl, a, b, o, ps, rfl, s1 _ _ hA, ho.len, s1 _ _ hB, hl, ok, ?_⟩
    refine ⟨_, rfl, m, rfl, h0, ?_⟩
    refine ⟨_, rfl, _, rfl, a, b, o, ps, rfl, s1 _ _ hA, ho, s1 _ _ hB, hl, ok, fun H2 d s2 nd hd => ?_⟩
    exact ⟨_, rfl, d, _, _, 1, m, rfl, hd, rdict_vO _ _, by rw [List.length_map]; have := lost_few (ps := ps) (w := 1) (k := 0) ho; omega, fun H3 s3 => q H3 ((s1.trans s2).trans s3)⟩
/-! ### least_wait -/
abbrev s_least_wait : Stmt := topS 30
theorem sc_least_wait : FnScope ["order", "polls", "most"] ["order", "polls", "most"] (defScope s_least_wait) := ⟨rfl, rfl, rfl, by decide +kernel, rfl, by decide +kernel, by decide +kernel⟩
def sp_least_wait : Sp := fun vs H Q _ => ∃ (a b : Addr) (o ps : List Int) (m : Int), vs = [.ref a, .ref b, .int m] ∧ IL H a o ∧ OrdOk o ∧ IL H b ps ∧ ps.length ≤ 30 ∧ PollsOk o.length ps ∧ 0 ≤ m ∧
  ∀ H', Same H H' → Q (vO (Lat.leastM ((Lat.lostL o ps 1 0).map (Lat.vW o ps)) 0 m)) H'
theorem cal_least_wait (T : Env mg) (At : AtN K mg "least_wait" s_least_wait) (C_require_order : Cal P w K mg base "require_order" 4 ["order"] [] sp_require_order) (C_require_polls : Cal P w K mg base "require_polls" 2 ["order", "polls"] [] sp_require_polls) (C_require_most : Cal P w K mg base "require_most" 2 ["most"] [] sp_require_most) (C_least_margin : Cal P w K mg base "least_margin" 1 ["needed", "least", "most"] [] sp_least_margin) (C_waits_in : Cal P w K mg base "waits_in" 2 ["order", "polls"] [] sp_waits_in) : Cal P w K mg base "least_wait" 5 ["order", "polls", "most"] [] sp_least_wait := by
  refine cal_mk At (fun F => F.binds (ps := ["order", "polls", "most"]) fun _ _ _ _ _ _ us hl => match us, hl with | [_, _, _], _ => rfl) fun F => ?_
  obtain ⟨f_require_order, fd_require_order, d_require_order, G_require_order, g_require_order, k_require_order, b_require_order, v_require_order⟩ := C_require_order
  obtain ⟨f_require_polls, fd_require_polls, d_require_polls, G_require_polls, g_require_polls, k_require_polls, b_require_polls, v_require_polls⟩ := C_require_polls
  obtain ⟨f_require_most, fd_require_most, d_require_most, G_require_most, g_require_most, k_require_most, b_require_most, v_require_most⟩ := C_require_most
  obtain ⟨f_least_margin, fd_least_margin, d_least_margin, G_least_margin, g_least_margin, k_least_margin, b_least_margin, v_least_margin⟩ := C_least_margin
  obtain ⟨f_waits_in, fd_waits_in, d_waits_in, G_waits_in, g_waits_in, k_waits_in, b_waits_in, v_waits_in⟩ := C_waits_in
  refine F.ok sc_least_wait (fun vs H Q E h => ?_) (fun cdv A outer s H vs Q E hr h => ?_)
  · obtain ⟨a, b, o, ps, m, rfl, hA, ho, hB, hl, ok, h0, q⟩ := h
    rfl
  · obtain ⟨a, b, o, ps, m, rfl, hA, ho, hB, hl, ok, h0, q⟩ := h
    refine ⟨_, (pss_cons (ps_expr (pe_call G_require_order (hr.mono (by decide)) (by rfl) g_require_order k_require_order b_require_order v_require_order pass0 (pa_cons (pv 0) pa_nil)))
      (pss_cons (ps_expr (pe_call G_require_polls (hr.mono (by decide)) (by rfl) g_require_polls k_require_polls b_require_polls v_require_polls pass0 (pa_cons (pv 0) (pa_cons (pv 1) pa_nil))))
      (pss_cons (ps_expr (pe_call G_require_most (hr.mono (by decide)) (by rfl) g_require_most k_require_most b_require_most v_require_most pass0 (pa_cons (pv 2) pa_nil)))
      (pss_one (ps_ret (pe_call G_least_margin (hr.mono (by decide)) (by rfl) g_least_margin k_least_margin b_least_margin v_least_margin pass0 (pa_cons (pe_call G_waits_in (hr.mono (by decide)) (by rfl) g_waits_in k_waits_in b_waits_in v_waits_in pass0 (pa_cons (pv 0) (pa_cons (pv 1) pa_nil))) (pa_cons pe_int (pa_cons (pv 2) pa_nil))))))))), ?_⟩
    refine ⟨_, rfl, a, o, rfl, hA, ho, fun H1 s1 => ?_⟩
    refine ⟨_, rfl, _, rfl, a, b, o, ps, rfl, s1 _ _ hA, ho.len, s1 _ _ hB, hl, ok, ?_⟩
    refine ⟨_, rfl, m, rfl, h0, ?_⟩
    refine ⟨_, rfl, _, rfl, a, b, o, ps, rfl, s1 _ _ hA, ho, s1 _ _ hB, hl, ok, fun H2 d s2 nd hd => ?_⟩
    exact ⟨_, rfl, d, _, _, 0, m, rfl, hd, rdict_vO _ _, by rw [List.length_map]; have := lost_few (ps := ps) (w := 1) (k := 0) ho; omega, fun H3 s3 => q H3 ((s1.trans s2).trans s3)⟩
/-! ### greatest_reach -/
abbrev s_greatest_reach : Stmt := topS 31
theorem sc_greatest_reach : FnScope ["order", "tops", "place", "row"] ["order"] (defScope s_greatest_reach) := ⟨rfl, rfl, rfl, by decide +kernel, rfl, by decide +kernel, by decide +kernel⟩
def sp_greatest_reach : Sp := fun vs H Q _ => ∃ (a : Addr) (o : List Int), vs = [.ref a] ∧ IL H a o ∧ OrdOk o ∧ ∀ H', Same H H' → Q (.int (Lat.greatest o)) H'
theorem reach_succ {o : List Int} {i : Nat} {x : Int} (h : o[i]? = some x) : ((List.range (i + 1)).map fun i : Nat => Lat.topAt o (i : Int) - o.getD i 0 + 1) = ((List.range i).map fun i : Nat => Lat.topAt o (i : Int) - o.getD i 0 + 1) ++ [Lat.topAt o (i : Int) - x + 1] := by
  rw [List.range_succ, List.map_append]
  congr 1
  show [Lat.topAt o (i : Int) - o.getD i 0 + 1] = _
  rw [List.getD_eq_getElem?_getD, h]; rfl
theorem cal_greatest_reach (T : Env mg) (At : AtN K mg "greatest_reach" s_greatest_reach) (C_require_order : Cal P w K mg base "require_order" 4 ["order"] [] sp_require_order) (C_tops_in : Cal P w K mg base "tops_in" 1 ["order"] [] sp_tops_in) : Cal P w K mg base "greatest_reach" 5 ["order"] [] sp_greatest_reach := by
  refine cal_mk At (fun F => F.binds (ps := ["order"]) fun _ _ _ _ _ _ us hl => match us, hl with | [_], _ => rfl) fun F => ?_
  obtain ⟨f_require_order, fd_require_order, d_require_order, G_require_order, g_require_order, k_require_order, b_require_order, v_require_order⟩ := C_require_order
  obtain ⟨f_tops_in, fd_tops_in, d_tops_in, G_tops_in, g_tops_in, k_tops_in, b_tops_in, v_tops_in⟩ := C_tops_in
  have m_enumerate := T.m_enumerate
  have m_max := T.m_max
  refine F.ok sc_greatest_reach (fun vs H Q E h => ?_) (fun cdv A outer s H vs Q E hr h => ?_)
  · obtain ⟨a, o, rfl, hA, ho, q⟩ := h
    rfl
  · obtain ⟨a, o, rfl, hA, ho, q⟩ := h
    refine ⟨_, (pss_cons (ps_expr (pe_call G_require_order (hr.mono (by decide)) (by rfl) g_require_order k_require_order b_require_order v_require_order pass0 (pa_cons (pv 0) pa_nil)))
      (pss_cons (ps_set (i := 1) sc_greatest_reach.nd rfl (Or.inr rfl) (pe_call G_tops_in (hr.mono (by decide)) (by rfl) g_tops_in k_tops_in b_tops_in v_tops_in pass0 (pa_cons (pv 0) pa_nil)))
      (pss_one (ps_ret (pe_callB (cr_max rfl) (by rfl) m_max (by decide +kernel) (pa_cons (pe_op op_cat (pe_lst (pa_cons pe_int pa_nil)) (pe_lc (own := [("place", 2), ("row", 3)]) (tt := tYes) rfl sc_greatest_reach.nd (pi_enum (by rfl) m_enumerate (pa_cons (pv 0) pa_nil)) (blkOk_by (own := [("place", 2), ("row", 3)]) (N := ["order", "tops", "place", "row"]) (sc := defScope s_greatest_reach) (by decide +kernel)) (fun _ _ _ _ _ => (pg_tupK K (n := 2) rfl rfl (pgs_cons (pg_name (i := 2) sc_greatest_reach.nd rfl (Or.inl rfl)) (pgs_cons (pg_name (i := 3) sc_greatest_reach.nd rfl (Or.inl rfl)) pgs_nil)))) (fun _ _ _ _ _ => pts_nil) (fun _ _ _ _ _ => (pe_op op_add (pe_op op_sub (pe_ix (ix_listK K rfl) (pv 1) (pv 2) (fun _ _ => rfl)) (pv 3)) pe_int)))) pa_nil)))))), ?_⟩
    have hl := ho.len
    refine ⟨_, rfl, a, o, rfl, hA, ho, fun H1 s1 => ?_⟩
    refine ⟨_, rfl, a, o, rfl, s1 _ _ hA, by omega, fun H2 t s2 nt ht => ?_⟩
    have s12 := s1.trans s2
    refine ⟨by show 1 ≤ sizeLine; decide, fun x nx => ?_⟩
    have s3 := same_upd (o := .lst [.int 1]) nx
    refine ⟨_, rfl, a, _, rfl, SqL.of (s3 _ _ (s12 _ _ hA)), fun D nD => ?_⟩
    have s4 := same_upd (o := .lst []) nD
    refine lc_it (walk_enum (K := K) (a := a) (xs := o.map V.int)) (fun i H' => Same (upd H2 x (.lst [.int 1])) H' ∧ IL H' D ((List.range i).map fun i : Nat => Lat.topAt o (i : Int) - o.getD i 0 + 1)) ⟨s4, upd_same⟩ (fun i H' _ h => SqL.of (h.1 _ _ (s3 _ _ (s12 _ _ hA)))) ?_ (fun H' h => ?_)
    · rintro i y H' H'' hi h ⟨T, y1, y2, rfl, nT, rfl, e1, e2⟩
      obtain rfl := (Option.some.inj e1).symm
      obtain ⟨v, hv, rfl⟩ := get_map e2
      rw [List.length_map] at hi
      have s5 := same_upd (o := .tup [.int (i : Nat), .int v]) nT
      refine ⟨T, _, rfl, SqT.of upd_same, rfl, _, _, rfl, _, [], rfl, rfl, rfl, yes (iteT ?_)⟩
      refine ⟨_, rfl, _, rfl, t, _, _, _, rfl, rfl, SqL.of (s5 _ _ (h.1 _ _ (s3 _ _ ht))), topsL_get (by omega) (by omega), _, rfl, _, _, rfl, rfl, _, _, rfl, rfl, ?_⟩
      refine ⟨_, s5 _ _ h.2, ?_, same_new nD (h.1.trans s5), ?_⟩
      · rw [List.length_map, List.length_map, List.length_range]
        exact small1000 (by omega)
      · show upd _ D _ D = _
        rw [upd_same, reach_succ hv, List.map_append]; rfl
    · rw [List.length_map] at h
      refine ⟨x, D, _, _, rfl, rfl, h.1 _ _ upd_same, h.2, ?_, fun z nz => ?_⟩
      · rw [List.length_map, List.length_map, List.length_range]
        exact small_line (by simp only [List.length_singleton]; omega)
      · refine ⟨z, 1 :: Lat.reachL o, rfl, SqL.of upd_same, Nat.succ_pos _, fun m hm hle => ?_⟩
        have q1 := q _ (((s12.trans s3).trans h.1).trans (same_upd (o := .lst ([V.int 1] ++ (((List.range o.length).map fun i : Nat => Lat.topAt o (i : Int) - o.getD i 0 + 1).map V.int))) nz))
        unfold Lat.greatest at q1
        rw [← Lat.mx_uniq hm hle] at q1
        exact q1
end
end K70
/-! #### K70A5 -/
set_option Elab.async false
set_option linter.all false
set_option maxRecDepth 100000
set_option maxHeartbeats 4000000
namespace K70
open PySem PySem.Spec PyProof.Rows L2
open Lat (OrdOk PollsOk)
section
variable {P : Program} {w : World} {K : PySem.W.Frag} {mg : Str → Option Value} {base : Heap}
/-- an event whose id is one -/
def evGood : Lat.Ev → Prop
  | .b => True
  | .c i => 1 ≤ i
  | .r i => 1 ≤ i
theorem s_bb : decide (V.str "begin" = V.str "begin") = true := by decide +kernel
theorem s_cb : decide (V.str "commit" = V.str "begin") = false := by decide +kernel
theorem s_rb : decide (V.str "rollback" = V.str "begin") = false := by decide +kernel
theorem s_cc : decide (V.str "commit" = V.str "commit") = true := by decide +kernel
theorem s_bc : decide (V.str "begin" = V.str "commit") = false := by decide +kernel
theorem s_rc : decide (V.str "rollback" = V.str "commit") = false := by decide +kernel
theorem s_inc : inV (.str "commit") [.str "commit", .str "rollback"] = true := by decide +kernel
theorem s_inr : inV (.str "rollback") [.str "commit", .str "rollback"] = true := by decide +kernel
/-! ### is_event -/
abbrev s_is_event : Stmt := topS 37
theorem sc_is_event : FnScope ["value"] ["value"] (defScope s_is_event) := ⟨rfl, rfl, rfl, by decide +kernel, rfl, by decide +kernel, by decide +kernel⟩
def sp_is_event : Sp := fun vs H Q _ => ∃ (t : Addr) (e : Lat.Ev), vs = [.ref t] ∧ H t = some (.tup (evT e)) ∧ evGood e ∧ Ret H Q (.bl true)
theorem cal_is_event (T : Env mg) (At : AtN K mg "is_event" s_is_event) (C_is_integer2 : Cal P w K mg base "is_integer" 1 ["value", "least", "greatest"] [.non] sp_is_integer) : Cal P w K mg base "is_event" 2 ["value"] [] sp_is_event := by
  refine cal_mk At (fun F => F.binds (ps := ["value"]) fun _ _ _ _ _ _ us hl => match us, hl with | [_], _ => rfl) fun F => ?_
  obtain ⟨f_is_integer2, fd_is_integer2, d_is_integer2, G_is_integer2, g_is_integer2, k_is_integer2, b_is_integer2, v_is_integer2⟩ := C_is_integer2
  obtain ⟨t_BEGIN, c_BEGIN⟩ := T.c_BEGIN
  obtain ⟨t_COMMIT, c_COMMIT⟩ := T.c_COMMIT
  obtain ⟨t_ROLLBACK, c_ROLLBACK⟩ := T.c_ROLLBACK
  have m_isinstance := T.m_isinstance
  have m_len := T.m_len
  have m_str := T.m_str
  have m_tuple := T.m_tuple
  refine F.ok sc_is_event (fun vs H Q E h => ?_) (fun cdv A outer s H vs Q E hr h => ?_)
  · obtain ⟨t, e, rfl, hT, he, q⟩ := h
    rfl
  · obtain ⟨t, e, rfl, hT, he, q⟩ := h
    refine ⟨_, (pss_cons (ps_if (PW.pt (pw_or (pt_not (pt_val (pe_callB call_isi (by rfl) m_isinstance (by decide +kernel) (pa_cons (pv 0) (pa_cons (pe_bltn (v := .ty "tuple") (by rfl) m_tuple (by decide +kernel) rfl) pa_nil))))) (pw_or (pt_cmpR (op_eqD hr.units) (pv 0) (pe_tup pa_nil) (nomark _)) (pw_or1 (pt_not (pt_val (pe_callB call_isi (by rfl) m_isinstance (by decide +kernel) (pa_cons (pe_ix (ix_tupK K rfl) (pv 0) pe_int (fun _ _ => rfl)) (pa_cons (pe_bltn (v := .ty "str") (by rfl) m_str (by decide +kernel) rfl) pa_nil))))))))) (pss_one (ps_ret pe_bl)) pss_nil)
      (pss_cons (ps_if (pt_cmpR op_eq (pe_ix (ix_tupK K rfl) (pv 0) pe_int (fun _ _ => rfl)) (pe_glob (v := .str "begin") (by rfl) c_BEGIN ⟨_, rfl⟩) (nomark _)) (pss_one (ps_ret (pe_cmpR op_eq (pe_callB call_len_seq (by rfl) m_len (by decide +kernel) (pa_cons (pv 0) pa_nil)) pe_int (nomark _)))) pss_nil)
      (pss_one (ps_ret (pe_and (pe_cmpR (op_inK K rfl) (pe_ix (ix_tupK K rfl) (pv 0) pe_int (fun _ _ => rfl)) (pe_tup (pa_cons (pe_glob (v := .str "commit") (by rfl) c_COMMIT ⟨_, rfl⟩) (pa_cons (pe_glob (v := .str "rollback") (by rfl) c_ROLLBACK ⟨_, rfl⟩) pa_nil))) (by rfl)) (pe_and (pe_cmpR op_eq (pe_callB call_len_seq (by rfl) m_len (by decide +kernel) (pa_cons (pv 0) pa_nil)) pe_int (nomark _)) (pe_one (pe_call G_is_integer2 (hr.mono (by decide)) (by rfl) g_is_integer2 k_is_integer2 b_is_integer2 v_is_integer2 pass0 (pa_cons (pe_ix (ix_tupK K rfl) (pv 0) pe_int (fun _ _ => rfl)) (pa_cons pe_int pa_nil)))))))))), ?_⟩
    refine ⟨_, rfl, _, _, _, _, true, rfl, .ty "tuple", .base (.tup hT), kit_ty (by decide +kernel), _, rfl, iteF ?_⟩
    refine ⟨_, rfl, Nat.zero_le _, fun x nx => ?_⟩
    have s1 := same_upd (o := .tup []) nx
    have hT1 := s1 _ _ hT
    refine ⟨_, _, .tup (SqT.of hT1) (dp_ev K _ e), .tup (SqT.of upd_same) .nil, shaped_ev e, rfl, ?_⟩
    rw [eqv_ev]
    refine ⟨_, rfl, iteF ?_⟩
    generalize upd H x (.tup []) = H1 at s1 hT1
    cases e with
    | b =>
      refine ⟨_, rfl, t, _, _, .str "begin", rfl, rfl, SqT.of hT1, atI_nat (j := 0) rfl, _, _, _, _, true, rfl, .ty "str", .base (.str _), kit_ty (by decide +kernel), _, rfl, iteF ?_⟩
      refine ⟨_, rfl, t, _, _, .str "begin", rfl, rfl, SqT.of hT1, atI_nat (j := 0) rfl, rfl, _, rfl, ?_⟩
      rw [s_bb]
      refine iteT ?_
      exact ⟨_, rfl, t, _, rfl, .inr (SqT.of hT1), rfl, q H1 s1⟩
    | c i =>
      refine ⟨_, rfl, t, _, _, .str "commit", rfl, rfl, SqT.of hT1, atI_nat (j := 0) rfl, _, _, _, _, true, rfl, .ty "str", .base (.str _), kit_ty (by decide +kernel), _, rfl, iteF ?_⟩
      refine ⟨_, rfl, t, _, _, .str "commit", rfl, rfl, SqT.of hT1, atI_nat (j := 0) rfl, rfl, _, rfl, ?_⟩
      rw [s_cb]
      refine iteF ?_
      refine ⟨_, rfl, t, _, _, .str "commit", rfl, rfl, SqT.of hT1, atI_nat (j := 0) rfl, by show 2 ≤ sizeLine; decide, fun y ny => ?_⟩
      have s2 := same_upd (o := .tup [.str "commit", .str "rollback"]) ny
      refine ⟨y, _, rfl, .inr (SqT.of upd_same), rfl, rfl, _, congrArg V.bl s_inc, iteT ?_⟩
      refine ⟨_, rfl, t, _, rfl, .inr (SqT.of (s2 _ _ hT1)), rfl, _, rfl, iteT ?_⟩
      exact ⟨_, rfl, t, _, _, .int i, rfl, rfl, SqT.of (s2 _ _ hT1), atI_nat (j := 1) rfl, i, 1, _, rfl, he, .inl rfl, q _ (s1.trans s2)⟩
    | r i =>
      refine ⟨_, rfl, t, _, _, .str "rollback", rfl, rfl, SqT.of hT1, atI_nat (j := 0) rfl, _, _, _, _, true, rfl, .ty "str", .base (.str _), kit_ty (by decide +kernel), _, rfl, iteF ?_⟩
      refine ⟨_, rfl, t, _, _, .str "rollback", rfl, rfl, SqT.of hT1, atI_nat (j := 0) rfl, rfl, _, rfl, ?_⟩
      rw [s_rb]
      refine iteF ?_
      refine ⟨_, rfl, t, _, _, .str "rollback", rfl, rfl, SqT.of hT1, atI_nat (j := 0) rfl, by show 2 ≤ sizeLine; decide, fun y ny => ?_⟩
      have s2 := same_upd (o := .tup [.str "commit", .str "rollback"]) ny
      refine ⟨y, _, rfl, .inr (SqT.of upd_same), rfl, rfl, _, congrArg V.bl s_inr, iteT ?_⟩
      refine ⟨_, rfl, t, _, rfl, .inr (SqT.of (s2 _ _ hT1)), rfl, _, rfl, iteT ?_⟩
      exact ⟨_, rfl, t, _, _, .int i, rfl, rfl, SqT.of (s2 _ _ hT1), atI_nat (j := 1) rfl, i, 1, _, rfl, he, .inl rfl, q _ (s1.trans s2)⟩
/-! ### open_behind -/
abbrev s_open_behind : Stmt := topS 38
theorem sc_open_behind : FnScope ["events", "begun", "found", "event"] ["events"] (defScope s_open_behind) := ⟨rfl, rfl, rfl, by decide +kernel, rfl, by decide +kernel, by decide +kernel⟩
def sp_open_behind : Sp := fun vs H Q _ => ∃ (h : Addr) (evs : List Lat.Ev) (u : Int × List Int), vs = [.ref h] ∧ HisAt H h evs ∧ evs.length ≤ 60 ∧ Lat.runH evs (0, []) = some u ∧ ∀ H' p, Same H H' → Q (.ref p) H'
theorem cal_open_behind (T : Env mg) (At : AtN K mg "open_behind" s_open_behind) : Cal P w K mg base "open_behind" 1 ["events"] [] sp_open_behind := by
  refine cal_mk At (fun F => F.binds (ps := ["events"]) fun _ _ _ _ _ _ us hl => match us, hl with | [_], _ => rfl) fun F => ?_
  obtain ⟨t_BEGIN, c_BEGIN⟩ := T.c_BEGIN
  refine F.ok sc_open_behind (fun vs H Q E h => ?_) (fun cdv A outer s H vs Q E hr h => ?_)
  · obtain ⟨h, evs, u, rfl, hA, hl, hu, q⟩ := h
    rfl
  · obtain ⟨h, evs, u, rfl, hA, hl, hu, q⟩ := h
    refine ⟨_, (pss_cons (ps_set (i := 1) sc_open_behind.nd rfl (Or.inl rfl) pe_int)
      (pss_cons (ps_set (i := 2) sc_open_behind.nd rfl (Or.inl rfl) pe_dnewK)
      (pss_cons (ps_for PassesOwn.never rfl (pi_list (pv 0)) (pg_name (i := 3) sc_open_behind.nd rfl (Or.inl rfl)) (pss_one (ps_if (pt_cmpR op_eq (pe_ix (ix_tupK K rfl) (pv 3) pe_int (fun _ _ => rfl)) (pe_glob (v := .str "begin") (by rfl) c_BEGIN ⟨_, rfl⟩) (nomark _)) (pss_cons (ps_aug (i := 1) sc_open_behind.nd rfl (Or.inl rfl) pe_int ip_add)
              (pss_one (ps_dput (hu_of hr) (pv 2) (pv 1) pe_bl rfl))) (pss_one (ps_if (pt_cmp (pc_din (hu_of hr) (pe_ix (ix_tupK K rfl) (pv 3) pe_int (fun _ _ => rfl)) (pv 2))) (pss_one (ps_ddel (pv 2) (pe_ix (ix_tupK K rfl) (pv 3) pe_int (fun _ _ => rfl)))) (pss_one (ps_ret pe_non)))))))
      (pss_one (ps_ret (pe_tup (pa_cons (pv 1) (pa_cons (pv 2) pa_nil)))))))), ?_⟩
    intro d nd
    have s1 : Same H (upd H d (.dK [])) := same_upd nd
    obtain ⟨ts, hts, hlen, hev⟩ := hA
    refine ⟨_, rfl, h, rfl, ⟨_, SqL.of (s1 _ _ hts)⟩, for_list (K := K) (a := h) (xs := ts.map V.ref) (fun i σ H' => ∃ b l z, σ = [some (.ref h), some (.int b), some (.ref d), z] ∧ Same H H' ∧ Lat.runH (evs.take i) (0, []) = some (b, l) ∧ H' d = some (.dK (openD l)))
      ⟨0, [], none, rfl, s1, rfl, upd_same⟩ (fun i σ H' _ ⟨_, _, _, _, hs, _⟩ => SqL.of (hs _ _ hts)) ?_ ?_⟩
    · rintro i y σ H' hy ⟨b, l, z, rfl, hs, hrun, hD⟩
      obtain ⟨t, ht, rfl⟩ := get_map hy
      have hi : i < evs.length := by rw [← hlen]; exact (List.getElem?_eq_some_iff.mp ht).1
      obtain ⟨e, he⟩ : ∃ e, evs[i]? = some e := ⟨evs[i], List.getElem?_eq_getElem hi⟩
      have hT := hs _ _ (hev i t e ht he)
      obtain ⟨b0, l0, b1, l1, h1, h2, h3⟩ := runH_step hu he
      rw [hrun] at h1
      have e1 := Option.some.inj h1
      obtain rfl : b = b0 := congrArg Prod.fst e1
      obtain rfl : l = l0 := congrArg Prod.snd e1
      have ok := Lat.his_ok _ _ _ hrun
      have hll : l.length ≤ 60 := by
        have a1 := ok.few
        have a2 := ok.len
        have a3 : (evs.take i).length ≤ evs.length := List.length_take_le' _ _
        omega
      cases e with
      | b =>
        refine ⟨_, rfl, t, _, _, .str "begin", rfl, rfl, SqT.of hT, atI_nat (j := 0) rfl, rfl, _, rfl, ?_⟩
        rw [s_bb]
        refine iteT ?_
        refine ⟨_, rfl, _, _, rfl, rfl, ?_⟩
        refine ⟨_, rfl, _, rfl, d, _, rfl, DPut.k (k := Sum.inl (b + 1)) hD ?_, ?_⟩
        · rw [rdict_len]; exact small1000 (by omega)
        · have h3 : some (b + 1, l ++ [b + 1]) = some (b1, l1) := h3
          have e3 := Option.some.inj h3
          obtain rfl : b + 1 = b1 := congrArg Prod.fst e3
          obtain rfl : l ++ [b + 1] = l1 := congrArg Prod.snd e3
          refine ⟨b + 1, l ++ [b + 1], _, rfl, same_new nd hs, h2, ?_⟩
          rw [upd_same]
          have e4 := put_rdict (f := fun _ => V.bl true) (L := l) (r := b + 1) (fun z => by have := (ok.rng _ z).2; omega)
          rw [e4]
      | c i2 =>
        have h3 : (if i2 ∈ l then some (b, l.erase i2) else none) = some (b1, l1) := h3
        by_cases hm : i2 ∈ l
        · rw [if_pos hm] at h3
          have e3 := Option.some.inj h3
          obtain rfl : b = b1 := congrArg Prod.fst e3
          obtain rfl : l.erase i2 = l1 := congrArg Prod.snd e3
          refine ⟨_, rfl, t, _, _, .str "commit", rfl, rfl, SqT.of hT, atI_nat (j := 0) rfl, rfl, _, rfl, ?_⟩
          rw [s_cb]
          refine iteF ?_
          refine ⟨_, rfl, t, _, _, .int i2, rfl, rfl, SqT.of hT, atI_nat (j := 1) rfl, _, rfl, d, _, rfl, DGet.k (k := Sum.inl i2) hD, _, rfl, ?_⟩
          rw [valV_rdict, if_pos hm]
          refine iteT ?_
          refine ⟨_, rfl, _, rfl, t, _, _, .int i2, rfl, rfl, SqT.of hT, atI_nat (j := 1) rfl, d, _, Sum.inl i2, rfl, hD, rfl, by rw [valV_rdict, if_pos hm]; rfl, ?_⟩
          exact ⟨b, l.erase i2, _, rfl, same_new nd hs, h2, by rw [upd_same, drop_open ok.nd]⟩
        · rw [if_neg hm] at h3; cases h3
      | r i2 =>
        have h3 : (if i2 ∈ l then some (b, l.erase i2) else none) = some (b1, l1) := h3
        by_cases hm : i2 ∈ l
        · rw [if_pos hm] at h3
          have e3 := Option.some.inj h3
          obtain rfl : b = b1 := congrArg Prod.fst e3
          obtain rfl : l.erase i2 = l1 := congrArg Prod.snd e3
          refine ⟨_, rfl, t, _, _, .str "rollback", rfl, rfl, SqT.of hT, atI_nat (j := 0) rfl, rfl, _, rfl, ?_⟩
          rw [s_rb]
          refine iteF ?_
          refine ⟨_, rfl, t, _, _, .int i2, rfl, rfl, SqT.of hT, atI_nat (j := 1) rfl, _, rfl, d, _, rfl, DGet.k (k := Sum.inl i2) hD, _, rfl, ?_⟩
          rw [valV_rdict, if_pos hm]
          refine iteT ?_
          refine ⟨_, rfl, _, rfl, t, _, _, .int i2, rfl, rfl, SqT.of hT, atI_nat (j := 1) rfl, d, _, Sum.inl i2, rfl, hD, rfl, by rw [valV_rdict, if_pos hm]; rfl, ?_⟩
          exact ⟨b, l.erase i2, _, rfl, same_new nd hs, h2, by rw [upd_same, drop_open ok.nd]⟩
        · rw [if_neg hm] at h3; cases h3
    · rintro σ H' ⟨b, l, z, rfl, hs, _, _⟩
      refine ⟨_, rfl, _, rfl, by show 2 ≤ sizeLine; decide, fun p np => ?_⟩
      exact q _ p (hs.trans (same_upd np))
/-! ### is_history -/
abbrev s_is_history : Stmt := topS 39
theorem sc_is_history : FnScope ["value", "event"] ["value"] (defScope s_is_history) := ⟨rfl, rfl, rfl, by decide +kernel, rfl, by decide +kernel, by decide +kernel⟩
def sp_is_history : Sp := fun vs H Q _ => ∃ (h : Addr) (evs : List Lat.Ev) (u : Int × List Int), vs = [.ref h] ∧ HisAt H h evs ∧ evs.length ≤ 60 ∧ Lat.runH evs (0, []) = some u ∧ Ret H Q (.bl true)
theorem cal_is_history (T : Env mg) (At : AtN K mg "is_history" s_is_history) (C_open_behind : Cal P w K mg base "open_behind" 1 ["events"] [] sp_open_behind) (C_is_event : Cal P w K mg base "is_event" 2 ["value"] [] sp_is_event) : Cal P w K mg base "is_history" 3 ["value"] [] sp_is_history := by
  refine cal_mk At (fun F => F.binds (ps := ["value"]) fun _ _ _ _ _ _ us hl => match us, hl with | [_], _ => rfl) fun F => ?_
  obtain ⟨f_open_behind, fd_open_behind, d_open_behind, G_open_behind, g_open_behind, k_open_behind, b_open_behind, v_open_behind⟩ := C_open_behind
  obtain ⟨f_is_event, fd_is_event, d_is_event, G_is_event, g_is_event, k_is_event, b_is_event, v_is_event⟩ := C_is_event
  obtain ⟨t_MOST_EVENTS, c_MOST_EVENTS⟩ := T.c_MOST_EVENTS
  have m_all := T.m_all
  have m_isinstance := T.m_isinstance
  have m_len := T.m_len
  have m_list := T.m_list
  refine F.ok sc_is_history (fun vs H Q E h => ?_) (fun cdv A outer s H vs Q E hr h => ?_)
  · obtain ⟨h, evs, u, rfl, hA, hl, hu, q⟩ := h
    rfl
  · obtain ⟨h, evs, u, rfl, hA, hl, hu, q⟩ := h
    refine ⟨_, (pss_cons (ps_if (PW.pt (pw_or (pt_not (pt_val (pe_callB call_isi (by rfl) m_isinstance (by decide +kernel) (pa_cons (pv 0) (pa_cons (pe_bltn (v := .ty "list") (by rfl) m_list (by decide +kernel) rfl) pa_nil))))) (pw_or (pt_cmpR op_gt (pe_callB call_len_seq (by rfl) m_len (by decide +kernel) (pa_cons (pv 0) pa_nil)) (pe_glob (v := .int 60) (by rfl) c_MOST_EVENTS ⟨_, rfl⟩) (nomark _)) (pw_or1 (pt_not (pt_val (pe_callB (cr_all rfl) (by rfl) m_all (by decide +kernel) (pa_cons (pe_lc (own := [("event", 1)]) (g := gName 1) (tt := tYes) rfl sc_is_history.nd (pi_list (pv 0)) (blkOk_by (own := [("event", 1)]) (N := ["value", "event"]) (sc := defScope s_is_history) (by decide +kernel)) (fun _ _ _ _ _ => (pg_name (i := 1) sc_is_history.nd rfl (Or.inl rfl))) (fun _ _ _ _ _ => pts_nil) (fun _ _ _ _ _ => (pe_call G_is_event (hr.mono (by decide)) (by rfl) g_is_event k_is_event b_is_event v_is_event pass0 (pa_cons (pv 1) pa_nil)))) pa_nil)))))))) (pss_one (ps_ret pe_bl)) pss_nil)
      (pss_one (ps_ret (pe_cmpR op_notN (pe_call G_open_behind (hr.mono (by decide)) (by rfl) g_open_behind k_open_behind b_open_behind v_open_behind pass0 (pa_cons (pv 0) pa_nil)) pe_non (nomark _))))), ?_⟩
    obtain ⟨ts, hts, hlen, hev⟩ := id hA
    have htl : (ts.map V.ref).length = evs.length := by rw [List.length_map]; exact hlen
    refine ⟨_, rfl, _, _, _, _, true, rfl, .ty "list", .base (.lst hts), kit_ty (by decide +kernel), _, rfl, iteF ?_⟩
    refine ⟨_, rfl, h, _, rfl, .inl (SqL.of hts), _, _, rfl, rfl, _, rfl, ?_⟩
    rw [htl, decide_eq_false (by omega)]
    refine iteF ?_
    refine ⟨_, rfl, h, rfl, ⟨_, SqL.of hts⟩, fun D nD => ?_⟩
    have sD : Same H (upd H D (.lst [])) := same_upd nD
    refine lc_list (K := K) (a := h) (xs := ts.map V.ref) (fun i H' => Same H H' ∧ H' D = some (.lst ((List.replicate i true).map V.bl))) ⟨sD, upd_same⟩ (fun i H' _ h => SqL.of (h.1 _ _ hts)) (fun i x H' hx h => ?_) (fun H' h => ?_)
    · obtain ⟨t, ht, rfl⟩ := get_map hx
      have hi : i < evs.length := by rw [← hlen]; exact (List.getElem?_eq_some_iff.mp ht).1
      obtain ⟨e, he⟩ : ∃ e, evs[i]? = some e := ⟨evs[i], List.getElem?_eq_getElem hi⟩
      have hgood : evGood e := by
        obtain ⟨b0, l0, b1, l1, h1, h2, h3⟩ := runH_step hu he
        have ok := Lat.his_ok _ _ _ h1
        cases e with
        | b => trivial
        | c i2 =>
          have h3 : (if i2 ∈ l0 then some (b0, l0.erase i2) else none) = some (b1, l1) := h3
          by_cases hm : i2 ∈ l0
          · exact (ok.rng _ hm).1
          · rw [if_neg hm] at h3; cases h3
        | r i2 =>
          have h3 : (if i2 ∈ l0 then some (b0, l0.erase i2) else none) = some (b1, l1) := h3
          by_cases hm : i2 ∈ l0
          · exact (ok.rng _ hm).1
          · rw [if_neg hm] at h3; cases h3
      refine ⟨rfl, yes (iteT ?_)⟩
      refine ⟨_, rfl, t, e, rfl, h.1 _ _ (hev i t e ht he), hgood, fun H2 s2 => ?_⟩
      refine ⟨_, s2 _ _ h.2, ?_, same_new nD (h.1.trans s2), ?_⟩
      · rw [List.length_map, List.length_replicate]
        exact small1000 (by omega)
      · rw [upd_same, List.replicate_succ', List.map_append]; rfl
    · refine ⟨D, _, rfl, SqL.of h.2, _, rfl, ?_⟩
      have e : (List.replicate (ts.map V.ref).length true).all id = true := by simp
      rw [e]
      refine iteF ?_
      refine ⟨_, rfl, _, evs, u, rfl, hA.keep h.1, hl, hu, fun H2 p s2 => ?_⟩
      exact ⟨rfl, q H2 (h.1.trans s2)⟩
/-! ### require_history -/
abbrev s_require_history : Stmt := topS 40
theorem sc_require_history : FnScope ["history"] ["history"] (defScope s_require_history) := ⟨rfl, rfl, rfl, by decide +kernel, rfl, by decide +kernel, by decide +kernel⟩
def sp_require_history : Sp := fun vs H Q _ => ∃ (h : Addr) (evs : List Lat.Ev) (u : Int × List Int), vs = [.ref h] ∧ HisAt H h evs ∧ evs.length ≤ 60 ∧ Lat.runH evs (0, []) = some u ∧ Ret H Q .non
theorem cal_require_history (T : Env mg) (At : AtN K mg "require_history" s_require_history) (C_is_history : Cal P w K mg base "is_history" 3 ["value"] [] sp_is_history) : Cal P w K mg base "require_history" 4 ["history"] [] sp_require_history := by
  refine cal_mk At (fun F => F.binds (ps := ["history"]) fun _ _ _ _ _ _ us hl => match us, hl with | [_], _ => rfl) fun F => ?_
  obtain ⟨f_is_history, fd_is_history, d_is_history, G_is_history, g_is_history, k_is_history, b_is_history, v_is_history⟩ := C_is_history
  refine F.ok sc_require_history (fun vs H Q E h => ?_) (fun cdv A outer s H vs Q E hr h => ?_)
  · obtain ⟨h, evs, u, rfl, hA, hl, hu, q⟩ := h
    rfl
  · obtain ⟨h, evs, u, rfl, hA, hl, hu, q⟩ := h
    refine ⟨_, (pss_one (ps_if (pt_not (pt_val (pe_call G_is_history (hr.mono (by decide)) (by rfl) g_is_history k_is_history b_is_history v_is_history pass0 (pa_cons (pv 0) pa_nil)))) (pss_one ps_never) pss_nil)), ?_⟩
    refine ⟨_, rfl, h, evs, u, rfl, hA, hl, hu, fun H1 s1 => ?_⟩
    exact ⟨_, rfl, iteF (q H1 s1)⟩
/-! ### order_of -/
abbrev s_order_of : Stmt := topS 41
theorem sc_order_of : FnScope ["history", "event"] ["history"] (defScope s_order_of) := ⟨rfl, rfl, rfl, by decide +kernel, rfl, by decide +kernel, by decide +kernel⟩
def sp_order_of : Sp := fun vs H Q _ => ∃ (h : Addr) (evs : List Lat.Ev) (u : Int × List Int), vs = [.ref h] ∧ HisAt H h evs ∧ evs.length ≤ 60 ∧ Lat.runH evs (0, []) = some u ∧
  ∀ H' p, Same H H' → H p = none → IL H' p (Lat.commits evs) → Q (.ref p) H'
theorem cal_order_of (T : Env mg) (At : AtN K mg "order_of" s_order_of) (C_require_history : Cal P w K mg base "require_history" 4 ["history"] [] sp_require_history) : Cal P w K mg base "order_of" 5 ["history"] [] sp_order_of := by
  refine cal_mk At (fun F => F.binds (ps := ["history"]) fun _ _ _ _ _ _ us hl => match us, hl with | [_], _ => rfl) fun F => ?_
  obtain ⟨f_require_history, fd_require_history, d_require_history, G_require_history, g_require_history, k_require_history, b_require_history, v_require_history⟩ := C_require_history
  obtain ⟨t_COMMIT, c_COMMIT⟩ := T.c_COMMIT
  refine F.ok sc_order_of (fun vs H Q E h => ?_) (fun cdv A outer s H vs Q E hr h => ?_)
  · obtain ⟨h, evs, u, rfl, hA, hl, hu, q⟩ := h
    rfl
  · obtain ⟨h, evs, u, rfl, hA, hl, hu, q⟩ := h
    refine ⟨_, (pss_cons (ps_expr (pe_call G_require_history (hr.mono (by decide)) (by rfl) g_require_history k_require_history b_require_history v_require_history pass0 (pa_cons (pv 0) pa_nil)))
      (pss_one (ps_ret (pe_lc (own := [("event", 1)]) (g := gName 1) rfl sc_order_of.nd (pi_list (pv 0)) (blkOk_by (own := [("event", 1)]) (N := ["history", "event"]) (sc := defScope s_order_of) (by decide +kernel)) (fun _ _ _ _ _ => (pg_name (i := 1) sc_order_of.nd rfl (Or.inl rfl))) (fun _ _ _ _ _ => (pts_one (pt_cmpR op_eq (pe_ix (ix_tupK K rfl) (pv 1) pe_int (fun _ _ => rfl)) (pe_glob (v := .str "commit") (by rfl) c_COMMIT ⟨_, rfl⟩) (nomark _)))) (fun _ _ _ _ _ => (pe_ix (ix_tupK K rfl) (pv 1) pe_int (fun _ _ => rfl))))))), ?_⟩
    refine ⟨_, rfl, h, evs, u, rfl, hA, hl, hu, fun H1 s1 => ?_⟩
    obtain ⟨ts, hts, hlen, hev⟩ := hA
    refine ⟨_, rfl, h, rfl, ⟨_, SqL.of (s1 _ _ hts)⟩, fun D nD => ?_⟩
    have s2 := same_upd (o := .lst []) nD
    refine lc_list (K := K) (a := h) (xs := ts.map V.ref) (fun i H' => Same H1 H' ∧ IL H' D (Lat.commits (evs.take i))) ⟨s2, upd_same⟩ (fun i H' _ h => SqL.of (h.1 _ _ (s1 _ _ hts))) (fun i x H' hx h => ?_) (fun H' h => ?_)
    · obtain ⟨t, ht, rfl⟩ := get_map hx
      have hi : i < evs.length := by rw [← hlen]; exact (List.getElem?_eq_some_iff.mp ht).1
      obtain ⟨e, he⟩ : ∃ e, evs[i]? = some e := ⟨evs[i], List.getElem?_eq_getElem hi⟩
      have hT := h.1 _ _ (s1 _ _ (hev i t e ht he))
      have hcs : Lat.commits (evs.take (i + 1)) = Lat.commits (evs.take i) ++ (Lat.comOf e).toList := by rw [take_snoc he, Lat.commits_snoc]
      have hcl : ((Lat.commits (evs.take i)).map V.int).length < sizeLine := by
        rw [List.length_map]
        have a1 : (Lat.commits (evs.take i)).length ≤ (evs.take i).length := List.length_filterMap_le ..
        have a2 : (evs.take i).length ≤ evs.length := List.length_take_le' _ _
        exact small1000 (by omega)
      cases e with
      | b =>
        refine ⟨rfl, _, rfl, t, _, _, .str "begin", rfl, rfl, SqT.of hT, atI_nat (j := 0) rfl, rfl, _, rfl, ?_⟩
        rw [s_bc]
        refine iteF ⟨h.1, ?_⟩
        rw [hcs]
        show IL H' D (Lat.commits (evs.take i) ++ [])
        rw [List.append_nil]; exact h.2
      | r i2 =>
        refine ⟨rfl, _, rfl, t, _, _, .str "rollback", rfl, rfl, SqT.of hT, atI_nat (j := 0) rfl, rfl, _, rfl, ?_⟩
        rw [s_rc]
        refine iteF ⟨h.1, ?_⟩
        rw [hcs]
        show IL H' D (Lat.commits (evs.take i) ++ [])
        rw [List.append_nil]; exact h.2
      | c i2 =>
        refine ⟨rfl, _, rfl, t, _, _, .str "commit", rfl, rfl, SqT.of hT, atI_nat (j := 0) rfl, rfl, _, rfl, ?_⟩
        rw [s_cc]
        refine iteT ?_
        refine ⟨_, rfl, t, _, _, .int i2, rfl, rfl, SqT.of hT, atI_nat (j := 1) rfl, _, h.2, hcl, same_new nD h.1, ?_⟩
        show upd H' D _ D = _
        rw [upd_same, hcs, List.map_append]; rfl
    · have e : (ts.map V.ref).length = evs.length := by rw [List.length_map]; exact hlen
      rw [e, List.take_length] at h
      exact q H' D (s1.trans h.1) (s1.free nD) h.2
/-! ### spans -/
abbrev s_spans : Stmt := topS 42
theorem sc_spans : FnScope ["history", "begun", "found", "event", "row"] ["history"] (defScope s_spans) := ⟨rfl, rfl, rfl, by decide +kernel, rfl, by decide +kernel, by decide +kernel⟩
def sp_spans : Sp := fun vs H Q _ => ∃ (h : Addr) (evs : List Lat.Ev) (u : Int × List Int), vs = [.ref h] ∧ HisAt H h evs ∧ evs.length ≤ 60 ∧ Lat.runH evs (0, []) = some u ∧
  ∀ H' d, Same H H' → H d = none → H' d = some (.dK (rdict (fun r => .int (Lat.spanOf evs r)) (Lat.srt (Lat.commits evs)))) → Q (.ref d) H'
theorem cal_spans (T : Env mg) (At : AtN K mg "spans" s_spans) (C_require_history : Cal P w K mg base "require_history" 4 ["history"] [] sp_require_history) : Cal P w K mg base "spans" 5 ["history"] [] sp_spans := by
  refine cal_mk At (fun F => F.binds (ps := ["history"]) fun _ _ _ _ _ _ us hl => match us, hl with | [_], _ => rfl) fun F => ?_
  obtain ⟨f_require_history, fd_require_history, d_require_history, G_require_history, g_require_history, k_require_history, b_require_history, v_require_history⟩ := C_require_history
  obtain ⟨t_BEGIN, c_BEGIN⟩ := T.c_BEGIN
  obtain ⟨t_COMMIT, c_COMMIT⟩ := T.c_COMMIT
  have m_sorted := T.m_sorted
  refine F.ok sc_spans (fun vs H Q E h => ?_) (fun cdv A outer s H vs Q E hr h => ?_)
  · obtain ⟨h, evs, u, rfl, hA, hl, hu, q⟩ := h
    rfl
  · obtain ⟨h, evs, u, rfl, hA, hl, hu, q⟩ := h
    refine ⟨_, (pss_cons (ps_expr (pe_call G_require_history (hr.mono (by decide)) (by rfl) g_require_history k_require_history b_require_history v_require_history pass0 (pa_cons (pv 0) pa_nil)))
      (pss_cons (ps_set (i := 1) sc_spans.nd rfl (Or.inl rfl) pe_int)
      (pss_cons (ps_set (i := 2) sc_spans.nd rfl (Or.inr rfl) pe_dnewK)
      (pss_cons (ps_for PassesOwn.never rfl (pi_list (pv 0)) (pg_name (i := 3) sc_spans.nd rfl (Or.inl rfl)) (pss_one (ps_if (pt_cmpR op_eq (pe_ix (ix_tupK K rfl) (pv 3) pe_int (fun _ _ => rfl)) (pe_glob (v := .str "begin") (by rfl) c_BEGIN ⟨_, rfl⟩) (nomark _)) (pss_one (ps_aug (i := 1) sc_spans.nd rfl (Or.inl rfl) pe_int ip_add)) (pss_one (ps_if (pt_cmpR op_eq (pe_ix (ix_tupK K rfl) (pv 3) pe_int (fun _ _ => rfl)) (pe_glob (v := .str "commit") (by rfl) c_COMMIT ⟨_, rfl⟩) (nomark _)) (pss_one (ps_dput (hu_of hr) (pv 2) (pe_ix (ix_tupK K rfl) (pv 3) pe_int (fun _ _ => rfl)) (pe_op op_sub (pv 1) (pe_ix (ix_tupK K rfl) (pv 3) pe_int (fun _ _ => rfl))) rfl)) pss_nil)))))
      (pss_one (ps_ret (pe_dc (own := [("row", 4)]) (g := gName 4) (tt := tYes) rfl sc_spans.nd (pi_list (pe_callB (call_sortedDI rfl) (by rfl) m_sorted (by decide +kernel) (pa_cons (pv 2) pa_nil))) (blkOk_by (own := [("row", 4)]) (N := ["history", "begun", "found", "event", "row"]) (sc := defScope s_spans) (by decide +kernel)) (fun _ _ _ _ _ => (pg_name (i := 4) sc_spans.nd rfl (Or.inl rfl))) (fun _ _ _ _ _ => pts_nil) (fun _ _ _ _ _ => (pv 4)) (fun _ _ _ _ _ => (pe_dget (hu_of hr) (pv 2) (pv 4) (fun _ _ => rfl)))))))))), ?_⟩
    refine ⟨_, rfl, h, evs, u, rfl, hA, hl, hu, fun H1 s1 => ?_⟩
    obtain ⟨ts, hts, hlen, hev⟩ := hA
    intro d nd
    have s2 : Same H (upd H1 d (.dK [])) := s1.trans (same_upd nd)
    refine ⟨_, rfl, h, rfl, ⟨_, SqL.of (s2 _ _ hts)⟩, for_list (K := K) (a := h) (xs := ts.map V.ref) (fun i σ H' => ∃ z, σ = [some (.ref h), some (.int (Lat.runS (evs.take i)).1), some (.ref d), z, none] ∧ Same H H' ∧ H' d = some (.dK (spD (Lat.runS (evs.take i)).2)))
      ⟨none, rfl, s2, upd_same⟩ (fun i σ H' _ ⟨_, _, hs, _⟩ => SqL.of (hs _ _ hts)) ?_ ?_⟩
    · rintro i y σ H' hy ⟨z, rfl, hs, hD⟩
      obtain ⟨t, ht, rfl⟩ := get_map hy
      have hi : i < evs.length := by rw [← hlen]; exact (List.getElem?_eq_some_iff.mp ht).1
      obtain ⟨e, he⟩ : ∃ e, evs[i]? = some e := ⟨evs[i], List.getElem?_eq_getElem hi⟩
      have hT := hs _ _ (hev i t e ht he)
      have hrs : Lat.runS (evs.take (i + 1)) = Lat.stepS (Lat.runS (evs.take i)) e := by rw [take_snoc he, Lat.runS_snoc]
      cases e with
      | b =>
        refine ⟨_, rfl, t, _, _, .str "begin", rfl, rfl, SqT.of hT, atI_nat (j := 0) rfl, rfl, _, rfl, ?_⟩
        rw [s_bb]
        refine iteT ?_
        refine ⟨_, rfl, _, _, rfl, rfl, ?_⟩
        rw [hrs]
        exact ⟨_, rfl, hs, hD⟩
      | r i2 =>
        refine ⟨_, rfl, t, _, _, .str "rollback", rfl, rfl, SqT.of hT, atI_nat (j := 0) rfl, rfl, _, rfl, ?_⟩
        rw [s_rb]
        refine iteF ?_
        refine ⟨_, rfl, t, _, _, .str "rollback", rfl, rfl, SqT.of hT, atI_nat (j := 0) rfl, rfl, _, rfl, ?_⟩
        rw [s_rc]
        refine iteF ?_
        rw [hrs]
        exact ⟨_, rfl, hs, hD⟩
      | c i2 =>
        refine ⟨_, rfl, t, _, _, .str "commit", rfl, rfl, SqT.of hT, atI_nat (j := 0) rfl, rfl, _, rfl, ?_⟩
        rw [s_cb]
        refine iteF ?_
        refine ⟨_, rfl, t, _, _, .str "commit", rfl, rfl, SqT.of hT, atI_nat (j := 0) rfl, rfl, _, rfl, ?_⟩
        rw [s_cc]
        refine iteT ?_
        refine ⟨_, rfl, _, rfl, t, _, _, .int i2, rfl, rfl, SqT.of hT, atI_nat (j := 1) rfl, _, _, rfl, rfl, _, rfl, _, rfl, t, _, _, .int i2, rfl, rfl, SqT.of hT, atI_nat (j := 1) rfl, d, _, rfl, DPut.k (k := Sum.inl i2) hD ?_, ?_⟩
        · obtain ⟨b, l, hrun⟩ := runH_take (i := i) hu
          have ok := Lat.his_ok _ _ _ hrun
          have a0 := congrArg List.length ok.keys
          have a1 := ok.len
          have a2 : (evs.take i).length ≤ evs.length := List.length_take_le' _ _
          have a3 := ok.nn
          rw [List.length_map] at a0
          unfold spD
          rw [List.length_map]
          exact small1000 (by omega)
        · rw [hrs]
          refine ⟨_, rfl, same_new (s1.free nd) hs, ?_⟩
          rw [upd_same]
          show some (HO.dK _) = some (HO.dK (spD ((Lat.runS (evs.take i)).2 ++ [(i2, (Lat.runS (evs.take i)).1 - i2)])))
          rw [spD_snoc]
          intro z
          obtain ⟨b, l, hrun⟩ := runH_take (i := i + 1) hu
          have ok := Lat.his_ok _ _ _ hrun
          have k := ok.keys
          have n := ok.cnd
          rw [← k, hrs] at n
          have n : (((Lat.runS (evs.take i)).2 ++ [(i2, (Lat.runS (evs.take i)).1 - i2)]).map (·.1)).Nodup := n
          rw [List.map_append, List.nodup_append] at n
          exact n.2.2 _ z _ (by simp) rfl
    · rintro σ H' ⟨z, rfl, hs, hD⟩
      have e : (ts.map V.ref).length = evs.length := by rw [List.length_map]; exact hlen
      rw [e, List.take_length] at hD
      rw [e, List.take_length]
      have ok := Lat.his_ok evs u.1 u.2 hu
      have hk : (spD (Lat.runS evs).2).map (·.1) = (Lat.commits evs).map Sum.inl := by rw [spD_keys, ok.keys]
      have hc30 : (Lat.commits evs).length ≤ 60 := by
        have a1 := ok.len
        have a3 := ok.nn
        omega
      refine ⟨_, rfl, d, _, Lat.commits evs, rfl, Rd.of hD, hk, by omega, fun ns p hp hs2 np => ?_⟩
      obtain rfl := Lat.srt_uniq hp hs2
      have s3 := same_upd (o := .lst ((Lat.srt (Lat.commits evs)).map V.int)) np
      refine ⟨p, rfl, ⟨_, SqL.of upd_same⟩, fun D nD => ?_⟩
      have s4 := same_upd (o := .dK []) nD
      have hP : IL (upd H' p (.lst ((Lat.srt (Lat.commits evs)).map V.int))) p (Lat.srt (Lat.commits evs)) := upd_same
      generalize upd H' p (.lst ((Lat.srt (Lat.commits evs)).map V.int)) = H2 at s3 s4 hP nD
      have hn := Lat.srt_nodup ok.cnd
      refine dc_it (walk_list (K := K) (a := p) (xs := (Lat.srt (Lat.commits evs)).map V.int)) (fun i H3 => Same H2 H3 ∧ H3 D = some (.dK (rdict (fun r => .int (Lat.spanOf evs r)) ((Lat.srt (Lat.commits evs)).take i)))) ⟨s4, upd_same⟩ (fun i H3 _ h => SqL.of (h.1 _ _ hP)) ?_ (fun H3 h => ?_)
      · rintro i x H3 H4 hi h ⟨rfl, hx⟩
        obtain ⟨v, hv, rfl⟩ := get_map hx
        have hvm : v ∈ (Lat.runS evs).2.map (·.1) := by rw [ok.keys]; exact Lat.mem_srt.mp (List.mem_of_getElem? hv)
        refine ⟨rfl, yes (iteT ?_)⟩
        refine ⟨_, rfl, _, rfl, _, rfl, d, _, rfl, by rw [← spD_get hvm]; exact DGet.k (k := Sum.inl v) (h.1 _ _ (s3 _ _ hD)), ?_⟩
        refine ⟨_, Sum.inl v, rfl, h.2, ?_, same_new nD h.1, ?_⟩
        · rw [rdict_len]
          have h2 : ((Lat.srt (Lat.commits evs)).take i).length ≤ (Lat.srt (Lat.commits evs)).length := List.length_take_le' _ _
          rw [Lat.srt_length] at h2
          exact small1000 (by omega)
        · rw [upd_same, take_snoc hv]
          have e4 := put_rdict (f := fun r => V.int (Lat.spanOf evs r)) (not_ahead hn hv)
          rw [e4]
      · rw [List.length_map, List.take_length] at h
        exact q H3 D (hs.trans (s3.trans h.1)) (hs.free (s3.free nD)) h.2
end
end K70
/-! #### K70A6 -/
set_option Elab.async false
set_option linter.all false
set_option maxRecDepth 100000
set_option maxHeartbeats 4000000
namespace K70
open PySem PySem.Spec PyProof.Rows L2
open Lat (OrdOk PollsOk)
section
variable {P : Program} {w : World} {K : PySem.W.Frag} {mg : Str → Option Value} {base : Heap}
/-! ### require_kind -/
abbrev s_require_kind : Stmt := topS 47
theorem sc_require_kind : FnScope ["overlap", "wait", "page"] ["overlap", "wait", "page"] (defScope s_require_kind) := ⟨rfl, rfl, rfl, by decide +kernel, rfl, by decide +kernel, by decide +kernel⟩
def sp_require_kind : Sp := fun vs H Q _ => ∃ (u k : Int), vs = [.int u, .int k, .non] ∧ 1 ≤ u ∧ 0 ≤ k ∧ (u = 1 ∨ k = 0) ∧ Ret H Q .non
theorem cal_require_kind (T : Env mg) (At : AtN K mg "require_kind" s_require_kind) (C_is_integer2 : Cal P w K mg base "is_integer" 1 ["value", "least", "greatest"] [.non] sp_is_integer) : Cal P w K mg base "require_kind" 2 ["overlap", "wait", "page"] [] sp_require_kind := by
  refine cal_mk At (fun F => F.binds (ps := ["overlap", "wait", "page"]) fun _ _ _ _ _ _ us hl => match us, hl with | [_, _, _], _ => rfl) fun F => ?_
  obtain ⟨f_is_integer2, fd_is_integer2, d_is_integer2, G_is_integer2, g_is_integer2, k_is_integer2, b_is_integer2, v_is_integer2⟩ := C_is_integer2
  refine F.ok sc_require_kind (fun vs H Q E h => ?_) (fun cdv A outer s H vs Q E hr h => ?_)
  · obtain ⟨u, k, rfl, hu, hk, huk, q⟩ := h
    rfl
  · obtain ⟨u, k, rfl, hu, hk, huk, q⟩ := h
    refine ⟨_, (pss_cons (ps_if (PW.pt (pw_or (pt_not (pt_val (pe_call G_is_integer2 (hr.mono (by decide)) (by rfl) g_is_integer2 k_is_integer2 b_is_integer2 v_is_integer2 pass0 (pa_cons (pv 0) (pa_cons pe_int pa_nil))))) (pw_or (pt_not (pt_val (pe_call G_is_integer2 (hr.mono (by decide)) (by rfl) g_is_integer2 k_is_integer2 b_is_integer2 v_is_integer2 pass0 (pa_cons (pv 1) (pa_cons pe_int pa_nil))))) (pw_or1 (PW.pt (pw_and (pt_cmpR op_notN (pv 2) pe_non (nomark _)) (pw_and1 (pt_not (pt_val (pe_call G_is_integer2 (hr.mono (by decide)) (by rfl) g_is_integer2 k_is_integer2 b_is_integer2 v_is_integer2 pass0 (pa_cons (pv 2) (pa_cons pe_int pa_nil)))))))))))) (pss_one ps_never) pss_nil)
      (pss_one (ps_if (pt_cmpR op_gt (pe_bm PySem.F.plainAttrs_list PySem.F.slot_list_count PySem.F.type_list_count mt_countB (pe_lst (pa_cons (pe_cmpR op_eq (pv 0) pe_int (nomark _)) (pa_cons (pe_cmpR op_eq (pv 1) pe_int (nomark _)) (pa_cons (pe_cmpR op_isN (pv 2) pe_non (nomark _)) pa_nil)))) (pa_cons pe_bl pa_nil)) pe_int (nomark _)) (pss_one ps_never) pss_nil))), ?_⟩
    refine ⟨_, rfl, u, 1, _, rfl, hu, .inl rfl, _, rfl, iteF ?_⟩
    refine ⟨_, rfl, k, 0, _, rfl, hk, .inl rfl, _, rfl, iteF ?_⟩
    refine ⟨_, rfl, rfl, _, rfl, iteF ?_⟩
    refine iteF ?_
    refine ⟨_, rfl, rfl, _, rfl, rfl, _, rfl, rfl, by show 3 ≤ sizeLine; decide, fun x nx => ?_⟩
    refine ⟨.inl ⟨rfl, _, SqL.of upd_same⟩, x, [decide (V.int u = V.int 1), decide (V.int k = V.int 0), decide (V.non = V.non)], false, rfl, rfl, SqL.of upd_same, _, _, rfl, rfl, _, rfl, ?_⟩
    have hc : ¬ (1 : Int) < (([decide (V.int u = V.int 1), decide (V.int k = V.int 0), decide (V.non = V.non)].count false : Nat) : Int) := by
      rcases huk with h | h
      · subst h
        cases decide (V.int k = V.int 0) <;> simp
      · subst h
        cases decide (V.int u = V.int 1) <;> simp
    rw [decide_eq_false hc]
    refine iteF ?_
    exact q _ (same_upd nx)
/-! ### require_reader -/
abbrev s_require_reader : Stmt := topS 48
theorem sc_require_reader : FnScope ["order", "polls", "overlap", "wait", "page"] ["order", "polls", "overlap", "wait", "page"] (defScope s_require_reader) := ⟨rfl, rfl, rfl, by decide +kernel, rfl, by decide +kernel, by decide +kernel⟩
def sp_require_reader : Sp := fun vs H Q _ => ∃ (a b : Addr) (o ps : List Int) (u k : Int), vs = [.ref a, .ref b, .int u, .int k, .non] ∧ IL H a o ∧ OrdOk o ∧ IL H b ps ∧ ps.length ≤ 30 ∧ PollsOk o.length ps ∧ 1 ≤ u ∧ 0 ≤ k ∧ (u = 1 ∨ k = 0) ∧ Ret H Q .non
theorem cal_require_reader (T : Env mg) (At : AtN K mg "require_reader" s_require_reader) (C_require_order : Cal P w K mg base "require_order" 4 ["order"] [] sp_require_order) (C_require_polls : Cal P w K mg base "require_polls" 2 ["order", "polls"] [] sp_require_polls) (C_require_kind : Cal P w K mg base "require_kind" 2 ["overlap", "wait", "page"] [] sp_require_kind) : Cal P w K mg base "require_reader" 5 ["order", "polls", "overlap", "wait", "page"] [] sp_require_reader := by
  refine cal_mk At (fun F => F.binds (ps := ["order", "polls", "overlap", "wait", "page"]) fun _ _ _ _ _ _ us hl => match us, hl with | [_, _, _, _, _], _ => rfl) fun F => ?_
  obtain ⟨f_require_order, fd_require_order, d_require_order, G_require_order, g_require_order, k_require_order, b_require_order, v_require_order⟩ := C_require_order
  obtain ⟨f_require_polls, fd_require_polls, d_require_polls, G_require_polls, g_require_polls, k_require_polls, b_require_polls, v_require_polls⟩ := C_require_polls
  obtain ⟨f_require_kind, fd_require_kind, d_require_kind, G_require_kind, g_require_kind, k_require_kind, b_require_kind, v_require_kind⟩ := C_require_kind
  refine F.ok sc_require_reader (fun vs H Q E h => ?_) (fun cdv A outer s H vs Q E hr h => ?_)
  · obtain ⟨a, b, o, ps, u, k, rfl, hA, ho, hB, hl, ok, hu, hk, huk, q⟩ := h
    rfl
  · obtain ⟨a, b, o, ps, u, k, rfl, hA, ho, hB, hl, ok, hu, hk, huk, q⟩ := h
    refine ⟨_, (pss_cons (ps_expr (pe_call G_require_order (hr.mono (by decide)) (by rfl) g_require_order k_require_order b_require_order v_require_order pass0 (pa_cons (pv 0) pa_nil)))
      (pss_cons (ps_expr (pe_call G_require_polls (hr.mono (by decide)) (by rfl) g_require_polls k_require_polls b_require_polls v_require_polls pass0 (pa_cons (pv 0) (pa_cons (pv 1) pa_nil))))
      (pss_one (ps_expr (pe_call G_require_kind (hr.mono (by decide)) (by rfl) g_require_kind k_require_kind b_require_kind v_require_kind pass0 (pa_cons (pv 2) (pa_cons (pv 3) (pa_cons (pv 4) pa_nil)))))))), ?_⟩
    refine ⟨_, rfl, a, o, rfl, hA, ho, fun H1 s1 => ?_⟩
    refine ⟨_, rfl, _, rfl, a, b, o, ps, rfl, s1 _ _ hA, ho.len, s1 _ _ hB, hl, ok, ?_⟩
    exact ⟨_, rfl, _, rfl, _, rfl, u, k, rfl, hu, hk, huk, fun H2 s2 => q H2 (s1.trans s2)⟩
/-! ### was_passed -/
abbrev s_was_passed : Stmt := topS 49
theorem sc_was_passed : FnScope ["row", "ranges", "low", "high"] ["row", "ranges"] (defScope s_was_passed) := ⟨rfl, rfl, rfl, by decide +kernel, rfl, by decide +kernel, by decide +kernel⟩
def sp_was_passed : Sp := fun vs H Q _ => ∃ (r : Int) (R : Addr) (rs : List (Int × Int)), vs = [.int r, .ref R] ∧ RngAt H R rs ∧ rs.length ≤ 60 ∧ Ret H Q (.bl (Lat.passed r rs))
theorem cal_was_passed (T : Env mg) (At : AtN K mg "was_passed" s_was_passed) : Cal P w K mg base "was_passed" 1 ["row", "ranges"] [] sp_was_passed := by
  refine cal_mk At (fun F => F.binds (ps := ["row", "ranges"]) fun _ _ _ _ _ _ us hl => match us, hl with | [_, _], _ => rfl) fun F => ?_
  have m_any := T.m_any
  refine F.ok sc_was_passed (fun vs H Q E h => ?_) (fun cdv A outer s H vs Q E hr h => ?_)
  · obtain ⟨r, R, rs, rfl, hR, hl, q⟩ := h
    rfl
  · obtain ⟨r, R, rs, rfl, hR, hl, q⟩ := h
    refine ⟨_, (pss_one (ps_ret (pe_callB (cr_any rfl) (by rfl) m_any (by decide +kernel) (pa_cons (pe_lc (own := [("low", 2), ("high", 3)]) (tt := tYes) rfl sc_was_passed.nd (pi_list (pv 1)) (blkOk_by (own := [("low", 2), ("high", 3)]) (N := ["row", "ranges", "low", "high"]) (sc := defScope s_was_passed) (by decide +kernel)) (fun _ _ _ _ _ => (pg_tupK K (n := 2) rfl rfl (pgs_cons (pg_name (i := 2) sc_was_passed.nd rfl (Or.inl rfl)) (pgs_cons (pg_name (i := 3) sc_was_passed.nd rfl (Or.inl rfl)) pgs_nil)))) (fun _ _ _ _ _ => pts_nil) (fun _ _ _ _ _ => (pe_chain op_lt op_lt (pv 2) (pv 0) (pv 3)))) pa_nil)))), ?_⟩
    obtain ⟨ts, hts, hlen, hev⟩ := hR
    refine ⟨_, rfl, R, rfl, ⟨_, SqL.of hts⟩, fun D nD => ?_⟩
    have s1 := same_upd (o := .lst []) nD
    refine lc_list (K := K) (a := R) (xs := ts.map V.ref) (fun i H' => Same H H' ∧ H' D = some (.lst (((rs.take i).map fun p => decide (p.1 < r) && decide (r < p.2)).map V.bl))) ⟨s1, upd_same⟩ (fun i H' _ h => SqL.of (h.1 _ _ hts)) (fun i x H' hx h => ?_) (fun H' h => ?_)
    · obtain ⟨t, ht, rfl⟩ := get_map hx
      have hi : i < rs.length := by rw [← hlen]; exact (List.getElem?_eq_some_iff.mp ht).1
      obtain ⟨p, hp⟩ : ∃ p, rs[i]? = some p := ⟨rs[i], List.getElem?_eq_getElem hi⟩
      have hT := h.1 _ _ (hev i t p ht hp)
      refine ⟨t, _, rfl, SqT.of hT, rfl, _, _, rfl, _, [], rfl, rfl, rfl, yes (iteT ?_)⟩
      have fin : ∀ b : Bool, b = (decide (p.1 < r) && decide (r < p.2)) → ∃ acc, H' D = some (.lst acc) ∧ acc.length < sizeLine ∧ Same H (upd H' D (.lst (acc ++ [.bl b]))) ∧ upd H' D (.lst (acc ++ [.bl b])) D = some (.lst (((rs.take (i + 1)).map fun p => decide (p.1 < r) && decide (r < p.2)).map V.bl)) := by
        rintro b rfl
        refine ⟨_, h.2, ?_, same_new nD h.1, ?_⟩
        · rw [List.length_map, List.length_map]
          have h2 : (rs.take i).length ≤ rs.length := List.length_take_le' _ _
          exact small1000 (by omega)
        · rw [upd_same, take_snoc hp, List.map_append, List.map_append]; rfl
      refine ⟨_, rfl, _, rfl, _, _, rfl, rfl, _, rfl, ite2 (fun e => ?_) (fun e => ?_)⟩
      · refine ⟨_, rfl, _, _, rfl, rfl, fin _ ?_⟩
        rw [e]; rfl
      · refine fin _ ?_
        rw [Bool.not_eq_true] at e
        rw [e]; rfl
    · have e : (ts.map V.ref).length = rs.length := by rw [List.length_map]; exact hlen
      rw [e, List.take_length] at h
      refine ⟨D, _, rfl, SqL.of h.2, ?_⟩
      have e2 : (rs.map fun p => decide (p.1 < r) && decide (r < p.2)).any id = Lat.passed r rs := by
        unfold Lat.passed
        rw [List.any_map]; rfl
      rw [e2]
      exact q H' h.1
/-! ### states_in -/
abbrev s_states_in : Stmt := topS 51
theorem sc_states_in : FnScope ["order", "lists", "row", "returned", "cursor", "found", "rows"] ["order", "lists"] (defScope s_states_in) := ⟨rfl, rfl, rfl, by decide +kernel, rfl, by decide +kernel, by decide +kernel⟩
def sp_states_in : Sp := fun vs H Q _ => ∃ (a F : Addr) (o : List Int) (ls : List (List Int)), vs = [.ref a, .ref F] ∧ IL H a o ∧ OrdOk o ∧ LsAt H F ls ∧ ls.flatten.Nodup ∧ ls.flatten.length ≤ 60 ∧
  ∀ H' d, Same H H' → H d = none → H' d = some (.dK (rdict (stV ls.flatten) (Lat.srt o))) → Q (.ref d) H'
theorem cal_states_in (T : Env mg) (At : AtN K mg "states_in" s_states_in) : Cal P w K mg base "states_in" 1 ["order", "lists"] [] sp_states_in := by
  refine cal_mk At (fun F => F.binds (ps := ["order", "lists"]) fun _ _ _ _ _ _ us hl => match us, hl with | [_, _], _ => rfl) fun F => ?_
  obtain ⟨t_LOST, c_LOST⟩ := T.c_LOST
  obtain ⟨t_OPEN, c_OPEN⟩ := T.c_OPEN
  obtain ⟨t_READ, c_READ⟩ := T.c_READ
  have m_list := T.m_list
  have m_max := T.m_max
  have m_sorted := T.m_sorted
  refine F.ok sc_states_in (fun vs H Q E h => ?_) (fun cdv A outer s H vs Q E hr h => ?_)
  · obtain ⟨a, F, o, ls, rfl, hA, ho, hF, hn, hl, q⟩ := h
    rfl
  · obtain ⟨a, F, o, ls, rfl, hA, ho, hF, hn, hl, q⟩ := h
    refine ⟨_, (pss_cons (ps_setDc2 (i := 3) (own := [("rows", 6), ("row", 2)]) (vs1 := [2]) (g := gName 6) (g1 := gName 2) rfl sc_states_in.nd rfl rfl (sw_dict rfl rfl rfl (by decide +kernel)) (pi_list (pv 1)) (blkOk_by (own := [("rows", 6), ("row", 2)]) (N := ["order", "lists", "row", "returned", "cursor", "found", "rows"]) (sc := defScope s_states_in) (by decide +kernel)) (by decide) (fun _ _ _ _ _ => (pg_name (i := 6) sc_states_in.nd rfl (Or.inl rfl))) (fun _ _ _ _ _ => (pi_listK K rfl (pv 6))) (fun _ _ _ _ _ => (pg_name (i := 2) sc_states_in.nd rfl (Or.inl rfl))) (fun _ _ _ _ _ => (pv 2)) (fun _ _ _ _ _ => pe_bl))
      (pss_cons (ps_set (i := 4) sc_states_in.nd rfl (Or.inl rfl) (pe_callB (cr_max rfl) (by rfl) m_max (by decide +kernel) (pa_cons (pe_op op_cat (pe_lst (pa_cons pe_int pa_nil)) (pe_callTy (call_listD rfl) (by rfl) m_list (by decide +kernel) (pa_cons (pv 3) pa_nil))) pa_nil)))
      (pss_cons (ps_set (i := 5) sc_states_in.nd rfl (Or.inl rfl) pe_dnewK)
      (pss_cons (ps_for PassesOwn.never rfl (pi_list (pe_callB cr_sortedI (by rfl) m_sorted (by decide +kernel) (pa_cons (pv 0) pa_nil))) (pg_name (i := 2) sc_states_in.nd rfl (Or.inl rfl)) (pss_one (ps_if (pt_cmp (pc_din (hu_of hr) (pv 2) (pv 3))) (pss_one (ps_dput (hu_of hr) (pv 5) (pv 2) (pe_glob (v := .str "read") (by rfl) c_READ ⟨_, rfl⟩) rfl)) (pss_one (ps_dput (hu_of hr) (pv 5) (pv 2) (pe_ifExp (pt_cmpR op_lt (pv 2) (pv 4) (nomark _)) (pe_glob (v := .str "lost") (by rfl) c_LOST ⟨_, rfl⟩) (pe_glob (v := .str "open") (by rfl) c_OPEN ⟨_, rfl⟩)) rfl)))))
      (pss_one (ps_ret (pv 5))))))), ?_⟩
    obtain ⟨ts, hts, hlen, hev⟩ := hF
    refine ⟨_, rfl, F, rfl, ⟨_, SqL.of hts⟩, fun D nD => ?_⟩
    have s1 := same_upd (o := .dK []) nD
    refine out_it (walk_list (K := K) (a := F) (xs := ts.map V.ref)) (step := fun Nx x H' => _) (fun i H' => Same H H' ∧ H' D = some (.dK (openD (ls.take i).flatten))) ⟨s1, upd_same⟩ (fun i H' _ h => SqL.of (h.1 _ _ hts)) ?_ ?_
    · rintro i x H1 H' hi h ⟨rfl, hx⟩
      obtain ⟨t, ht, rfl⟩ := get_map hx
      have hi : i < ls.length := by rw [← hlen]; exact (List.getElem?_eq_some_iff.mp ht).1
      obtain ⟨l, hl1⟩ : ∃ l, ls[i]? = some l := ⟨ls[i], List.getElem?_eq_getElem hi⟩
      have hT := h.1 _ _ (hev i t l ht hl1)
      have hfl : (ls.take (i + 1)).flatten = (ls.take i).flatten ++ l := by rw [take_snoc hl1]; simp
      have hsub : ((ls.take i).flatten ++ l).Sublist ls.flatten := by
        rw [← hfl]
        have e : ls.flatten = (ls.take (i + 1)).flatten ++ (ls.drop (i + 1)).flatten := by rw [← List.flatten_append, List.take_append_drop]
        rw [e]
        exact List.sublist_append_left _ _
      refine ⟨rfl, _, rfl, t, rfl, ⟨_, SqL.of hT⟩, ?_⟩
      refine in_it (walk_list (K := K) (a := t) (xs := l.map V.int)) (fun j H2 => Same H H2 ∧ IL H2 t l ∧ H2 D = some (.dK (openD ((ls.take i).flatten ++ l.take j)))) ⟨h.1, hT, by rw [List.take_zero, List.append_nil]; exact h.2⟩ (fun j H2 _ h2 => SqL.of h2.2.1) ?_ ?_
      · rintro j y H2 H3 hj h2 ⟨rfl, hy⟩
        obtain ⟨v, hv, rfl⟩ := get_map hy
        have hnd : ((ls.take i).flatten ++ l.take (j + 1)).Nodup := by
          refine (hn.sublist hsub).sublist ?_
          exact List.Sublist.append_left (List.take_sublist _ _) _
        rw [take_snoc hv, ← List.append_assoc] at hnd
        have hfresh : v ∉ (ls.take i).flatten ++ l.take j := by
          intro z
          exact (List.nodup_append.mp hnd).2.2 v z v (by simp) rfl
        refine ⟨rfl, _, rfl, _, Sum.inl v, rfl, h2.2.2, ?_, same_new nD h2.1, ?_, ?_⟩
        · rw [rdict_len]
          have e1 := hsub.length_le
          rw [List.length_append] at e1 ⊢
          have e2 : (l.take j).length ≤ l.length := List.length_take_le' _ _
          exact small1000 (by omega)
        · show upd H3 D _ t = _
          rw [upd_ne (ne_of h2.2.1 h2.2.2 (by intro z; cases z))]
          exact h2.2.1
        · rw [upd_same, take_snoc hv, ← List.append_assoc]
          have e := put_rdict (f := fun _ => V.bl true) hfresh
          show some (HO.dK (putK (rdict (fun _ => V.bl true) ((ls.take i).flatten ++ l.take j)) (Sum.inl v) (V.bl true))) = _
          rw [e]
      · intro H2 h2
        rw [List.length_map, List.take_length] at h2
        exact ⟨h2.1, by rw [hfl]; exact h2.2.2⟩
    · intro H1 h
      have e : (ts.map V.ref).length = ls.length := by rw [List.length_map]; exact hlen
      rw [e, List.take_length] at h
      generalize ls.flatten = ret at hn hl q h
      obtain ⟨s2, hD⟩ := h
      refine ⟨by show 1 ≤ sizeLine; decide, fun x nx => ?_⟩
      have s3 := same_upd (o := .lst [.int 0]) nx
      refine ⟨_, rfl, D, _, rfl, Rd.of (s3 _ _ hD), fun y ny => ?_⟩
      have ek : ((openD ret).map fun kv => kV kv.1) = ret.map V.int := by
        unfold openD rdict
        rw [List.map_map]; rfl
      rw [ek]
      have s4 := same_upd (o := .lst (ret.map V.int)) ny
      refine ⟨x, y, _, _, rfl, rfl, s4 _ _ upd_same, upd_same, ?_, fun z nz => ?_⟩
      · rw [List.length_map]
        exact small_line (by simp only [List.length_singleton]; omega)
      refine ⟨z, 0 :: ret, rfl, SqL.of upd_same, Nat.succ_pos _, fun m hm hle => ?_⟩
      have hmx := Lat.mx_uniq hm hle
      have s5 := (s3.trans s4).trans (same_upd (o := .lst ([V.int 0] ++ ret.map V.int)) nz)
      generalize upd (upd (upd H1 x (.lst [.int 0])) y (.lst (ret.map V.int))) z (.lst ([V.int 0] ++ ret.map V.int)) = H2 at s5
      have s6 := s2.trans s5
      have hD2 := s5 _ _ hD
      intro d nd
      have s7 := same_upd (o := .dK []) nd
      refine ⟨_, rfl, a, o, rfl, SqL.of (s7 _ _ (s6 _ _ hA)), fun ns p hp hs np => ?_⟩
      obtain rfl := Lat.srt_uniq hp hs
      have s8 := same_upd (o := .lst ((Lat.srt o).map V.int)) np
      have hsn := Lat.srt_nodup ho.nd
      have hdD : d ≠ D := (ne_of_none hD2 nd).symm
      refine ⟨p, rfl, ⟨_, SqL.of upd_same⟩, for_list (K := K) (a := p) (xs := (Lat.srt o).map V.int) (fun i σ H' => ∃ z, σ = [some (.ref a), some (.ref F), z, some (.ref D), some (.int m), some (.ref d), none] ∧ Same H2 H' ∧ IL H' p (Lat.srt o) ∧ H' d = some (.dK (rdict (stV ret) ((Lat.srt o).take i))))
        ⟨none, rfl, s7.trans s8, upd_same, s8 _ _ upd_same⟩ (fun i σ H' _ ⟨_, _, _, h, _⟩ => SqL.of h) ?_ ?_⟩
      · rintro i y σ H' hy ⟨z, rfl, hs, hP, hd⟩
        obtain ⟨v, hv, rfl⟩ := get_map hy
        have hdp : d ≠ p := ne_of hd hP (by intro z; cases z)
        have hfew : (rdict (stV ret) ((Lat.srt o).take i)).length < sizeLine := by
          rw [rdict_len]
          have h2 : ((Lat.srt o).take i).length ≤ (Lat.srt o).length := List.length_take_le' _ _
          rw [Lat.srt_length] at h2
          have := ho.len
          exact small1000 (by omega)
        have fin : ∀ u : V, u = stV ret v → ∃ a_1 H4, V.ref d = .ref a_1 ∧ DPut H' a_1 (.int v) u H4 ∧ ∃ z, ([some (.ref a), some (.ref F), some (.int v), some (.ref D), some (.int m), some (.ref d), none] : L2.St) = [some (.ref a), some (.ref F), z, some (.ref D), some (.int m), some (.ref d), none] ∧ Same H2 H4 ∧ IL H4 p (Lat.srt o) ∧ H4 d = some (.dK (rdict (stV ret) ((Lat.srt o).take (i + 1)))) := by
          rintro u rfl
          refine ⟨d, _, rfl, DPut.k (k := Sum.inl v) hd hfew, _, rfl, same_new nd hs, ?_, ?_⟩
          · show upd _ d _ p = _
            rw [upd_ne hdp.symm]; exact hP
          · rw [upd_same, take_snoc hv, put_rdict (not_ahead hsn hv)]
        refine ⟨_, rfl, _, rfl, D, _, rfl, DGet.k (k := Sum.inl v) (hs _ _ hD2), _, rfl, ?_⟩
        rw [valV_rdict]
        by_cases hm : v ∈ ret
        · rw [if_pos hm]
          refine iteT ?_
          refine ⟨_, rfl, _, rfl, fin _ ?_⟩
          unfold stV; rw [if_pos hm]
        · rw [if_neg hm]
          refine iteF ?_
          refine ⟨_, rfl, _, rfl, _, _, rfl, rfl, _, rfl, ite2 (fun e => ?_) (fun e => ?_)⟩
          · refine ⟨_, rfl, _, rfl, fin _ ?_⟩
            have e := of_decide_eq_true e
            unfold stV
            rw [if_neg hm, if_pos (by rw [← hmx]; exact e)]
          · refine ⟨_, rfl, _, rfl, fin _ ?_⟩
            have e : ¬ v < m := fun z => e (decide_eq_true z)
            unfold stV
            rw [if_neg hm, if_neg (by rw [← hmx]; exact e)]
      · rintro σ H' ⟨z, rfl, hs, _, hd⟩
        rw [List.length_map, List.take_length] at hd
        exact ⟨_, rfl, q H' d (s6.trans hs) (s6.free nd) hd⟩
end
end K70
/-! #### K70A7 -/
set_option Elab.async false
set_option linter.all false
set_option maxRecDepth 100000
set_option maxHeartbeats 4000000
namespace K70
open PySem PySem.Spec PyProof.Rows L2
open Lat (OrdOk PollsOk)
section
variable {P : Program} {w : World} {K : PySem.W.Frag} {mg : Str → Option Value} {base : Heap}
/-! ### lists_of -/
abbrev s_lists_of : Stmt := topS 50
theorem sc_lists_of : FnScope ["order", "polls", "overlap", "wait", "page", "found", "returned", "ranges", "cursor", "moment", "recent", "rows", "row"] ["order", "polls", "overlap", "wait", "page"] (defScope s_lists_of) := ⟨rfl, rfl, rfl, by decide +kernel, rfl, by decide +kernel, by decide +kernel⟩
def sp_lists_of : Sp := fun vs H Q _ => ∃ (a b : Addr) (o ps : List Int) (u k : Int), vs = [.ref a, .ref b, .int u, .int k, .non] ∧ IL H a o ∧ OrdOk o ∧ IL H b ps ∧ ps.length ≤ 30 ∧ PollsOk o.length ps ∧ 1 ≤ u ∧ 0 ≤ k ∧
  ∀ H' F, Same H H' → H F = none → LsAt H' F (Lat.runR o u k ps).lists → Q (.ref F) H'
theorem cal_lists_of (T : Env mg) (At : AtN K mg "lists_of" s_lists_of) (C_was_passed : Cal P w K mg base "was_passed" 1 ["row", "ranges"] [] sp_was_passed) : Cal P w K mg base "lists_of" 2 ["order", "polls", "overlap", "wait", "page"] [] sp_lists_of := by
  refine cal_mk At (fun F => F.binds (ps := ["order", "polls", "overlap", "wait", "page"]) fun _ _ _ _ _ _ us hl => match us, hl with | [_, _, _, _, _], _ => rfl) fun F => ?_
  obtain ⟨f_was_passed, fd_was_passed, d_was_passed, G_was_passed, g_was_passed, k_was_passed, b_was_passed, v_was_passed⟩ := C_was_passed
  have m_len := T.m_len
  have m_max := T.m_max
  have m_sorted := T.m_sorted
  refine F.ok sc_lists_of (fun vs H Q E h => ?_) (fun cdv A outer s H vs Q E hr h => ?_)
  · obtain ⟨a, b, o, ps, u, k, rfl, hA, ho, hB, hl, ok, hu, hk, q⟩ := h
    rfl
  · obtain ⟨a, b, o, ps, u, k, rfl, hA, ho, hB, hl, ok, hu, hk, q⟩ := h
    refine ⟨_, (pss_cons (ps_asg (pe_tup (pa_cons (pe_lst pa_nil) (pa_cons pe_dnewK (pa_cons (pe_lst pa_nil) (pa_cons pe_int pa_nil))))) (pg_tupK K (n := 4) rfl rfl (pgs_cons (pg_name (i := 5) sc_lists_of.nd rfl (Or.inl rfl)) (pgs_cons (pg_name (i := 6) sc_lists_of.nd rfl (Or.inl rfl)) (pgs_cons (pg_name (i := 7) sc_lists_of.nd rfl (Or.inl rfl)) (pgs_cons (pg_name (i := 8) sc_lists_of.nd rfl (Or.inl rfl)) pgs_nil))))))
      (pss_cons (ps_for PassesOwn.never rfl (pi_list (pv 1)) (pg_name (i := 9) sc_lists_of.nd rfl (Or.inl rfl)) (pss_cons (ps_set (i := 10) sc_lists_of.nd rfl (Or.inl rfl) (pe_slice sl_list (pv 7) (po_some (pe_callB (call_max2 rfl) (by rfl) m_max (by decide +kernel) (pa_cons pe_int (pa_cons (pe_op op_sub (pe_callB call_len_seq (by rfl) m_len (by decide +kernel) (pa_cons (pv 7) pa_nil)) (pv 3)) pa_nil)))) po_none))
          (pss_cons (ps_set (i := 11) sc_lists_of.nd rfl (Or.inl rfl) (pe_lst pa_nil))
          (pss_cons (ps_for PassesOwn.never rfl (pi_list (pe_callB cr_sortedI (by rfl) m_sorted (by decide +kernel) (pa_cons (pe_slice sl_list (pv 0) po_none (po_some (pv 9))) pa_nil))) (pg_name (i := 12) sc_lists_of.nd rfl (Or.inl rfl)) (pss_one (ps_if (PW.pt (pw_and (pt_cmp (pc_dnotin (hu_of hr) (pv 12) (pv 6))) (pw_and1 (PW.pt (pw_or (pt_cmpR op_gt (pv 12) (pe_op op_sub (pv 8) (pv 2)) (nomark _)) (pw_or1 (pt_val (pe_call G_was_passed (hr.mono (by decide)) (by rfl) g_was_passed k_was_passed b_was_passed v_was_passed pass0 (pa_cons (pv 12) (pa_cons (pv 10) pa_nil)))))))))) (pss_one (ps_expr (pe_bm PySem.F.plainAttrs_list PySem.F.slot_list_append PySem.F.type_list_append mt_append (pv 11) (pa_cons (pv 12) pa_nil)))) pss_nil)))
          (pss_cons (ps_if (pt_cmpR op_notN (pv 4) pe_non (nomark _)) (pss_one (ps_set (i := 11) sc_lists_of.nd rfl (Or.inl rfl) (pe_slice sl_list (pv 11) po_none (po_some (pv 4))))) pss_nil)
          (pss_cons (ps_expr (pe_bm PySem.F.plainAttrs_dict PySem.F.slot_dict_update PySem.F.type_dict_update mt_dupdate (pv 6) (pa_cons (pe_dc (own := [("row", 12)]) (g := gName 12) (tt := tYes) rfl sc_lists_of.nd (pi_list (pv 11)) (blkOk_by (own := [("row", 12)]) (N := ["order", "polls", "overlap", "wait", "page", "found", "returned", "ranges", "cursor", "moment", "recent", "rows", "row"]) (sc := defScope s_lists_of) (by decide +kernel)) (fun _ _ _ _ _ => (pg_name (i := 12) sc_lists_of.nd rfl (Or.inl rfl))) (fun _ _ _ _ _ => pts_nil) (fun _ _ _ _ _ => (pv 12)) (fun _ _ _ _ _ => pe_bl)) pa_nil)))
          (pss_cons (ps_expr (pe_bm PySem.F.plainAttrs_list PySem.F.slot_list_append PySem.F.type_list_append mt_append (pv 7) (pa_cons (pe_tup (pa_cons (pv 8) (pa_cons (pe_callB (cr_max rfl) (by rfl) m_max (by decide +kernel) (pa_cons (pe_op op_cat (pe_lst (pa_cons (pv 8) pa_nil)) (pv 11)) pa_nil)) pa_nil))) pa_nil)))
          (pss_cons (ps_set (i := 8) sc_lists_of.nd rfl (Or.inl rfl) (pe_ix (ix_tupK K rfl) (pe_ix (ix_listK K rfl) (pv 7) (pe_un un_neg pe_int) (fun _ _ => rfl)) pe_int (fun _ _ => rfl)))
          (pss_one (ps_expr (pe_bm PySem.F.plainAttrs_list PySem.F.slot_list_append PySem.F.type_list_append mt_append (pv 5) (pa_cons (pv 11) pa_nil))))))))))))
      (pss_one (ps_ret (pv 5))))), ?_⟩
    have hol := ho.len
    refine ⟨Nat.zero_le _, fun F nF => ?_⟩
    refine fun d nd => ?_
    refine ⟨Nat.zero_le _, fun R nR => ?_⟩
    refine ⟨by show 4 ≤ sizeLine; decide, fun U nU => ?_⟩
    refine ⟨U, _, rfl, SqT.of upd_same, rfl, _, _, rfl, _, _, rfl, _, _, rfl, _, [], rfl, rfl, ?_⟩
    have nF0 : H F = none := nF
    have nd0 : H d = none := (same_upd nF).free nd
    have nR0 : H R = none := ((same_upd nF).trans (same_upd nd)).free nR
    have s0 : Same H (upd (upd (upd (upd H F (.lst [])) d (.dK [])) R (.lst [])) U (.tup [.ref F, .ref d, .ref R, .int 0])) := (((same_upd nF).trans (same_upd nd)).trans (same_upd nR)).trans (same_upd nU)
    have f1 : (upd (upd (upd (upd H F (.lst [])) d (.dK [])) R (.lst [])) U (.tup [.ref F, .ref d, .ref R, .int 0])) F = some (.lst []) := same_upd nU _ _ (same_upd nR _ _ (same_upd nd _ _ upd_same))
    have f2 : (upd (upd (upd (upd H F (.lst [])) d (.dK [])) R (.lst [])) U (.tup [.ref F, .ref d, .ref R, .int 0])) d = some (.dK []) := same_upd nU _ _ (same_upd nR _ _ upd_same)
    have f3 : (upd (upd (upd (upd H F (.lst [])) d (.dK [])) R (.lst [])) U (.tup [.ref F, .ref d, .ref R, .int 0])) R = some (.lst []) := same_upd nU _ _ upd_same
    have hFR : F ≠ R := ne_of_none (same_upd (o := .dK []) nd _ _ upd_same) nR
    generalize upd (upd (upd (upd H F (.lst [])) d (.dK [])) R (.lst [])) U (.tup [.ref F, .ref d, .ref R, .int 0]) = H0 at s0 f1 f2 f3
    clear nU nR nd nF
    refine ⟨_, rfl, b, rfl, ⟨_, SqL.of (s0 _ _ hB)⟩, for_list (K := K) (a := b) (xs := ps.map V.int) (fun i σ H' => ∃ z9 z10 z11 z12, σ = [some (.ref a), some (.ref b), some (.int u), some (.int k), some .non, some (.ref F), some (.ref d), some (.ref R), some (.int (Lat.runR o u k (ps.take i)).cur), z9, z10, z11, z12] ∧
        Same H H' ∧ LsApart H' F R (Lat.runR o u k (ps.take i)).lists ∧ H' d = some (.dK (openD (Lat.runR o u k (ps.take i)).ret)) ∧ RngAt H' R (Lat.runR o u k (ps.take i)).rng)
      ⟨none, none, none, none, rfl, s0, ⟨[], f1, rfl, fun i a l z => by simp at z, fun a z => by cases z⟩, f2, ⟨[], f3, rfl, fun i a l z => by simp at z⟩⟩
      (fun i σ H' _ ⟨_, _, _, _, _, hs, _⟩ => SqL.of (hs _ _ hB)) ?_ ?_⟩
    · rintro i y σ H' hy ⟨z9, z10, z11, z12, rfl, hs, hLs, hd, hR⟩
      obtain ⟨m, hm, rfl⟩ := get_map hy
      have hi := (List.getElem?_eq_some_iff.mp hm).1
      have hmr := ok.rng m (List.mem_of_getElem? hm)
      have R1 := Lat.run_ok ho hu hk (ps.take i) (PollsOk.take ok i)
      have R2 := Lat.run_ok ho hu hk (ps.take (i + 1)) (PollsOk.take ok (i + 1))
      have hrun : Lat.runR o u k (ps.take (i + 1)) = Lat.stepR o u k (Lat.runR o u k (ps.take i)) m := by rw [take_snoc hm, Lat.runR_snoc]
      have nd2 := R2.nd
      rw [hrun] at nd2
      have lrng : (Lat.runR o u k (ps.take i)).rng.length ≤ 60 := by
        rw [R1.rng, Lat.rngF_len]
        have := List.length_take_le' i ps
        omega
      have lret : (Lat.runR o u k (ps.take i)).ret.length ≤ 30 := Nat.le_trans (nodup_len R1.nd ho.nd fun x hx => ((R1.mem x).mp hx).1) hol
      have lls : (Lat.runR o u k (ps.take i)).lists.length ≤ 60 := by
        rw [R1.ll]
        have := List.length_take_le' i ps
        omega
      rw [hrun]
      clear R1 R2 hrun
      generalize hS : Lat.runR o u k (ps.take i) = S at hLs hd hR nd2 lrng lret lls
      have nd2 : (S.ret ++ Lat.rowsOf o u k S m).Nodup := nd2
      obtain ⟨ts, hts, htl, htt⟩ := id hR
      -- recent
      have htl2 : ((ts.map V.ref).length : Int) = S.rng.length := by rw [List.length_map, htl]
      refine ⟨_, rfl, _, rfl, R, _, rfl, .inl (SqL.of hts), _, rfl, _, _, rfl, rfl, _, _, rfl, ?_⟩
      rw [max_if, htl2]
      refine ⟨_, rfl, R, _, rfl, SqL.of hts, fun rc nrc => ?_⟩
      rw [cut_drop (by omega), show (max 0 ((S.rng.length : Int) - k)).toNat = S.rng.length - k.toNat by omega]
      have s1 := same_upd (o := .lst ((ts.map V.ref).drop (S.rng.length - k.toNat))) nrc
      have hrc : RngAt (upd H' rc (.lst ((ts.map V.ref).drop (S.rng.length - k.toNat)))) rc (S.rng.drop (S.rng.length - k.toNat)) := RngAt.drop _ upd_same htl fun i t p x y => s1 _ _ (htt i t p x y)
      generalize upd H' rc (.lst ((ts.map V.ref).drop (S.rng.length - k.toNat))) = H1 at s1 hrc
      -- rows
      refine ⟨Nat.zero_le _, fun rw nrw => ?_⟩
      have s2 := same_upd (o := .lst []) nrw
      have hrw0 : IL (upd H1 rw (.lst [])) rw [] := upd_same
      have sB := s2
      generalize upd H1 rw (.lst []) = H2 at s2 hrw0 sB
      have s02 := hs.trans (s1.trans s2)
      refine ⟨_, rfl, _, rfl, _, rfl, a, _, rfl, SqL.of (s02 _ _ hA), fun y1 ny1 => ?_⟩
      rw [cut_take hmr.1, ← List.map_take]
      have s3 := same_upd (o := .lst ((o.take m.toNat).map V.int)) ny1
      refine ⟨y1, _, rfl, SqL.of upd_same, fun ns y2 hp hso ny2 => ?_⟩
      obtain rfl := Lat.srt_uniq hp hso
      have s4 := same_upd (o := .lst ((Lat.srt (o.take m.toNat)).map V.int)) ny2
      have hy2 : IL (upd (upd H2 y1 (.lst ((o.take m.toNat).map V.int))) y2 (.lst ((Lat.srt (o.take m.toNat)).map V.int))) y2 (Lat.srt (o.take m.toNat)) := upd_same
      have s24 := s3.trans s4
      have hrw2 : rw ≠ y2 := ne_of_none (s3 _ _ hrw0) ny2
      generalize upd (upd H2 y1 (.lst ((o.take m.toNat).map V.int))) y2 (.lst ((Lat.srt (o.take m.toNat)).map V.int)) = H4 at s24 hy2
      clear s3 s4 ny1 ny2
      have hLl : (Lat.srt (o.take m.toNat)).length ≤ 30 := by
        rw [Lat.srt_length]
        exact Nat.le_trans (List.length_take_le' _ _) hol
      refine ⟨y2, rfl, ⟨_, SqL.of hy2⟩, for_list (K := K) (a := y2) (xs := (Lat.srt (o.take m.toNat)).map V.int) (fun j σ H5 => ∃ z, σ = [some (.ref a), some (.ref b), some (.int u), some (.int k), some .non, some (.ref F), some (.ref d), some (.ref R), some (.int S.cur), some (.int m), some (.ref rc), some (.ref rw), z] ∧
          Same H1 H5 ∧ IL H5 y2 (Lat.srt (o.take m.toNat)) ∧ IL H5 rw (((Lat.srt (o.take m.toNat)).take j).filter (Lat.keeps u k S)))
        ⟨z12, rfl, sB.trans s24, hy2, s24 _ _ hrw0⟩ (fun j σ H5 _ ⟨_, _, _, h, _⟩ => SqL.of h) ?_ ?_⟩
      · rintro j y σ H5 hy ⟨z, rfl, h1, h2, h3⟩
        obtain ⟨v, hv, rfl⟩ := get_map hy
        have fs := filter_snoc (p := Lat.keeps u k S) hv
        have stay : ∀ {H6 : Hp}, Same H5 H6 → Lat.keeps u k S v = false → ∃ z, ([some (.ref a), some (.ref b), some (.int u), some (.int k), some .non, some (.ref F), some (.ref d), some (.ref R), some (.int S.cur), some (.int m), some (.ref rc), some (.ref rw), some (.int v)] : L2.St) = [some (.ref a), some (.ref b), some (.int u), some (.int k), some .non, some (.ref F), some (.ref d), some (.ref R), some (.int S.cur), some (.int m), some (.ref rc), some (.ref rw), z] ∧
            Same H1 H6 ∧ IL H6 y2 (Lat.srt (o.take m.toNat)) ∧ IL H6 rw (((Lat.srt (o.take m.toNat)).take (j + 1)).filter (Lat.keeps u k S)) := by
          intro H6 s6 hno
          refine ⟨_, rfl, h1.trans s6, s6 _ _ h2, ?_⟩
          rw [fs, hno, if_neg Bool.false_ne_true, List.append_nil]
          exact s6 _ _ h3
        have take : ∀ {H6 : Hp}, Same H5 H6 → Lat.keeps u k S v = true → ∃ l xs y, V.ref rw = .ref l ∧ [V.int v] = [y] ∧ H6 l = some (.lst xs) ∧ xs.length < sizeLine ∧ ∃ z, ([some (.ref a), some (.ref b), some (.int u), some (.int k), some .non, some (.ref F), some (.ref d), some (.ref R), some (.int S.cur), some (.int m), some (.ref rc), some (.ref rw), some (.int v)] : L2.St) = [some (.ref a), some (.ref b), some (.int u), some (.int k), some .non, some (.ref F), some (.ref d), some (.ref R), some (.int S.cur), some (.int m), some (.ref rc), some (.ref rw), z] ∧
            Same H1 (upd H6 l (.lst (xs ++ [y]))) ∧ IL (upd H6 l (.lst (xs ++ [y]))) y2 (Lat.srt (o.take m.toNat)) ∧ IL (upd H6 l (.lst (xs ++ [y]))) rw (((Lat.srt (o.take m.toNat)).take (j + 1)).filter (Lat.keeps u k S)) := by
          intro H6 s6 hyes
          refine ⟨rw, _, _, rfl, rfl, s6 _ _ h3, filter_few _ _ _ (by omega), _, rfl, same_new nrw (h1.trans s6), ?_, ?_⟩
          · show upd H6 rw _ y2 = _
            rw [upd_ne hrw2.symm]; exact s6 _ _ h2
          · show upd H6 rw _ rw = _
            rw [upd_same, fs, if_pos hyes, List.map_append]; rfl
        have hd5 := h1 _ _ (s1 _ _ hd)
        refine ⟨_, rfl, _, rfl, d, _, rfl, DGet.k (k := Sum.inl v) hd5, _, rfl, ?_⟩
        rw [valV_rdict]
        by_cases hret : v ∈ S.ret
        · rw [if_pos hret]
          refine iteF (iteF ?_)
          refine stay (Same.refl H5) ?_
          unfold Lat.keeps
          rw [decide_eq_true hret]; rfl
        · rw [if_neg hret]
          have hk0 : Lat.keeps u k S v = (decide (S.cur - u < v) || Lat.passed v (S.rng.drop (S.rng.length - k.toNat))) := by
            unfold Lat.keeps
            rw [decide_eq_false hret]; rfl
          refine iteT ?_
          refine ⟨_, rfl, _, rfl, _, rfl, _, _, rfl, rfl, _, _, rfl, rfl, _, rfl, ?_⟩
          refine ite2 (fun e => ?_) (fun e => ?_)
          · refine iteT ?_
            refine ⟨_, rfl, .inl ⟨rfl, _, SqL.of h3⟩, _, rfl, take (Same.refl H5) ?_⟩
            rw [hk0, e]; rfl
          · rw [Bool.not_eq_true] at e
            refine ⟨_, rfl, _, rfl, v, rc, _, rfl, hrc.keep h1, ?_, fun H6 s6 => ?_⟩
            · rw [List.length_drop]; omega
            refine ⟨_, rfl, ite2 (fun e2 => ?_) (fun e2 => ?_)⟩
            · refine ⟨_, rfl, .inl ⟨rfl, _, SqL.of (s6 _ _ h3)⟩, _, rfl, take s6 ?_⟩
              rw [hk0, e, e2]; rfl
            · rw [Bool.not_eq_true] at e2
              refine stay s6 ?_
              rw [hk0, e, e2]; rfl
      · rintro σ H5 ⟨z, rfl, h1, h2, h3⟩
        rw [List.length_map, List.take_length] at h3
        have h3 : IL H5 rw (Lat.rowsOf o u k S m) := h3
        have hrl : (Lat.rowsOf o u k S m).length ≤ 30 := Nat.le_trans (List.length_filter_le _ _) hLl
        generalize hrows : Lat.rowsOf o u k S m = rows at h3 hrl nd2
        have s5 := s1.trans h1
        have hLs5 := hLs.keep s5
        have hd5 := s5 _ _ hd
        have hR5 := hR.keep s5
        have s05 := hs.trans s5
        have hrwF : rw ≠ F := by
          obtain ⟨as, e, _⟩ := hLs
          exact (ne_of_none (s1 _ _ e) nrw).symm
        have hrwR : rw ≠ R := (ne_of_none (s1 _ _ hts) nrw).symm
        have hrwd : rw ≠ d := (ne_of_none (s1 _ _ hd) nrw).symm
        have hRd : R ≠ d := ne_of hts hd (by intro z; cases z)
        have hFd : F ≠ d := by
          obtain ⟨as, e, _⟩ := hLs
          exact ne_of e hd (by intro z; cases z)
        clear h1 h2 hLs hd hR hrc hrw0 hy2 s1 s2 sB s24 nrw nrc hrw2 hLl s02 hts htt htl htl2 ts hs s5
        -- page
        refine ⟨_, rfl, rfl, _, rfl, iteF ?_⟩
        -- returned
        refine ⟨_, rfl, .inr (.inr (.inl ⟨rfl, .inl ⟨_, hd5⟩⟩)), ?_⟩
        refine ⟨_, rfl, rw, rfl, ⟨_, SqL.of h3⟩, fun e ne => ?_⟩
        have se := same_upd (o := .dK []) ne
        have hrn : rows.Nodup := (List.nodup_append.mp nd2).2.1
        refine dc_it (walk_list (K := K) (a := rw) (xs := rows.map V.int)) (fun j H6 => Same H5 H6 ∧ H6 e = some (.dK (openD (rows.take j)))) ⟨se, upd_same⟩ (fun j H6 _ h => SqL.of (h.1 _ _ h3)) ?_ (fun H6 h6 => ?_)
        · rintro j x H6 H7 hj h ⟨rfl, hx⟩
          obtain ⟨v, hv, rfl⟩ := get_map hx
          refine ⟨rfl, yes (iteT ?_)⟩
          refine ⟨_, rfl, _, Sum.inl v, rfl, h.2, ?_, same_new ne h.1, ?_⟩
          · rw [rdict_len]
            have h2 : (rows.take j).length ≤ rows.length := List.length_take_le' _ _
            exact small1000 (by omega)
          · rw [upd_same, take_snoc hv]
            have e4 := put_rdict (f := fun _ => V.bl true) (not_ahead hrn hv)
            show some (HO.dK (putK (rdict (fun _ => V.bl true) (rows.take j)) (Sum.inl v) (V.bl true))) = _
            rw [e4]
        · rw [List.length_map, List.take_length] at h6
          obtain ⟨s6, he6⟩ := h6
          have hde : d ≠ e := ne_of_none hd5 ne
          have hd6 := s6 _ _ hd5
          refine ⟨d, e, _, _, rfl, rfl, hde, hd6, he6, ?_, ?_⟩
          · rw [rdict_len, rdict_len]; exact small_line (by omega)
          rw [merge_open rows S.ret nd2]
          have hLs7 := (hLs5.keep s6).write (o := .dK (openD (S.ret ++ rows))) hFd (fun l z => by cases hd6.symm.trans z)
          have hR7 := (hR5.keep s6).write (o := .dK (openD (S.ret ++ rows))) hd6 (by intro xs z; cases z) hRd
          have h37 : IL (upd H6 d (.dK (openD (S.ret ++ rows)))) rw rows := (upd_ne hrwd).trans (s6 _ _ h3)
          have hd7 : (upd H6 d (.dK (openD (S.ret ++ rows)))) d = some (.dK (openD (S.ret ++ rows))) := upd_same
          have s07 : Same H (upd H6 d (.dK (openD (S.ret ++ rows)))) := same_new nd0 (s05.trans s6)
          generalize upd H6 d (.dK (openD (S.ret ++ rows))) = H7 at hLs7 hR7 h37 hd7 s07
          clear s6 he6 hd6 hde se ne hLs5 hR5 hd5 h3 s05
          -- ranges
          obtain ⟨ts, hts, htl, htt⟩ := id hR7
          refine ⟨_, rfl, .inl ⟨rfl, _, SqL.of hts⟩, ?_⟩
          refine ⟨_, rfl, _, rfl, by show 1 ≤ sizeLine; decide, fun x nx => ?_⟩
          have s8 := same_upd (o := .lst [.int S.cur]) nx
          refine ⟨_, rfl, x, rw, _, _, rfl, rfl, upd_same, s8 _ _ h37, ?_, fun y ny => ?_⟩
          · rw [List.length_map]
            exact small_line (by simp only [List.length_singleton]; omega)
          refine ⟨y, S.cur :: rows, rfl, SqL.of upd_same, Nat.succ_pos _, fun mm hmm hle => ?_⟩
          have hmx := Lat.mx_uniq hmm hle
          have s9 := s8.trans (same_upd (o := .lst ([V.int S.cur] ++ rows.map V.int)) ny)
          generalize upd (upd H7 x (.lst [.int S.cur])) y (.lst ([V.int S.cur] ++ rows.map V.int)) = H8 at s9
          refine ⟨by show 2 ≤ sizeLine; decide, fun T nT => ?_⟩
          have s10 := s9.trans (same_upd (o := .tup [.int S.cur, .int mm]) nT)
          have hT : (upd H8 T (.tup [.int S.cur, .int mm])) T = some (.tup [.int S.cur, .int mm]) := upd_same
          generalize upd H8 T (.tup [.int S.cur, .int mm]) = H9 at s10 hT
          have hts9 := s10 _ _ hts
          refine ⟨R, _, _, rfl, rfl, hts9, ?_, ?_⟩
          · rw [List.length_map, htl]; exact small1000 (by omega)
          have hR10 := RngAt.snoc (p := (S.cur, mm)) hts9 htl (fun i t p x y => s10 _ _ (htt i t p x y)) hT
          have hLs10 := (hLs7.keep s10).write (o := .lst (ts.map V.ref ++ [.ref T])) hFR (fun l z => rfl)
          have h310 : IL (upd H9 R (.lst (ts.map V.ref ++ [.ref T]))) rw rows := (upd_ne hrwR).trans (s10 _ _ h37)
          have hd10 : (upd H9 R (.lst (ts.map V.ref ++ [.ref T]))) d = some (.dK (openD (S.ret ++ rows))) := (upd_ne hRd.symm).trans (s10 _ _ hd7)
          have hTR : T ≠ R := ne_of hT hts9 (by intro z; cases z)
          have hT10 : (upd H9 R (.lst (ts.map V.ref ++ [.ref T]))) T = some (.tup [.int S.cur, .int mm]) := (upd_ne hTR).trans hT
          have hRR : (upd H9 R (.lst (ts.map V.ref ++ [.ref T]))) R = some (.lst (ts.map V.ref ++ [.ref T])) := upd_same
          have s010 : Same H (upd H9 R (.lst (ts.map V.ref ++ [.ref T]))) := same_new nR0 (s07.trans s10)
          generalize upd H9 R (.lst (ts.map V.ref ++ [.ref T])) = H10 at hR10 hLs10 h310 hd10 hT10 hRR s010
          clear s8 s9 s10 hT hts9 hts htt hLs7 hR7 h37 hd7 s07 nx ny nT hTR
          -- cursor
          refine ⟨_, rfl, 1, rfl, R, _, -1, _, rfl, rfl, SqL.of hRR, ranges_last, T, _, _, _, rfl, rfl, SqT.of hT10, atI_nat (j := 1) rfl, ?_⟩
          -- found
          obtain ⟨as, hF10, hal, hLs11⟩ := hLs10.snoc h310 hrwF hrwR
          refine ⟨_, rfl, .inl ⟨rfl, _, SqL.of hF10⟩, _, rfl, F, _, _, rfl, rfl, hF10, ?_, ?_⟩
          · rw [List.length_map, hal]; exact small1000 (by omega)
          have hst : Lat.stepR o u k S m = { lists := S.lists ++ [rows], ret := S.ret ++ rows, rng := S.rng ++ [(S.cur, Lat.mx S.cur rows)], cur := Lat.mx S.cur rows } := by
            unfold Lat.stepR; rw [hrows]
          rw [hst, ← hmx]
          exact ⟨_, _, _, _, rfl, same_new nF0 s010, hLs11, (upd_ne hFd.symm).trans hd10, hR10.write hF10 (by intro xs z; cases z) hFR.symm⟩
    · rintro σ H' ⟨z9, z10, z11, z12, rfl, hs, hLs, _, _⟩
      rw [List.length_map, List.take_length] at hLs
      exact ⟨_, rfl, q H' F hs nF0 hLs.ls⟩
/-! ### read -/
abbrev s_read : Stmt := topS 52
theorem sc_read : FnScope ["order", "polls", "overlap", "wait", "page"] ["order", "polls", "overlap", "wait", "page"] (defScope s_read) := ⟨rfl, rfl, rfl, by decide +kernel, rfl, by decide +kernel, by decide +kernel⟩
def sp_read : Sp := fun vs H Q _ => ∃ (a b : Addr) (o ps : List Int) (u k : Int), vs = [.ref a, .ref b, .int u, .int k, .non] ∧ IL H a o ∧ OrdOk o ∧ IL H b ps ∧ ps.length ≤ 30 ∧ PollsOk o.length ps ∧ 1 ≤ u ∧ 0 ≤ k ∧ (u = 1 ∨ k = 0) ∧
  ∀ H' F, Same H H' → H F = none → LsAt H' F (Lat.runR o u k ps).lists → Q (.ref F) H'
theorem ok_read (T : Env mg) (C_require_reader : Cal P w K mg base "require_reader" 5 ["order", "polls", "overlap", "wait", "page"] [] sp_require_reader) (C_lists_of : Cal P w K mg base "lists_of" 2 ["order", "polls", "overlap", "wait", "page"] [] sp_lists_of) {f : Addr} {fd : FuncData} (F : FunD K "read" "read" (defArgs s_read) (defBody s_read) (defScope s_read) [] [("overlap", .int 1), ("wait", .int 0), ("page", .non)] f fd) : FnOk P w K mg base CX0 6 f fd ["order", "polls", "overlap", "wait", "page"] sp_read := by
  obtain ⟨f_require_reader, fd_require_reader, d_require_reader, G_require_reader, g_require_reader, k_require_reader, b_require_reader, v_require_reader⟩ := C_require_reader
  obtain ⟨f_lists_of, fd_lists_of, d_lists_of, G_lists_of, g_lists_of, k_lists_of, b_lists_of, v_lists_of⟩ := C_lists_of
  refine F.ok sc_read (fun vs H Q E h => ?_) (fun cdv A outer s H vs Q E hr h => ?_)
  · obtain ⟨a, b, o, ps, u, k, rfl, hA, ho, hB, hl, ok, hu, hk, huk, q⟩ := h
    rfl
  · obtain ⟨a, b, o, ps, u, k, rfl, hA, ho, hB, hl, ok, hu, hk, huk, q⟩ := h
    refine ⟨_, (pss_cons (ps_expr (pe_call G_require_reader (hr.mono (by decide)) (by rfl) g_require_reader k_require_reader b_require_reader v_require_reader pass0 (pa_cons (pv 0) (pa_cons (pv 1) (pa_cons (pv 2) (pa_cons (pv 3) (pa_cons (pv 4) pa_nil)))))))
      (pss_one (ps_ret (pe_call G_lists_of (hr.mono (by decide)) (by rfl) g_lists_of k_lists_of b_lists_of v_lists_of pass0 (pa_cons (pv 0) (pa_cons (pv 1) (pa_cons (pv 2) (pa_cons (pv 3) (pa_cons (pv 4) pa_nil))))))))), ?_⟩
    refine ⟨_, rfl, _, rfl, _, rfl, _, rfl, _, rfl, a, b, o, ps, u, k, rfl, hA, ho, hB, hl, ok, hu, hk, huk, fun H1 s1 => ?_⟩
    exact ⟨_, rfl, _, rfl, _, rfl, _, rfl, _, rfl, a, b, o, ps, u, k, rfl, s1 _ _ hA, ho, s1 _ _ hB, hl, ok, hu, hk, fun H2 F s2 nF hF => q H2 F (s1.trans s2) (s1.free nF) hF⟩
theorem s_ll : decide (V.str "lost" = V.str "lost") = true := by decide +kernel
theorem s_rl : decide (V.str "read" = V.str "lost") = false := by decide +kernel
theorem s_ol : decide (V.str "open" = V.str "lost") = false := by decide +kernel
theorem stV_lost (ret : List Int) (r : Int) : decide (stV ret r = V.str "lost") = (!decide (r ∈ ret) && decide (r < Lat.mx 0 ret)) := by
  unfold stV
  by_cases h : r ∈ ret
  · rw [if_pos h, s_rl, decide_eq_true h]; rfl
  · rw [if_neg h, decide_eq_false h]
    by_cases h2 : r < Lat.mx 0 ret
    · rw [if_pos h2, s_ll, decide_eq_true h2]; rfl
    · rw [if_neg h2, s_ol, decide_eq_false h2]; rfl
theorem stV_scal (ret : List Int) (r : Int) (x : Str) : scal (stV ret r) (.str x) = true := by
  unfold stV
  split
  · rfl
  · split <;> rfl
/-! ### lost_ids -/
abbrev s_lost_ids : Stmt := topS 53
theorem sc_lost_ids : FnScope ["order", "polls", "overlap", "wait", "page", "found", "row"] ["order", "polls", "overlap", "wait", "page"] (defScope s_lost_ids) := ⟨rfl, rfl, rfl, by decide +kernel, rfl, by decide +kernel, by decide +kernel⟩
def sp_lost_ids : Sp := fun vs H Q _ => ∃ (a b : Addr) (o ps : List Int) (u k : Int), vs = [.ref a, .ref b, .int u, .int k, .non] ∧ IL H a o ∧ OrdOk o ∧ IL H b ps ∧ ps.length ≤ 30 ∧ PollsOk o.length ps ∧ 1 ≤ u ∧ 0 ≤ k ∧ (u = 1 ∨ k = 0) ∧
  ∀ H' p, Same H H' → H p = none → IL H' p (Lat.lostL o ps u k) → Q (.ref p) H'
theorem ok_lost_ids (T : Env mg) (C_require_reader : Cal P w K mg base "require_reader" 5 ["order", "polls", "overlap", "wait", "page"] [] sp_require_reader) (C_states_in : Cal P w K mg base "states_in" 1 ["order", "lists"] [] sp_states_in) (C_lists_of : Cal P w K mg base "lists_of" 2 ["order", "polls", "overlap", "wait", "page"] [] sp_lists_of) {f : Addr} {fd : FuncData} (F : FunD K "lost_ids" "lost_ids" (defArgs s_lost_ids) (defBody s_lost_ids) (defScope s_lost_ids) [] [("overlap", .int 1), ("wait", .int 0), ("page", .non)] f fd) : FnOk P w K mg base CX0 6 f fd ["order", "polls", "overlap", "wait", "page"] sp_lost_ids := by
  obtain ⟨f_require_reader, fd_require_reader, d_require_reader, G_require_reader, g_require_reader, k_require_reader, b_require_reader, v_require_reader⟩ := C_require_reader
  obtain ⟨f_states_in, fd_states_in, d_states_in, G_states_in, g_states_in, k_states_in, b_states_in, v_states_in⟩ := C_states_in
  obtain ⟨f_lists_of, fd_lists_of, d_lists_of, G_lists_of, g_lists_of, k_lists_of, b_lists_of, v_lists_of⟩ := C_lists_of
  obtain ⟨t_LOST, c_LOST⟩ := T.c_LOST
  refine F.ok sc_lost_ids (fun vs H Q E h => ?_) (fun cdv A outer s H vs Q E hr h => ?_)
  · obtain ⟨a, b, o, ps, u, k, rfl, hA, ho, hB, hl, ok, hu, hk, huk, q⟩ := h
    rfl
  · obtain ⟨a, b, o, ps, u, k, rfl, hA, ho, hB, hl, ok, hu, hk, huk, q⟩ := h
    refine ⟨_, (pss_cons (ps_expr (pe_call G_require_reader (hr.mono (by decide)) (by rfl) g_require_reader k_require_reader b_require_reader v_require_reader pass0 (pa_cons (pv 0) (pa_cons (pv 1) (pa_cons (pv 2) (pa_cons (pv 3) (pa_cons (pv 4) pa_nil)))))))
      (pss_cons (ps_set (i := 5) sc_lost_ids.nd rfl (Or.inr rfl) (pe_call G_states_in (hr.mono (by decide)) (by rfl) g_states_in k_states_in b_states_in v_states_in pass0 (pa_cons (pv 0) (pa_cons (pe_call G_lists_of (hr.mono (by decide)) (by rfl) g_lists_of k_lists_of b_lists_of v_lists_of pass0 (pa_cons (pv 0) (pa_cons (pv 1) (pa_cons (pv 2) (pa_cons (pv 3) (pa_cons (pv 4) pa_nil)))))) pa_nil))))
      (pss_one (ps_ret (pe_lock (pe_lc (own := [("row", 6)]) (g := gName 6) rfl sc_lost_ids.nd (pi_keys (pv 5)) (blkOk_by (own := [("row", 6)]) (N := ["order", "polls", "overlap", "wait", "page", "found", "row"]) (sc := defScope s_lost_ids) (by decide +kernel)) (fun _ _ _ _ _ => (pg_name (i := 6) sc_lost_ids.nd rfl (Or.inl rfl))) (fun _ _ _ _ _ => (pts_one (pt_cmpR op_eq (pe_dget (hu_of hr) (pv 5) (pv 6) (fun _ _ => rfl)) (pe_glob (v := .str "lost") (by rfl) c_LOST ⟨_, rfl⟩) (nomark _)))) (fun _ _ _ _ _ => (pv 6)))))))), ?_⟩
    have R := Lat.run_ok ho hu hk ps ok
    have hret : (Lat.runR o u k ps).ret.length ≤ 30 := Nat.le_trans (nodup_len R.nd ho.nd fun x hx => ((R.mem x).mp hx).1) ho.len
    refine ⟨_, rfl, _, rfl, _, rfl, _, rfl, _, rfl, a, b, o, ps, u, k, rfl, hA, ho, hB, hl, ok, hu, hk, huk, fun H1 s1 => ?_⟩
    refine ⟨_, rfl, _, rfl, _, rfl, _, rfl, _, rfl, _, rfl, a, b, o, ps, u, k, rfl, s1 _ _ hA, ho, s1 _ _ hB, hl, ok, hu, hk, fun H2 F s2 nF hF => ?_⟩
    have hnd := R.nd
    rw [R.fl] at hnd hret
    refine ⟨a, F, o, _, rfl, s2 _ _ (s1 _ _ hA), ho, hF, hnd, by omega, fun H3 d s3 nd hd => ?_⟩
    rw [← R.fl] at hd
    have s13 := (s1.trans s2).trans s3
    refine ⟨d, _, hd, True.intro, fun od => ?_⟩
    refine ⟨_, rfl, d, od, rfl, .inl ⟨_, upd_same, fun D nD => ?_⟩⟩
    have s4 := same_upd (o := .lst []) nD
    have hndD : d ≠ D := ne_of_none upd_same nD
    have hnD : D ≠ d := fun z => hndD z.symm
    refine lc_it (walk_keys (d := d) (o := od) (kvs := rdict (stV (Lat.runR o u k ps).ret) (Lat.srt o))) (fun i H' => Same (upd H3 d (.frz od (.dK (rdict (stV (Lat.runR o u k ps).ret) (Lat.srt o))))) H' ∧ IL H' D (((Lat.srt o).take i).filter (Lat.lostB o (Lat.runR o u k ps)))) ⟨s4, upd_same⟩ (fun i H' _ h => h.1 _ _ upd_same) ?_ (fun H' h => ?_)
    · rintro i x H' H'' hi h ⟨rfl, kk, vv, hkv, rfl⟩
      have hkey : ∃ v, (Lat.srt o)[i]? = some v ∧ kk = Sum.inl v := by
        unfold rdict at hkv
        rw [List.getElem?_map] at hkv
        cases e : (Lat.srt o)[i]? with
        | none => rw [e] at hkv; cases hkv
        | some v =>
          rw [e] at hkv
          exact ⟨v, rfl, (congrArg Prod.fst (Option.some.inj hkv)).symm⟩
      obtain ⟨v, hv, rfl⟩ := hkey
      have fs := filter_snoc (p := Lat.lostB o (Lat.runR o u k ps)) hv
      have hg : valV (rdict (stV (Lat.runR o u k ps).ret) (Lat.srt o)) (Sum.inl v) = some (stV (Lat.runR o u k ps).ret v) := by rw [valV_rdict, if_pos (List.mem_of_getElem? hv)]
      refine ⟨rfl, _, rfl, _, rfl, d, _, rfl, .inl ⟨_, Sum.inl v, .inr ⟨od, h.1 _ _ upd_same⟩, rfl, hg.symm⟩, stV_scal _ _ _, _, rfl, ?_⟩
      rw [stV_lost]
      have hlb : (!decide (v ∈ (Lat.runR o u k ps).ret) && decide (v < Lat.mx 0 (Lat.runR o u k ps).ret)) = Lat.lostB o (Lat.runR o u k ps) v := rfl
      rw [hlb]
      refine ite2 (fun e => ?_) (fun e => ?_)
      · refine ⟨_, rfl, _, h.2, filter_few _ _ _ ?_, same_new nD h.1, ?_⟩
        · rw [Lat.srt_length]; have := ho.len; omega
        · show upd H'' D _ D = _
          rw [upd_same, fs, if_pos e, List.map_append]; rfl
      · refine ⟨h.1, ?_⟩
        rw [fs, if_neg e, List.append_nil]
        exact h.2
    · rw [rdict_len, List.take_length] at h
      refine ⟨h.1 _ _ upd_same, ?_⟩
      have hD0 : H3 D = none := by
        rw [upd_ne hnD] at nD; exact nD
      refine q _ D (s13.trans (same_unlock hd h.1)) (s13.free hD0) ?_
      show upd H' d _ D = _
      rw [upd_ne hnD]
      exact h.2
end
end K70
/-! #### K70Lk -/
set_option Elab.async false
set_option linter.all false
set_option maxRecDepth 100000
set_option maxHeartbeats 4000000
namespace K70
open PySem PySem.Spec PyProof.Rows L2
open Lat
/-- what both ways of a test may come to is shown once -/
theorem ite_once {c A B B' : Prop} [Decidable c] (h1 : c → B → A) (h2 : B → B') (h : B) : if c then A else B' := ite2 (fun e => h1 e h) (fun _ => h2 h)
/-! ### the law's pool of numbers -/
structure PoolV (a b c : Int) (N : Nat) : Prop where
  a0 : 0 ≤ a
  b0 : 0 ≤ b
  b1 : b ≤ 2305843009213793951
  c0 : 0 ≤ c
  c1 : c ≤ N
def PoolAt (H : Hp) (p : Addr) (N : Nat) : Prop := ∃ a b c : Int, H p = some (.lst [.int a, .int b, .int c]) ∧ PoolV a b c N
theorem PoolAt.mono {H : Hp} {p : Addr} {N M : Nat} (h : PoolAt H p N) (hm : N ≤ M) : PoolAt H p M := by
  obtain ⟨a, b, c, e, v⟩ := h
  exact ⟨a, b, c, e, v.a0, v.b0, v.b1, v.c0, Int.le_trans v.c1 (by omega)⟩
theorem PoolAt.some {H : Hp} {p : Addr} {N : Nat} (h : PoolAt H p N) : ∃ o, H p = some o := let ⟨_, _, _, e, _⟩ := h; ⟨_, e⟩
theorem PoolAt.same {H H' : Hp} {p : Addr} {N : Nat} (s : Same H H') (h : PoolAt H p N) : PoolAt H' p N := let ⟨a, b, c, e, v⟩ := h; ⟨a, b, c, s _ _ e, v⟩
theorem PoolAt.upd {H : Hp} {p q : Addr} {N : Nat} {o : HO} (h : PoolAt H p N) (ne : p ≠ q) : PoolAt (upd H q o) p N := let ⟨a, b, c, e, v⟩ := h; ⟨a, b, c, (upd_ne ne).trans e, v⟩
theorem PoolAt.ne {H : Hp} {p q : Addr} {N : Nat} (h : PoolAt H p N) (n : H q = none) : q ≠ p := by
  obtain ⟨_, _, _, e, _⟩ := h
  exact (ne_of_none e n).symm
/-- all but the pool stands -/
def SameX (p : Addr) (H H' : Hp) : Prop := ∀ b o, b ≠ p → H b = some o → H' b = some o
theorem SameX.refl (p : Addr) (H : Hp) : SameX p H H := fun _ _ _ e => e
theorem SameX.of {p : Addr} {H H' : Hp} (s : Same H H') : SameX p H H' := fun b o _ e => s b o e
theorem SameX.trans {p : Addr} {H H1 H2 : Hp} (a : SameX p H H1) (b : SameX p H1 H2) : SameX p H H2 := fun c o n e => b c o n (a c o n e)
theorem SameX.free {p q : Addr} {N : Nat} {H H1 : Hp} (s : SameX p H H1) (h : PoolAt H1 p N) (n : H1 q = none) : H q = none := by
  cases e : H q with
  | none => rfl
  | some o =>
    have := s q o (h.ne n) e
    rw [this] at n; cases n
theorem SameX.new {p q : Addr} {H H1 : Hp} {o : HO} (n : H q = none) (s : SameX p H H1) : SameX p H (upd H1 q o) := fun b u ne e => by
  rw [upd_ne (ne_of_none e n)]
  exact s b u ne e
theorem SameX.il {p b : Addr} {H H' : Hp} {ns : List Int} (s : SameX p H H') (ne : b ≠ p) (h : IL H b ns) : IL H' b ns := s _ _ ne h
/-- the d-th of a written list -/
def pick (l : List Int) (d : Int) : Int := l.getD d.toNat 0
theorem pick_at {l : List Int} {d : Int} (h0 : 0 ≤ d) (h1 : d < l.length) : atI (l.map V.int) d = some (.int (pick l d)) := by
  obtain ⟨n, rfl⟩ : ∃ n : Nat, d = (n : Int) := ⟨d.toNat, by omega⟩
  refine at_of rfl ?_
  unfold pick
  have hn : n < l.length := by omega
  rw [List.getElem?_map, List.getD_eq_getElem?_getD, Int.toNat_natCast, List.getElem?_eq_getElem hn]
  rfl
theorem pick_mem {l : List Int} {d : Int} (h0 : 0 ≤ d) (h1 : d < l.length) : pick l d ∈ l := by
  have hd : d.toNat < l.length := by omega
  unfold pick
  rw [List.getD_eq_getElem?_getD, List.getElem?_eq_getElem hd]
  exact List.getElem_mem _
theorem min_if (i j : Int) : (if j < i then j else i) = min i j := by
  by_cases h : j < i
  · rw [if_pos h]; omega
  · rw [if_neg h]; omega
/-- what list.pop(d) of the layer asks -/
theorem pop_at {l : List Int} {d : Int} (h0 : 0 ≤ d) (h1 : d < l.length) : seqIndex? d (l.map V.int).length = some d.toNat ∧ (l.map V.int)[d.toNat]? = some (.int (pick l d)) := by
  constructor
  · rw [List.length_map]
    unfold seqIndex?
    have e : (if d < 0 then d + (l.length : Int) else d) = d := if_neg (by omega)
    simp only [e]
    rw [if_pos (by simp; omega)]
  · have hd : d.toNat < l.length := by omega
    unfold pick
    rw [List.getElem?_map, List.getD_eq_getElem?_getD, List.getElem?_eq_getElem hd]; rfl
theorem pop_perm {l : List Int} {d : Int} (h0 : 0 ≤ d) (h1 : d < l.length) : (pick l d :: l.eraseIdx d.toNat).Perm l := by
  have hd : d.toNat < l.length := by omega
  have e : pick l d = l[d.toNat] := by
    unfold pick
    rw [List.getD_eq_getElem?_getD, List.getElem?_eq_getElem hd]; rfl
  rw [e]
  rw [List.eraseIdx_eq_take_drop_succ]
  have e2 : l = l.take d.toNat ++ (l[d.toNat] :: l.drop (d.toNat + 1)) := by rw [← List.drop_eq_getElem_cons hd, List.take_append_drop]
  exact List.perm_middle.symm.trans (by rw [← e2])
theorem pop_erase {l : List Int} {d : Int} (hn : l.Nodup) (h0 : 0 ≤ d) (h1 : d < l.length) : l.erase (pick l d) = l.eraseIdx d.toNat := by
  have hd : d.toNat < l.length := by omega
  have e : pick l d = l[d.toNat] := by
    unfold pick
    rw [List.getD_eq_getElem?_getD, List.getElem?_eq_getElem hd]; rfl
  rw [e, List.erase_eq_eraseIdx_of_idxOf]
  exact hn.idxOf_getElem _ hd
theorem map_erase (l : List Int) (k : Nat) : (l.map V.int).eraseIdx k = (l.eraseIdx k).map V.int := by
  rw [List.eraseIdx_eq_take_drop_succ, List.eraseIdx_eq_take_drop_succ, List.map_append, List.map_take, List.map_drop]
theorem OrdOk.perm {xs ys : List Int} (h : OrdOk xs) (p : ys.Perm xs) : OrdOk ys := ⟨p.nodup_iff.mpr h.nd, fun x hx => h.rng x (p.mem_iff.mp hx), by rw [p.length_eq]; exact h.len⟩
end K70
/-! #### K70A8 -/
set_option Elab.async false
set_option linter.all false
set_option maxRecDepth 100000
set_option maxHeartbeats 4000000
namespace K70
open PySem PySem.Spec PyProof.Rows L2
open Lat (OrdOk PollsOk)
section
variable {P : Program} {w : World} {K : PySem.W.Frag} {mg : Str → Option Value} {base : Heap}
/-! ### _law_pool -/
abbrev s_law_pool : Stmt := topS 55
theorem sc_law_pool : FnScope ["_law_script", "_law_at", "_law_cell"] ["_law_script", "_law_at"] (defScope s_law_pool) := ⟨rfl, rfl, rfl, by decide +kernel, rfl, by decide +kernel, by decide +kernel⟩
def sp_law_pool (K : PySem.W.Frag) : Sp := fun vs H Q _ => ∃ (s : Addr) (n : Int) (ns : List Int), vs = [.ref s, .int n] ∧ SqL K H s (ns.map V.int) ∧ 0 ≤ n ∧ n ≤ 5 ∧ ∀ H' p, Same H H' → H p = none → PoolAt H' p 0 → Q (.ref p) H'
theorem cal_law_pool (T : Env mg) (At : AtN K mg "_law_pool" s_law_pool) : Cal P w K mg base "_law_pool" 1 ["_law_script", "_law_at"] [] (sp_law_pool K) := by
  refine cal_mk At (fun F => F.binds (ps := ["_law_script", "_law_at"]) fun _ _ _ _ _ _ us hl => match us, hl with | [_, _], _ => rfl) fun F => ?_
  have m_abs := T.m_abs
  have m_len := T.m_len
  have m_max := T.m_max
  refine F.ok sc_law_pool (fun vs H Q E h => ?_) (fun cdv A outer s H vs Q E hr h => ?_)
  · obtain ⟨sc, n, ns, rfl, hS, h0, h5, q⟩ := h
    rfl
  · obtain ⟨sc, n, ns, rfl, hS, h0, h5, q⟩ := h
    refine ⟨_, (pss_cons (ps_set (i := 2) sc_law_pool.nd rfl (Or.inl rfl) (pe_ifExp (pt_cmpR op_lt (pv 1) (pe_callB call_len_seq (by rfl) m_len (by decide +kernel) (pa_cons (pv 0) pa_nil)) (nomark _)) (pe_ix (ix_listK K rfl) (pv 0) (pv 1) (fun _ _ => rfl)) pe_int))
      (pss_one (ps_ret (pe_lst (pa_cons (pe_callB (call_max2 rfl) (by rfl) m_max (by decide +kernel) (pa_cons pe_int (pa_cons (pe_op op_sub (pe_callB call_abs (by rfl) m_abs (by decide +kernel) (pa_cons (pv 2) pa_nil)) (pe_op op_powW pe_int pe_int)) pa_nil))) (pa_cons (pe_op op_add (pe_op op_mod (pv 2) pe_int) (pe_op op_mul pe_int (pe_op op_add (pv 1) pe_int))) (pa_cons pe_int pa_nil))))))), ?_⟩
    have hl : (ns.map V.int).length = ns.length := List.length_map ..
    refine ⟨_, rfl, _, rfl, sc, _, rfl, .inl hS, _, _, rfl, rfl, _, rfl, ite2 (fun e => ?_) (fun e => ?_)⟩
    · have e := of_decide_eq_true e
      rw [hl] at e
      refine ⟨_, rfl, _, rfl, sc, _, _, _, rfl, rfl, hS, pick_at h0 e, ?_⟩
      generalize pick ns n = c
      refine ⟨_, rfl, _, rfl, 10, 18, rfl, rfl, powW_ok (n := 4) (by decide) (by decide) (by decide) (by decide), _, _, rfl, rfl, _, _, rfl, ?_⟩
      refine ⟨_, rfl, _, _, rfl, rfl, (show (0 : Int) < 2305843009213693951 by decide), _, rfl, _, _, rfl, rfl, _, _, rfl, rfl, .inl ⟨by decide, by decide⟩, _, _, rfl, rfl, by show 3 ≤ sizeLine; decide, fun p np => ?_⟩
      rw [max_if]
      have m0 := Int.emod_nonneg c (show (2305843009213693951 : Int) ≠ 0 by decide)
      have m1 := Int.emod_lt_of_pos c (show (0 : Int) < 2305843009213693951 by decide)
      refine q _ p (same_upd np) np ⟨_, _, _, upd_same, ?_, ?_, ?_, Int.le_refl _, Int.le_refl _⟩
      · omega
      · omega
      · omega
    · refine ⟨_, rfl, _, rfl, 10, 18, rfl, rfl, powW_ok (n := 4) (by decide) (by decide) (by decide) (by decide), _, _, rfl, rfl, _, _, rfl, ?_⟩
      refine ⟨_, rfl, _, _, rfl, rfl, (show (0 : Int) < 2305843009213693951 by decide), _, rfl, _, _, rfl, rfl, _, _, rfl, rfl, .inl ⟨by decide, by decide⟩, _, _, rfl, rfl, by show 3 ≤ sizeLine; decide, fun p np => ?_⟩
      rw [max_if]
      have m0 := Int.emod_nonneg (0 : Int) (show (2305843009213693951 : Int) ≠ 0 by decide)
      have m1 := Int.emod_lt_of_pos (0 : Int) (show (0 : Int) < 2305843009213693951 by decide)
      refine q _ p (same_upd np) np ⟨_, _, _, upd_same, ?_, ?_, ?_, Int.le_refl _, Int.le_refl _⟩
      · omega
      · omega
      · omega
theorem sameX_write {p : Addr} {H : Hp} {o : HO} : SameX p H (upd H p o) := fun b u ne e => by rw [upd_ne ne]; exact e
theorem mix_bound {x y : Int} {n : Nat} (h0 : 0 ≤ x) (h1 : x < 2 ^ n) : x.natAbs < 2 ^ n := by
  have : ((x.natAbs : Nat) : Int) < ((2 ^ n : Nat) : Int) := by
    rw [Int.natAbs_of_nonneg h0]
    simpa using h1
  exact Int.ofNat_lt.mp this
/-! ### _law_draw -/
abbrev s_law_draw : Stmt := topS 56
theorem sc_law_draw : FnScope ["_law_pool_here", "_law_many", "_law_drawn", "_law_mixed"] ["_law_pool_here", "_law_many"] (defScope s_law_draw) := ⟨rfl, rfl, rfl, by decide +kernel, rfl, by decide +kernel, by decide +kernel⟩
def sp_law_draw : Sp := fun vs H Q _ => ∃ (a : Addr) (N : Nat) (many : Int), vs = [.ref a, .int many] ∧ PoolAt H a N ∧ N ≤ 90000 ∧ 1 ≤ many ∧ many ≤ 33000000000000000000000000000 ∧
  ∀ H' d, SameX a H H' → PoolAt H' a (N + 1) → 0 ≤ d → d < many → Q (.int d) H'
theorem cal_law_draw (T : Env mg) (At : AtN K mg "_law_draw" s_law_draw) : Cal P w K mg base "_law_draw" 1 ["_law_pool_here", "_law_many"] [] sp_law_draw := by
  refine cal_mk At (fun F => F.binds (ps := ["_law_pool_here", "_law_many"]) fun _ _ _ _ _ _ us hl => match us, hl with | [_, _], _ => rfl) fun F => ?_
  refine F.ok sc_law_draw (fun vs H Q E h => ?_) (fun cdv A outer s H vs Q E hr h => ?_)
  · obtain ⟨a, N, many, rfl, ⟨x, y, z, hP, v⟩, hN, h1, h2, q⟩ := h
    rfl
  · obtain ⟨a, N, many, rfl, ⟨x, y, z, hP, v⟩, hN, h1, h2, q⟩ := h
    refine ⟨_, (pss_cons (ps_if (pt_cmpR op_gt (pe_ix (ix_listK K rfl) (pv 0) pe_int (fun _ _ => rfl)) pe_int (nomark _)) (pss_cons (ps_set (i := 2) sc_law_draw.nd rfl (Or.inl rfl) (pe_op op_mod (pe_ix (ix_listK K rfl) (pv 0) pe_int (fun _ _ => rfl)) (pv 1)))
          (pss_cons (ps_asg (pe_op op_fdivW (pe_ix (ix_listK K rfl) (pv 0) pe_int (fun _ _ => rfl)) (pv 1)) (pg_sub (pv 0) pe_int set_list))
          (pss_one (ps_ret (pv 2))))) pss_nil)
      (pss_cons (ps_asg (pe_op op_add (pe_ix (ix_listK K rfl) (pv 0) pe_int (fun _ _ => rfl)) pe_int) (pg_sub (pv 0) pe_int set_list))
      (pss_cons (ps_set (i := 3) sc_law_draw.nd rfl (Or.inl rfl) (pe_op op_mod (pe_op op_powW (pe_op op_add (pe_ix (ix_listK K rfl) (pv 0) pe_int (fun _ _ => rfl)) (pe_op op_mul pe_int (pe_ix (ix_listK K rfl) (pv 0) pe_int (fun _ _ => rfl)))) pe_int) pe_int))
      (pss_cons (ps_set (i := 3) sc_law_draw.nd rfl (Or.inl rfl) (pe_op op_mod (pe_op op_powW (pe_op op_add (pv 3) (pe_op op_mul pe_int (pe_ix (ix_listK K rfl) (pv 0) pe_int (fun _ _ => rfl)))) pe_int) pe_int))
      (pss_one (ps_ret (pe_op op_mod (pe_op op_fdivW (pv 3) pe_int) (pv 1)))))))), ?_⟩
    have va := v.a0
    have vb := v.b0
    have vb1 := v.b1
    have vc := v.c0
    have vc1 := v.c1
    refine ⟨_, rfl, a, _, _, .int x, rfl, rfl, SqL.of hP, atI_nat (j := 0) rfl, _, _, rfl, rfl, _, rfl, ite2 (fun e => ?_) (fun e => ?_)⟩
    · have e := of_decide_eq_true e
      refine ⟨_, rfl, a, _, _, .int x, rfl, rfl, SqL.of hP, atI_nat (j := 0) rfl, _, rfl, _, _, rfl, rfl, (show 0 < many by omega), ?_⟩
      refine ⟨_, rfl, a, _, _, .int x, rfl, rfl, SqL.of hP, atI_nat (j := 0) rfl, _, rfl, _, _, rfl, rfl, wide_div (b := 100) (by omega) (mix_bound (y := 0) (by omega) (Int.lt_of_le_of_lt h2 (by decide))) (by decide) (by decide), _, rfl, a, _, 0, 0, rfl, rfl, hP, rfl, ?_⟩
      refine ⟨_, rfl, q _ _ sameX_write ⟨x / many, y, z, upd_same, ?_, vb, vb1, vc, by omega⟩ (Int.emod_nonneg _ (by omega)) (Int.emod_lt_of_pos _ (by omega))⟩
      exact Int.ediv_nonneg va (by omega)
    · refine ⟨_, rfl, a, _, _, .int z, rfl, rfl, SqL.of hP, atI_nat (j := 2) rfl, _, _, rfl, rfl, _, rfl, a, _, 2, 2, rfl, rfl, hP, rfl, ?_⟩
      have hP2 : (upd H a (.lst [.int x, .int y, .int (z + 1)])) a = some (.lst [.int x, .int y, .int (z + 1)]) := upd_same
      have sx : SameX a H (upd H a (.lst [.int x, .int y, .int (z + 1)])) := sameX_write
      show tNext _ _ (upd H a (.lst [.int x, .int y, .int (z + 1)]))
      generalize upd H a (.lst [.int x, .int y, .int (z + 1)]) = H1 at hP2 sx
      refine ⟨_, rfl, a, _, _, .int y, rfl, rfl, SqL.of hP2, atI_nat (j := 1) rfl, _, rfl, a, _, _, .int (z + 1), rfl, rfl, SqL.of hP2, atI_nat (j := 2) rfl, _, _, rfl, rfl, .inl ⟨by decide, by decide⟩, _, _, rfl, rfl, _, _, rfl, rfl, ?_, _, _, rfl, rfl, ?_, ?_⟩
      · exact powW_ok (n := 63) (by decide) (mix_bound (y := 0) (by omega) (Int.lt_of_le_of_lt (show y + 104729 * (z + 1) ≤ 2305843009213793951 + 104729 * 90001 by omega) (by decide))) (by decide) (by decide)
      · exact (show (0 : Int) < 618970019642690137449562111 by decide)
      have m0 := Int.emod_nonneg ((y + 104729 * (z + 1)) ^ (Int.toNat 3)) (show (618970019642690137449562111 : Int) ≠ 0 by decide)
      have m1 := Int.emod_lt_of_pos ((y + 104729 * (z + 1)) ^ (Int.toNat 3)) (show (0 : Int) < 618970019642690137449562111 by decide)
      show tNext _ (List.set _ _ (some (V.int ((y + 104729 * (z + 1)) ^ (Int.toNat 3) % 618970019642690137449562111)))) H1
      generalize (y + 104729 * (z + 1)) ^ (Int.toNat 3) % 618970019642690137449562111 = mm at m0 m1
      refine ⟨_, rfl, _, rfl, a, _, _, .int (z + 1), rfl, rfl, SqL.of hP2, atI_nat (j := 2) rfl, _, _, rfl, rfl, .inl ⟨by decide, by decide⟩, _, _, rfl, rfl, _, _, rfl, rfl, ?_, _, _, rfl, rfl, ?_, ?_⟩
      · exact powW_ok (n := 100) (by decide) (mix_bound (y := 0) (by omega) (Int.lt_of_le_of_lt (show mm + 1299709 * (z + 1) ≤ 618970019642690137449562111 + 1299709 * 90001 by omega) (by decide))) (by decide) (by decide)
      · exact (show (0 : Int) < 162259276829213363391578010288127 by decide)
      refine ⟨_, rfl, _, _, rfl, rfl, wide_div (b := 20) (by decide) (by decide) (by decide) (by decide), _, rfl, _, _, rfl, rfl, (show 0 < many by omega), ?_⟩
      exact q _ _ sx ⟨x, y, z + 1, hP2, va, vb, vb1, by omega, by omega⟩ (Int.emod_nonneg _ (by omega)) (Int.emod_lt_of_pos _ (by omega))
end
end K70
/-! #### K70A9 -/
set_option Elab.async false
set_option linter.all false
set_option maxRecDepth 100000
set_option maxHeartbeats 4000000
namespace K70
open PySem PySem.Spec PyProof.Rows L2
open Lat (OrdOk PollsOk)
section
variable {P : Program} {w : World} {K : PySem.W.Frag} {mg : Str → Option Value} {base : Heap}
theorem gap_ok : ∀ g ∈ ([1, 3, 33 * 10 ^ Int.toNat 27] : List Int), 1 ≤ g ∧ g ≤ 33000000000000000000000000000 := by decide +kernel
theorem out_ok : ∀ g ∈ ([1, 2, 4, 40] : List Int), 1 ≤ g ∧ g ≤ 40 := by decide +kernel
/-! ### _law_order -/
abbrev s_law_order : Stmt := topS 58
theorem sc_law_order : FnScope ["_law_pool_here", "_law_most", "_law_gap", "_law_most_out", "_law_row", "_law_left", "_law_turn", "_law_found"] ["_law_pool_here", "_law_most"] (defScope s_law_order) := ⟨rfl, rfl, rfl, by decide +kernel, rfl, by decide +kernel, by decide +kernel⟩
def sp_law_order : Sp := fun vs H Q _ => ∃ (a : Addr) (N : Nat) (most : Int), vs = [.ref a, .int most] ∧ PoolAt H a N ∧ N ≤ 50000 ∧ 0 ≤ most ∧ most ≤ 30 ∧
  ∀ H' p o, SameX a H H' → H p = none → IL H' p o → PoolAt H' a (N + 100) → OrdOk o → (o.length : Int) ≤ most → Q (.ref p) H'
theorem cal_law_order (T : Env mg) (At : AtN K mg "_law_order" s_law_order) (C_law_draw : Cal P w K mg base "_law_draw" 1 ["_law_pool_here", "_law_many"] [] sp_law_draw) : Cal P w K mg base "_law_order" 2 ["_law_pool_here", "_law_most"] [] sp_law_order := by
  refine cal_mk At (fun F => F.binds (ps := ["_law_pool_here", "_law_most"]) fun _ _ _ _ _ _ us hl => match us, hl with | [_, _], _ => rfl) fun F => ?_
  obtain ⟨f_law_draw, fd_law_draw, d_law_draw, G_law_draw, g_law_draw, k_law_draw, b_law_draw, v_law_draw⟩ := C_law_draw
  have m_len := T.m_len
  have m_min := T.m_min
  have m_range := T.m_range
  refine F.ok sc_law_order (fun vs H Q E h => ?_) (fun cdv A outer s H vs Q E hr h => ?_)
  · obtain ⟨a, N, most, rfl, hP, hN, hm0, hm1, q⟩ := h
    rfl
  · obtain ⟨a, N, most, rfl, hP, hN, hm0, hm1, q⟩ := h
    refine ⟨_, (pss_cons (ps_asg (pe_tup (pa_cons (pe_ix (ix_listK K rfl) (pe_lst (pa_cons pe_int (pa_cons pe_int (pa_cons (pe_op op_mul pe_int (pe_op op_powW pe_int pe_int)) pa_nil)))) (pe_call G_law_draw (hr.mono (by decide)) (by rfl) g_law_draw k_law_draw b_law_draw v_law_draw pass0 (pa_cons (pv 0) (pa_cons pe_int pa_nil))) (fun _ _ => rfl)) (pa_cons (pe_ix (ix_listK K rfl) (pe_lst (pa_cons pe_int (pa_cons pe_int (pa_cons pe_int (pa_cons pe_int pa_nil))))) (pe_call G_law_draw (hr.mono (by decide)) (by rfl) g_law_draw k_law_draw b_law_draw v_law_draw pass0 (pa_cons (pv 0) (pa_cons pe_int pa_nil))) (fun _ _ => rfl)) (pa_cons pe_int (pa_cons (pe_lst pa_nil) pa_nil))))) (pg_tupK K (n := 4) rfl rfl (pgs_cons (pg_name (i := 2) sc_law_order.nd rfl (Or.inl rfl)) (pgs_cons (pg_name (i := 3) sc_law_order.nd rfl (Or.inl rfl)) (pgs_cons (pg_name (i := 4) sc_law_order.nd rfl (Or.inl rfl)) (pgs_cons (pg_name (i := 5) sc_law_order.nd rfl (Or.inl rfl)) pgs_nil))))))
      (pss_cons (ps_for PassesOwn.never rfl (pi_range1 (by rfl) m_range (pa_cons (pe_call G_law_draw (hr.mono (by decide)) (by rfl) g_law_draw k_law_draw b_law_draw v_law_draw pass0 (pa_cons (pv 0) (pa_cons (pe_op op_add (pv 1) pe_int) pa_nil))) pa_nil)) (pg_name (i := 6) sc_law_order.nd rfl (Or.inl rfl)) (pss_cons (ps_set (i := 4) sc_law_order.nd rfl (Or.inl rfl) (pe_op op_add (pe_op op_add (pv 4) pe_int) (pe_call G_law_draw (hr.mono (by decide)) (by rfl) g_law_draw k_law_draw b_law_draw v_law_draw pass0 (pa_cons (pv 0) (pa_cons (pv 2) pa_nil)))))
          (pss_one (ps_expr (pe_bm PySem.F.plainAttrs_list PySem.F.slot_list_append PySem.F.type_list_append mt_append (pv 5) (pa_cons (pv 4) pa_nil))))))
      (pss_cons (ps_set (i := 7) sc_law_order.nd rfl (Or.inl rfl) (pe_lst pa_nil))
      (pss_cons (ps_while PassesOwn.never (pt_cmpR (op_neD hr.units) (pv 5) (pe_lst pa_nil) (nomark _)) (pss_one (ps_expr (pe_bm PySem.F.plainAttrs_list PySem.F.slot_list_append PySem.F.type_list_append mt_append (pv 7) (pa_cons (pe_bm PySem.F.plainAttrs_list PySem.F.slot_list_pop PySem.F.type_list_pop mt_popAt (pv 5) (pa_cons (pe_call G_law_draw (hr.mono (by decide)) (by rfl) g_law_draw k_law_draw b_law_draw v_law_draw pass0 (pa_cons (pv 0) (pa_cons (pe_callB (call_min2 rfl) (by rfl) m_min (by decide +kernel) (pa_cons (pv 3) (pa_cons (pe_callB call_len_seq (by rfl) m_len (by decide +kernel) (pa_cons (pv 5) pa_nil)) pa_nil))) pa_nil))) pa_nil)) pa_nil)))))
      (pss_one (ps_ret (pe_ifExp (pt_cmpR op_eq (pe_call G_law_draw (hr.mono (by decide)) (by rfl) g_law_draw k_law_draw b_law_draw v_law_draw pass0 (pa_cons (pv 0) (pa_cons pe_int pa_nil))) pe_int (nomark _)) (pe_revL (pv 7)) (pv 7)))))))), ?_⟩
    refine ⟨10, 27, rfl, rfl, powW_ok (n := 4) (by decide) (by decide) (by decide) (by decide), _, _, rfl, rfl, .inl ⟨by decide, by decide⟩, by show 3 ≤ sizeLine; decide, fun x nx => ?_⟩
    have sx := SameX.of (p := a) (same_upd (o := .lst [.int 1, .int 3, .int (33 * 10 ^ Int.toNat 27)]) nx)
    have hx : IL (upd H x (.lst [.int 1, .int 3, .int (33 * 10 ^ Int.toNat 27)])) x [1, 3, 33 * 10 ^ Int.toNat 27] := upd_same
    have px := hP.upd (o := .lst [.int 1, .int 3, .int (33 * 10 ^ Int.toNat 27)]) (hP.ne nx).symm
    refine ⟨_, rfl, a, N, 3, rfl, px, by omega, by decide, by decide, fun H1 d1 s1 p1 h10 h11 => ?_⟩
    have hg := gap_ok _ (pick_mem (l := [1, 3, 33 * 10 ^ Int.toNat 27]) h10 (by simpa using h11))
    refine ⟨x, _, _, _, rfl, rfl, SqL.of (s1.il (hP.ne nx) hx), pick_at (l := [1, 3, 33 * 10 ^ Int.toNat 27]) h10 (by simpa using h11), ?_⟩
    generalize pick [1, 3, 33 * 10 ^ Int.toNat 27] d1 = gap at hg
    have t1 := sx.trans s1
    refine ⟨by show 4 ≤ sizeLine; decide, fun y ny => ?_⟩
    have sy := SameX.of (p := a) (same_upd (o := .lst [.int 1, .int 2, .int 4, .int 40]) ny)
    have hy : IL (upd H1 y (.lst [.int 1, .int 2, .int 4, .int 40])) y [1, 2, 4, 40] := upd_same
    have py := p1.upd (o := .lst [.int 1, .int 2, .int 4, .int 40]) (p1.ne ny).symm
    refine ⟨_, rfl, a, N + 1, 4, rfl, py, by omega, by decide, by decide, fun H2 d2 s2 p2 h20 h21 => ?_⟩
    have ho := out_ok _ (pick_mem (l := [1, 2, 4, 40]) h20 (by simpa using h21))
    refine ⟨y, _, _, _, rfl, rfl, SqL.of (s2.il (p1.ne ny) hy), pick_at (l := [1, 2, 4, 40]) h20 (by simpa using h21), ?_⟩
    generalize pick [1, 2, 4, 40] d2 = mo at ho
    have t2 := (t1.trans sy).trans s2
    clear s1 sx hx px sy hy py s2 t1 p1
    refine ⟨Nat.zero_le _, fun L nL => ?_⟩
    refine ⟨by show 4 ≤ sizeLine; decide, fun U nU => ?_⟩
    refine ⟨U, _, rfl, SqT.of upd_same, rfl, _, _, rfl, _, _, rfl, _, _, rfl, _, [], rfl, rfl, ?_⟩
    have nL0 : H L = none := t2.free p2 nL
    have hLa : L ≠ a := p2.ne nL
    have pL := p2.upd (o := .lst []) hLa.symm
    have t3 := (t2.trans (.of (same_upd (o := .lst []) nL))).trans (.of (same_upd (o := .tup [.int gap, .int mo, .int 0, .ref L]) nU))
    have p3 := pL.upd (o := .tup [.int gap, .int mo, .int 0, .ref L]) (pL.ne nU).symm
    have hL3 : IL (upd (upd H2 L (.lst [])) U (.tup [.int gap, .int mo, .int 0, .ref L])) L [] := same_upd nU _ _ upd_same
    generalize upd (upd H2 L (.lst [])) U (.tup [.int gap, .int mo, .int 0, .ref L]) = H3 at t3 p3 hL3
    clear t2 p2 pL nL nU
    refine ⟨_, rfl, _, rfl, _, _, rfl, rfl, a, N + 1 + 1, most + 1, rfl, p3, by omega, by omega, by omega, fun H4 kk s4 p4 hk0 hk1 => ?_⟩
    refine ⟨kk, rfl, by omega, by omega, for_range (lo := 0) (n := kk.toNat) (fun i σ H' => ∃ (row : Int) (l : List Int) (z : Option V), σ = [some (.ref a), some (.int most), some (.int gap), some (.int mo), some (.int row), some (.ref L), z, none] ∧ SameX a H H' ∧ PoolAt H' a (N + 3 + i) ∧ IL H' L l ∧ l.length = i ∧ 0 ≤ row ∧
        row ≤ i * 33000000000000000000000000000 ∧ l.Pairwise (fun x y => x < y) ∧ ∀ x ∈ l, 1 ≤ x ∧ x ≤ row) ⟨0, [], none, rfl, t3.trans s4, p4, s4.il hLa hL3, rfl, Int.le_refl _, by omega, .nil, by simp⟩ ?_ ?_⟩
    · rintro i σ H5 hi ⟨row, l, z, rfl, s5, p5, hl, hlen, hr0, hr1, hpw, hall⟩
      refine ⟨_, rfl, _, _, rfl, rfl, _, rfl, _, rfl, a, N + 3 + i, gap, rfl, p5, by omega, hg.1, hg.2, fun H6 d6 s6 p6 h60 h61 => ?_⟩
      refine ⟨_, _, rfl, rfl, ?_⟩
      have hl6 := s6.il hLa hl
      refine ⟨_, rfl, .inl ⟨rfl, _, SqL.of hl6⟩, _, rfl, L, _, _, rfl, rfl, hl6, ?_, ?_⟩
      · rw [List.length_map, hlen]; exact small1000 (by omega)
      refine ⟨row + 1 + d6, l ++ [row + 1 + d6], _, rfl, SameX.new nL0 (s5.trans s6), (p6.upd hLa.symm).mono (by omega), ?_, ?_, by omega, ?_, ?_, ?_⟩
      · show upd H6 L _ L = _
        rw [upd_same, List.map_append]; rfl
      · rw [List.length_append, hlen]; rfl
      · have e : ((i + 1 : Nat) : Int) * 33000000000000000000000000000 = (i : Int) * 33000000000000000000000000000 + 33000000000000000000000000000 := by omega
        rw [e]
        have := hg.2
        omega
      · refine List.pairwise_append.mpr ⟨hpw, by simp, fun x hx y hy => ?_⟩
        have := (hall x hx).2
        have : y = row + 1 + d6 := by simpa using hy
        omega
      · intro x hx
        rcases List.mem_append.mp hx with h | h
        · have := hall x h; omega
        · have : x = row + 1 + d6 := by simpa using h
          omega
    · rintro σ H5 ⟨row, l0, z, rfl, s5, p5, hl, hlen, hr0, hr1, hpw, hall⟩
      have hord : OrdOk l0 := by
        refine ⟨?_, fun x hx => ?_, by omega⟩
        · exact hpw.imp fun {x y} h => by omega
        · have := hall x hx
          refine ⟨this.1, ?_⟩
          omega
      refine ⟨Nat.zero_le _, fun F nF => ?_⟩
      have nF0 : H F = none := s5.free p5 nF
      have hFa : F ≠ a := p5.ne nF
      have hFL : F ≠ L := (ne_of_none hl nF).symm
      have hl0 : l0.length ≤ 30 := by omega
      refine ⟨fun m σ H' => ∃ (f l : List Int), σ = [some (.ref a), some (.int most), some (.int gap), some (.int mo), some (.int row), some (.ref L), z, some (.ref F)] ∧ SameX a H H' ∧ PoolAt H' a (N + 33 + f.length) ∧ IL H' L l ∧ IL H' F f ∧ (f ++ l).Perm l0 ∧ m = l.length,
        ⟨l0.length, [], l0, rfl, s5.trans (.of (same_upd nF)), (p5.upd hFa.symm).mono (by simp; omega), same_upd nF _ _ hl, upd_same, by simp, rfl⟩, ?_⟩
      rintro m σ H6 ⟨f, l, rfl, s6, p6, hl6, hf6, hperm, rfl⟩
      have hfl : f.length + l.length = l0.length := by rw [← List.length_append]; exact hperm.length_eq
      refine ⟨_, rfl, Nat.zero_le _, fun w nw => ?_⟩
      have sw := same_upd (o := .lst []) nw
      have p7 := p6.upd (o := .lst []) (p6.ne nw).symm
      have hl7 := sw _ _ hl6
      have hf7 := sw _ _ hf6
      have s7 := s6.trans (.of sw)
      have hnw : (upd H6 w (.lst [])) w = some (.lst []) := upd_same
      generalize upd H6 w (.lst []) = H7 at sw p7 hl7 hf7 s7 hnw
      refine ne_ints (ms := []) (SqL.of hl7) (SqL.of hnw) ⟨_, rfl, ?_⟩
      refine ite2 (fun e => ?_) (fun e => ?_)
      · have hne : l ≠ [] := by simpa using e
        have hlp : 0 < l.length := List.length_pos_iff.mpr hne
        refine ⟨fun σ' H' => ∃ m', m' < l.length ∧ ∃ (f l : List Int), σ' = [some (.ref a), some (.int most), some (.int gap), some (.int mo), some (.int row), some (.ref L), z, some (.ref F)] ∧ SameX a H H' ∧ PoolAt H' a (N + 33 + f.length) ∧ IL H' L l ∧ IL H' F f ∧ (f ++ l).Perm l0 ∧ m' = l.length, fun σ' H' h => h, ?_⟩
        have hll : (l.map V.int).length = l.length := List.length_map ..
        refine ⟨_, rfl, .inl ⟨rfl, _, SqL.of hf7⟩, _, rfl, .inl ⟨rfl, _, SqL.of hl7⟩, _, rfl, _, rfl, _, rfl, L, _, rfl, .inl (SqL.of hl7), _, _, rfl, ?_⟩
        rw [hll, min_if]
        refine ⟨a, N + 33 + f.length, min mo l.length, rfl, p7, by omega, by omega, by omega, fun H8 d8 s8 p8 h80 h81 => ?_⟩
        have hl8 := s8.il hLa hl7
        have hf8 := s8.il hFa hf7
        have hd : d8 < l.length := by omega
        have pa := pop_at (l := l) h80 hd
        refine ⟨L, _, d8, d8.toNat, _, rfl, rfl, hl8, by omega, by omega, pa.1, pa.2, ?_⟩
        rw [map_erase]
        have hf9 : IL (upd H8 L (.lst ((l.eraseIdx d8.toNat).map V.int))) F f := (upd_ne hFL).trans hf8
        have hl9 : IL (upd H8 L (.lst ((l.eraseIdx d8.toNat).map V.int))) L (l.eraseIdx d8.toNat) := upd_same
        have p9 := p8.upd (o := .lst ((l.eraseIdx d8.toNat).map V.int)) hLa.symm
        have s9 : SameX a H (upd H8 L (.lst ((l.eraseIdx d8.toNat).map V.int))) := SameX.new nL0 (s7.trans s8)
        generalize upd H8 L (.lst ((l.eraseIdx d8.toNat).map V.int)) = H9 at hf9 hl9 p9 s9
        refine ⟨F, _, _, rfl, rfl, hf9, ?_, ?_⟩
        · rw [List.length_map]; exact small1000 (by omega)
        have hel : (l.eraseIdx d8.toNat).length = l.length - 1 := List.length_eraseIdx_of_lt (by omega)
        refine ⟨l.length - 1, by omega, f ++ [pick l d8], l.eraseIdx d8.toNat, rfl, SameX.new nF0 s9, ?_, (upd_ne hFL.symm).trans hl9, ?_, ?_, hel.symm⟩
        · refine (p9.upd hFa.symm).mono ?_
          rw [List.length_append]
          simp
          omega
        · show upd H9 F _ F = _
          rw [upd_same, List.map_append]; rfl
        · refine List.Perm.trans ?_ hperm
          rw [List.append_assoc]
          exact List.Perm.append_left _ (pop_perm h80 hd)
      · have hne : l = [] := by simpa using e
        subst hne
        rw [List.append_nil] at hperm
        have hof := OrdOk.perm hord hperm
        have hfl : f.length = l0.length := hperm.length_eq
        refine ⟨_, rfl, a, N + 33 + f.length, 8, rfl, p7, by omega, by decide, by decide, fun H8 d8 s8 p8 _ _ => ?_⟩
        have hf8 := s8.il hFa hf7
        refine ⟨rfl, _, rfl, ite2 (fun e => ?_) (fun e => ?_)⟩
        · refine ⟨_, rfl, F, _, rfl, SqL.of hf8, fun r nr => ?_⟩
          have sr := same_upd (o := .lst (f.map V.int).reverse) nr
          refine q _ r f.reverse ((s7.trans s8).trans (.of sr)) ((s7.trans s8).free p8 nr) ?_ ((p8.upd (p8.ne nr).symm).mono (by omega)) (OrdOk.perm hof (List.reverse_perm f)) (by rw [List.length_reverse]; omega)
          show upd H8 r _ r = _
          rw [upd_same, List.map_reverse]
        · exact ⟨_, rfl, q H8 F f (s7.trans s8) nF0 hf8 (p8.mono (by omega)) hof (by omega)⟩
end
end K70
/-! #### K70B1 -/
set_option Elab.async false
set_option linter.all false
set_option maxRecDepth 100000
set_option maxHeartbeats 4000000
namespace K70
open PySem PySem.Spec PyProof.Rows L2
open Lat (OrdOk PollsOk)
section
variable {P : Program} {w : World} {K : PySem.W.Frag} {mg : Str → Option Value} {base : Heap}
theorem rg_ints (n : Int) (h : 0 ≤ n) : rgV 0 (n + 1) = ((List.range (n.toNat + 1)).map fun i : Nat => (i : Int)).map V.int := by
  unfold rgV
  rw [List.map_map, show ((n + 1 - 0).toNat) = n.toNat + 1 by omega]
  refine List.map_congr_left fun i _ => ?_
  show V.int (0 + (i : Int)) = V.int (i : Int)
  rw [Int.zero_add]
theorem rg_polls (n : Int) (h : 0 ≤ n) : PollsOk n ((List.range (n.toNat + 1)).map fun i : Nat => (i : Int)) := by
  refine ⟨?_, fun p hp => ?_⟩
  · rw [List.pairwise_map]
    exact List.pairwise_lt_range.imp fun h => by omega
  · obtain ⟨i, hi, rfl⟩ := List.mem_map.mp hp
    have := List.mem_range.mp hi
    omega
theorem last_polls {n : Int} {ps : List Int} (h0 : 0 ≤ n) (h : PollsOk n ps) : PollsOk n (ps.set (ps.length - 1) n) := by
  by_cases e : ps = []
  · subst e; exact h
  · obtain ⟨l, x, rfl⟩ : ∃ l x, ps = l ++ [x] := ⟨ps.dropLast, ps.getLast e, (List.dropLast_concat_getLast e).symm⟩
    have e2 : (l ++ [x]).set ((l ++ [x]).length - 1) n = l ++ [n] := by
      rw [List.length_append, List.length_singleton, Nat.add_sub_cancel, List.set_append_right _ _ (Nat.le_refl _), Nat.sub_self]; rfl
    rw [e2]
    have h1 := List.pairwise_append.mp h.pw
    refine ⟨List.pairwise_append.mpr ⟨h1.1, by simp, fun y hy z hz => ?_⟩, fun p hp => ?_⟩
    · have : z = n := by simpa using hz
      rw [this]; exact (h.rng y (by simp [hy])).2
    · rcases List.mem_append.mp hp with z | z
      · exact h.rng p (by simp [z])
      · have : p = n := by simpa using z
        omega
/-! ### _law_looks -/
abbrev s_law_looks : Stmt := topS 59
theorem sc_law_looks : FnScope ["_law_pool_here", "_law_size", "_law_most", "_law_found", "_law_turn"] ["_law_pool_here", "_law_size", "_law_most"] (defScope s_law_looks) := ⟨rfl, rfl, rfl, by decide +kernel, rfl, by decide +kernel, by decide +kernel⟩
def sp_law_looks : Sp := fun vs H Q _ => ∃ (a : Addr) (N : Nat) (n most : Int), vs = [.ref a, .int n, .int most] ∧ PoolAt H a N ∧ N ≤ 50000 ∧ 0 ≤ n ∧ n ≤ 60 ∧ 0 ≤ most ∧ most ≤ 60 ∧
  ∀ H' p ps, SameX a H H' → H p = none → IL H' p ps → PoolAt H' a (N + 100) → PollsOk n ps → (ps.length : Int) ≤ most → Q (.ref p) H'
theorem cal_law_looks (T : Env mg) (At : AtN K mg "_law_looks" s_law_looks) (C_law_draw : Cal P w K mg base "_law_draw" 1 ["_law_pool_here", "_law_many"] [] sp_law_draw) : Cal P w K mg base "_law_looks" 2 ["_law_pool_here", "_law_size", "_law_most"] [] sp_law_looks := by
  refine cal_mk At (fun F => F.binds (ps := ["_law_pool_here", "_law_size", "_law_most"]) fun _ _ _ _ _ _ us hl => match us, hl with | [_, _, _], _ => rfl) fun F => ?_
  obtain ⟨f_law_draw, fd_law_draw, d_law_draw, G_law_draw, g_law_draw, k_law_draw, b_law_draw, v_law_draw⟩ := C_law_draw
  have m_list := T.m_list
  have m_range := T.m_range
  have m_sorted := T.m_sorted
  refine F.ok sc_law_looks (fun vs H Q E h => ?_) (fun cdv A outer s H vs Q E hr h => ?_)
  · obtain ⟨a, N, n, most, rfl, hP, hN, hn0, hn1, hm0, hm1, q⟩ := h
    rfl
  · obtain ⟨a, N, n, most, rfl, hP, hN, hn0, hn1, hm0, hm1, q⟩ := h
    refine ⟨_, (pss_cons (ps_if (PW.pt (pw_and (pt_cmpR op_eq (pe_call G_law_draw (hr.mono (by decide)) (by rfl) g_law_draw k_law_draw b_law_draw v_law_draw pass0 (pa_cons (pv 0) (pa_cons pe_int pa_nil))) pe_int (nomark _)) (pw_and1 (pt_cmpR op_lt (pv 1) (pv 2) (nomark _))))) (pss_one (ps_ret (pe_listRg rfl (by rfl) m_list (prg_1 (by rfl) m_range (pe_op op_add (pv 1) pe_int))))) pss_nil)
      (pss_cons (ps_set (i := 3) sc_law_looks.nd rfl (Or.inl rfl) (pe_callB cr_sortedI (by rfl) m_sorted (by decide +kernel) (pa_cons (pe_lc (own := [("_law_turn", 4)]) (g := gName 4) (tt := tYes) rfl sc_law_looks.nd (pi_range1 (by rfl) m_range (pa_cons (pe_call G_law_draw (hr.mono (by decide)) (by rfl) g_law_draw k_law_draw b_law_draw v_law_draw pass0 (pa_cons (pv 0) (pa_cons (pe_op op_add (pv 2) pe_int) pa_nil))) pa_nil)) (blkOk_by (own := [("_law_turn", 4)]) (N := ["_law_pool_here", "_law_size", "_law_most", "_law_found", "_law_turn"]) (sc := defScope s_law_looks) (by decide +kernel)) (fun _ _ _ _ _ => (pg_name (i := 4) sc_law_looks.nd rfl (Or.inl rfl))) (fun _ _ _ _ _ => pts_nil) (fun _ _ _ _ _ => (pe_call G_law_draw (hr.mono (by decide)) (by rfl) g_law_draw k_law_draw b_law_draw v_law_draw pass0 (pa_cons (pv 0) (pa_cons (pe_op op_add (pv 1) pe_int) pa_nil))))) pa_nil)))
      (pss_cons (ps_if (PW.pt (pw_and (pt_cmpR (op_neD hr.units) (pv 3) (pe_lst pa_nil) (nomark _)) (pw_and1 (pt_cmpR op_eq (pe_call G_law_draw (hr.mono (by decide)) (by rfl) g_law_draw k_law_draw b_law_draw v_law_draw pass0 (pa_cons (pv 0) (pa_cons pe_int pa_nil))) pe_int (nomark _))))) (pss_one (ps_asg (pv 1) (pg_sub (pv 3) (pe_un un_neg pe_int) set_list))) pss_nil)
      (pss_one (ps_ret (pv 3)))))), ?_⟩
    refine ⟨_, rfl, a, N, 6, rfl, hP, by omega, by decide, by decide, fun H1 d1 s1 p1 h10 h11 => ?_⟩
    refine ⟨rfl, _, rfl, ?_⟩
    refine ite_once (fun e slow => ?_) iteF ?_
    · refine ⟨_, rfl, _, rfl, _, _, rfl, rfl, _, rfl, ite2 (fun e2 => ?_) (fun e2 => slow)⟩
      have e2 := of_decide_eq_true e2
      refine ⟨_, rfl, _, _, rfl, rfl, n + 1, rfl, RgOk.of_le (by decide) (by omega) (by decide) (by omega), fun r nr => ?_⟩
      have sr := same_upd (o := .lst (rgV 0 (n + 1))) nr
      refine q _ r _ (s1.trans (.of sr)) (s1.free p1 nr) ?_ ((p1.upd (p1.ne nr).symm).mono (by omega)) (rg_polls n hn0) (by simp; omega)
      show upd H1 r _ r = _
      rw [upd_same, rg_ints n hn0]
    · refine ⟨_, rfl, _, rfl, _, _, rfl, rfl, a, N + 1, most + 1, rfl, p1, by omega, by omega, by omega, fun H2 kk s2 p2 hk0 hk1 => ?_⟩
      have t2 := s1.trans s2
      refine ⟨kk, rfl, by omega, by omega, fun D nD => ?_⟩
      have nD0 : H D = none := t2.free p2 nD
      have hDa : D ≠ a := p2.ne nD
      refine lc_range (lo := 0) (n := kk.toNat) (fun i H' => ∃ ns : List Int, SameX a H H' ∧ PoolAt H' a (N + 2 + i) ∧ IL H' D ns ∧ ns.length = i ∧ ∀ x ∈ ns, 0 ≤ x ∧ x ≤ n)
        ⟨[], t2.trans (.of (same_upd nD)), (p2.upd hDa.symm).mono (by omega), upd_same, rfl, by simp⟩ ?_ ?_
      · rintro i H3 hi ⟨ns, s3, p3, hD3, hlen, hall⟩
        refine ⟨rfl, yes (iteT ?_)⟩
        refine ⟨_, rfl, _, rfl, _, _, rfl, rfl, a, N + 2 + i, n + 1, rfl, p3, by omega, by omega, by omega, fun H4 d4 s4 p4 h40 h41 => ?_⟩
        have hD4 := s4.il hDa hD3
        refine ⟨_, hD4, by rw [List.length_map, hlen]; exact small1000 (by omega), ns ++ [d4], SameX.new nD0 (s3.trans s4), (p4.upd hDa.symm).mono (by omega), ?_, by rw [List.length_append, hlen]; rfl, fun x hx => ?_⟩
        · show upd H4 D _ D = _
          rw [upd_same, List.map_append]; rfl
        · rcases List.mem_append.mp hx with h | h
          · exact hall x h
          · have : x = d4 := by simpa using h
            omega
      · rintro H3 ⟨ns, s3, p3, hD3, hlen, hall⟩
        refine ⟨D, ns, rfl, SqL.of hD3, fun ps p hp hs np => ?_⟩
        have hpl : ps.length = ns.length := hp.length_eq
        have ok : PollsOk n ps := ⟨hs, fun x hx => hall x (hp.mem_iff.mp hx)⟩
        have np0 : H p = none := s3.free p3 np
        have hpa : p ≠ a := p3.ne np
        have s5 := s3.trans (.of (same_upd (o := .lst (ps.map V.int)) np))
        have p5 := p3.upd (o := .lst (ps.map V.int)) hpa.symm
        have hp5 : IL (upd H3 p (.lst (ps.map V.int))) p ps := upd_same
        show tSeq _ _ _ _ (upd H3 p (.lst (ps.map V.int)))
        generalize upd H3 p (.lst (ps.map V.int)) = H5 at s5 p5 hp5
        refine ⟨_, rfl, Nat.zero_le _, fun w nw => ?_⟩
        have sw := same_upd (o := .lst []) nw
        have p6 := p5.upd (o := .lst []) (p5.ne nw).symm
        have hp6 := sw _ _ hp5
        have s6 := s5.trans (.of sw)
        have hw6 : (upd H5 w (.lst [])) w = some (.lst []) := upd_same
        generalize upd H5 w (.lst []) = H6 at p6 hp6 s6 hw6
        refine ne_ints (ms := []) (SqL.of hp6) (SqL.of hw6) ⟨_, rfl, ?_⟩
        refine ite2 (fun e => ?_) (fun e => iteF ?_)
        · have hne : ps ≠ [] := by simpa using e
          have hpos : 0 < ps.length := List.length_pos_iff.mpr hne
          refine ⟨_, rfl, a, N + 2 + kk.toNat, 2, rfl, p6, by omega, by decide, by decide, fun H7 d7 s7 p7 h70 h71 => ?_⟩
          have hp7 := s7.il hpa hp6
          refine ⟨rfl, _, rfl, ite2 (fun e2 => ?_) (fun e2 => ?_)⟩
          · refine ⟨_, rfl, _, rfl, 1, rfl, p, _, -1, ps.length - 1, rfl, rfl, hp7, ?_, ?_⟩
            · rw [List.length_map]
              unfold ixN
              rw [if_neg (by decide), if_pos (by omega)]
              congr 1; omega
            · refine ⟨_, rfl, q _ p (ps.set (ps.length - 1) n) (SameX.new np0 (s6.trans s7)) np0 ?_ ((p7.upd hpa.symm).mono (by omega)) (last_polls hn0 ok) (by rw [List.length_set]; omega)⟩
              show upd H7 p _ p = _
              rw [upd_same, List.map_set]
          · exact ⟨_, rfl, q H7 p ps (s6.trans s7) np0 hp7 (p7.mono (by omega)) ok (by omega)⟩
        · exact ⟨_, rfl, q H6 p ps s6 np0 hp6 (p6.mono (by omega)) ok (by omega)⟩
end
end K70
/-! #### K70B2 -/
set_option Elab.async false
set_option linter.all false
set_option maxRecDepth 100000
set_option maxHeartbeats 4000000
namespace K70
open PySem PySem.Spec PyProof.Rows L2
open Lat (OrdOk PollsOk)
section
variable {P : Program} {w : World} {K : PySem.W.Frag} {mg : Str → Option Value} {base : Heap}
theorem his_write {H : Hp} {F b : Addr} {evs : List Lat.Ev} {o : HO} {xs : List V} (hb : H b = some (.lst xs)) (hne : F ≠ b) (h : HisAt H F evs) : HisAt (upd H b o) F evs := by
  obtain ⟨ts, h1, h2, h3⟩ := h
  refine ⟨ts, (upd_ne hne).trans h1, h2, fun i t e a c => ?_⟩
  have k := h3 i t e a c
  rw [upd_ne (ne_of k hb (by intro z; cases z))]
  exact k
theorem his_sameX {H H' : Hp} {F p : Addr} {N : Nat} {evs : List Lat.Ev} (hp : PoolAt H p N) (hne : F ≠ p) (s : SameX p H H') (h : HisAt H F evs) : HisAt H' F evs := by
  obtain ⟨x, y, z, hp, _⟩ := hp
  obtain ⟨ts, h1, h2, h3⟩ := h
  refine ⟨ts, s _ _ hne h1, h2, fun i t e a c => ?_⟩
  have k := h3 i t e a c
  exact s _ _ (ne_of k hp (by intro z; cases z)) k
theorem his_snoc {H : Hp} {F T : Addr} {evs : List Lat.Ev} {e : Lat.Ev} {ts : List Addr} (h1 : H F = some (.lst (ts.map V.ref))) (h2 : ts.length = evs.length) (h3 : ∀ (i : Nat) t e, ts[i]? = some t → evs[i]? = some e → H t = some (.tup (evT e)))
    (hT : H T = some (.tup (evT e))) : HisAt (upd H F (.lst (ts.map V.ref ++ [.ref T]))) F (evs ++ [e]) := by
  refine ⟨ts ++ [T], by rw [upd_same, List.map_append]; rfl, by rw [List.length_append, List.length_append, h2]; rfl, fun i t q a b => ?_⟩
  have key : H t = some (.tup (evT q)) := by
    by_cases hi : i < ts.length
    · rw [List.getElem?_append_left hi] at a
      rw [List.getElem?_append_left (by omega)] at b
      exact h3 i t q a b
    · have hi2 : i = ts.length := by
        have := (List.getElem?_eq_some_iff.mp a).1
        simp at this; omega
      subst hi2
      rw [List.getElem?_append_right (Nat.le_refl _), Nat.sub_self] at a
      rw [h2, List.getElem?_append_right (Nat.le_refl _), Nat.sub_self] at b
      obtain rfl : T = t := Option.some.inj a
      obtain rfl : e = q := Option.some.inj b
      exact hT
  rw [upd_ne (ne_of key h1 (by intro z; cases z))]
  exact key
/-- commit or rollback, as drawn -/
theorem kind_of {d v : Int} (h0 : 0 ≤ d) (h1 : d < 3) : ∃ (e : Lat.Ev) (s : Str), (e = .c v ∨ e = .r v) ∧ atI [V.str "commit", V.str "commit", V.str "rollback"] d = some (.str s) ∧ evT e = [.str s, .int v] := by
  rcases (show d = 0 ∨ d = 1 ∨ d = 2 by omega) with h | h | h <;> subst h
  · exact ⟨.c v, "commit", .inl rfl, atI_nat (j := 0) rfl, rfl⟩
  · exact ⟨.c v, "commit", .inl rfl, atI_nat (j := 1) rfl, rfl⟩
  · exact ⟨.r v, "rollback", .inr rfl, atI_nat (j := 2) rfl, rfl⟩
theorem few_ok : ∀ g ∈ ([3, 10, 60] : List Int), 1 ≤ g ∧ g ≤ 60 := by decide
theorem late_ok : ∀ g ∈ ([1, 2, 60] : List Int), 1 ≤ g ∧ g ≤ 60 := by decide
/-! ### _law_history -/
abbrev s_law_history : Stmt := topS 60
theorem sc_law_history : FnScope ["_law_pool_here", "_law_most", "_law_found", "_law_begun", "_law_left", "_law_few", "_law_late", "_law_turn", "_law_row"] ["_law_pool_here", "_law_most"] (defScope s_law_history) := ⟨rfl, rfl, rfl, by decide +kernel, rfl, by decide +kernel, by decide +kernel⟩
def sp_law_history : Sp := fun vs H Q _ => ∃ (a : Addr) (N : Nat) (most : Int), vs = [.ref a, .int most] ∧ PoolAt H a N ∧ N ≤ 50000 ∧ 0 ≤ most ∧ most ≤ 60 ∧
  ∀ H' p evs u, SameX a H H' → H p = none → HisAt H' p evs → PoolAt H' a (N + 400) → (evs.length : Int) ≤ most → Lat.runH evs (0, []) = some u → Q (.ref p) H'
theorem cal_law_history (T : Env mg) (At : AtN K mg "_law_history" s_law_history) (C_law_draw : Cal P w K mg base "_law_draw" 1 ["_law_pool_here", "_law_many"] [] sp_law_draw) : Cal P w K mg base "_law_history" 2 ["_law_pool_here", "_law_most"] [] sp_law_history := by
  refine cal_mk At (fun F => F.binds (ps := ["_law_pool_here", "_law_most"]) fun _ _ _ _ _ _ us hl => match us, hl with | [_, _], _ => rfl) fun F => ?_
  obtain ⟨f_law_draw, fd_law_draw, d_law_draw, G_law_draw, g_law_draw, k_law_draw, b_law_draw, v_law_draw⟩ := C_law_draw
  have m_len := T.m_len
  have m_min := T.m_min
  have m_range := T.m_range
  refine F.ok sc_law_history (fun vs H Q E h => ?_) (fun cdv A outer s H vs Q E hr h => ?_)
  · obtain ⟨a, N, most, rfl, hP, hN, hm0, hm1, q⟩ := h
    rfl
  · obtain ⟨a, N, most, rfl, hP, hN, hm0, hm1, q⟩ := h
    refine ⟨_, (pss_cons (ps_par3 (i := 2) (j := 3) (l := 4) (by rfl) sc_law_history.nd rfl rfl rfl (by decide) (by decide) (by decide) rfl rfl rfl (pa_cons (pe_lst pa_nil) (pa_cons pe_int (pa_cons (pe_lst pa_nil) pa_nil))) (by rfl))
      (pss_cons (ps_par (i := 5) (j := 6) (by rfl) sc_law_history.nd rfl rfl (by decide) rfl rfl (pa_cons (pe_op op_add pe_int (pe_call G_law_draw (hr.mono (by decide)) (by rfl) g_law_draw k_law_draw b_law_draw v_law_draw pass0 (pa_cons (pv 0) (pa_cons (pe_ix (ix_listK K rfl) (pe_lst (pa_cons pe_int (pa_cons pe_int (pa_cons pe_int pa_nil)))) (pe_call G_law_draw (hr.mono (by decide)) (by rfl) g_law_draw k_law_draw b_law_draw v_law_draw pass0 (pa_cons (pv 0) (pa_cons pe_int pa_nil))) (fun _ _ => rfl)) pa_nil)))) (pa_cons (pe_ix (ix_listK K rfl) (pe_lst (pa_cons pe_int (pa_cons pe_int (pa_cons pe_int pa_nil)))) (pe_call G_law_draw (hr.mono (by decide)) (by rfl) g_law_draw k_law_draw b_law_draw v_law_draw pass0 (pa_cons (pv 0) (pa_cons pe_int pa_nil))) (fun _ _ => rfl)) pa_nil)) (by rfl))
      (pss_cons (ps_for PassesOwn.never rfl (pi_range1 (by rfl) m_range (pa_cons (pe_call G_law_draw (hr.mono (by decide)) (by rfl) g_law_draw k_law_draw b_law_draw v_law_draw pass0 (pa_cons (pv 0) (pa_cons (pe_op op_add (pv 1) pe_int) pa_nil))) pa_nil)) (pg_name (i := 7) sc_law_history.nd rfl (Or.inl rfl)) (pss_one (ps_if (PW.pt (pw_or (pt_cmpR (op_eqD hr.units) (pv 4) (pe_lst pa_nil) (nomark _)) (pw_or1 (PW.pt (pw_and (pt_cmpR op_lt (pe_callB call_len_seq (by rfl) m_len (by decide +kernel) (pa_cons (pv 4) pa_nil)) (pv 5) (nomark _)) (pw_and1 (pt_cmpR op_eq (pe_call G_law_draw (hr.mono (by decide)) (by rfl) g_law_draw k_law_draw b_law_draw v_law_draw pass0 (pa_cons (pv 0) (pa_cons pe_int pa_nil))) pe_int (nomark _)))))))) (pss_cons (ps_set (i := 3) sc_law_history.nd rfl (Or.inl rfl) (pe_op op_add (pv 3) pe_int))
              (pss_cons (ps_expr (pe_bm PySem.F.plainAttrs_list PySem.F.slot_list_append PySem.F.type_list_append mt_append (pv 4) (pa_cons (pv 3) pa_nil)))
              (pss_one (ps_expr (pe_bm PySem.F.plainAttrs_list PySem.F.slot_list_append PySem.F.type_list_append mt_append (pv 2) (pa_cons (pe_tup (pa_cons pe_str pa_nil)) pa_nil)))))) (pss_cons (ps_set (i := 8) sc_law_history.nd rfl (Or.inl rfl) (pe_bm PySem.F.plainAttrs_list PySem.F.slot_list_pop PySem.F.type_list_pop mt_popAt (pv 4) (pa_cons (pe_call G_law_draw (hr.mono (by decide)) (by rfl) g_law_draw k_law_draw b_law_draw v_law_draw pass0 (pa_cons (pv 0) (pa_cons (pe_callB (call_min2 rfl) (by rfl) m_min (by decide +kernel) (pa_cons (pv 6) (pa_cons (pe_callB call_len_seq (by rfl) m_len (by decide +kernel) (pa_cons (pv 4) pa_nil)) pa_nil))) pa_nil))) pa_nil)))
              (pss_one (ps_expr (pe_bm PySem.F.plainAttrs_list PySem.F.slot_list_append PySem.F.type_list_append mt_append (pv 2) (pa_cons (pe_tup (pa_cons (pe_ix (ix_listK K rfl) (pe_lst (pa_cons pe_str (pa_cons pe_str (pa_cons pe_str pa_nil)))) (pe_call G_law_draw (hr.mono (by decide)) (by rfl) g_law_draw k_law_draw b_law_draw v_law_draw pass0 (pa_cons (pv 0) (pa_cons pe_int pa_nil))) (fun _ _ => rfl)) (pa_cons (pv 8) pa_nil))) pa_nil))))))))
      (pss_one (ps_ret (pv 2)))))), ?_⟩
    refine ⟨Nat.zero_le _, fun F nF => ?_⟩
    refine ⟨Nat.zero_le _, fun L nL => ?_⟩
    refine ⟨_, _, _, rfl, ?_⟩
    have nF0 : H F = none := nF
    have hFa : F ≠ a := hP.ne nF
    have pF := hP.upd (o := .lst []) hFa.symm
    have nL0 : H L = none := (same_upd nF).free nL
    have hLa : L ≠ a := pF.ne nL
    have hFL : F ≠ L := ne_of_none upd_same nL
    have p0 := pF.upd (o := .lst []) hLa.symm
    have s0 : SameX a H (upd (upd H F (.lst [])) L (.lst [])) := .of ((same_upd nF).trans (same_upd nL))
    have f0 : (upd (upd H F (.lst [])) L (.lst [])) F = some (.lst []) := same_upd nL _ _ upd_same
    have l0 : IL (upd (upd H F (.lst [])) L (.lst [])) L [] := upd_same
    generalize upd (upd H F (.lst [])) L (.lst []) = H0 at p0 s0 f0 l0
    clear pF nL nF
    refine ⟨_, rfl, by show 3 ≤ sizeLine; decide, fun x nx => ?_⟩
    have sx := same_upd (o := .lst [.int 3, .int 10, .int 60]) nx
    have hx : IL (upd H0 x (.lst [.int 3, .int 10, .int 60])) x [3, 10, 60] := upd_same
    have px := p0.upd (o := .lst [.int 3, .int 10, .int 60]) (p0.ne nx).symm
    refine ⟨_, rfl, a, N, 3, rfl, px, by omega, by decide, by decide, fun H1 d1 s1 p1 h10 h11 => ?_⟩
    have hg := few_ok _ (pick_mem (l := [3, 10, 60]) h10 (by simpa using h11))
    refine ⟨x, _, _, _, rfl, rfl, SqL.of (s1.il (p0.ne nx) hx), pick_at (l := [3, 10, 60]) h10 (by simpa using h11), ?_⟩
    generalize pick [3, 10, 60] d1 = ff at hg
    refine ⟨a, N + 1, ff, rfl, p1, by omega, hg.1, by omega, fun H2 d2 s2 p2 h20 h21 => ?_⟩
    refine ⟨_, _, rfl, rfl, ?_⟩
    have t2 := ((SameX.of (p := a) sx).trans s1).trans s2
    refine ⟨by show 3 ≤ sizeLine; decide, fun y ny => ?_⟩
    have sy := same_upd (o := .lst [.int 1, .int 2, .int 60]) ny
    have hy : IL (upd H2 y (.lst [.int 1, .int 2, .int 60])) y [1, 2, 60] := upd_same
    have py := p2.upd (o := .lst [.int 1, .int 2, .int 60]) (p2.ne ny).symm
    refine ⟨_, rfl, a, N + 1 + 1, 3, rfl, py, by omega, by decide, by decide, fun H3 d3 s3 p3 h30 h31 => ?_⟩
    have hlate := late_ok _ (pick_mem (l := [1, 2, 60]) h30 (by simpa using h31))
    refine ⟨y, _, _, _, rfl, rfl, SqL.of (s3.il (p2.ne ny) hy), pick_at (l := [1, 2, 60]) h30 (by simpa using h31), ?_⟩
    generalize pick [1, 2, 60] d3 = late at hlate
    refine ⟨_, _, rfl, ?_⟩
    have t3 := (t2.trans (.of sy)).trans s3
    have f3 := t3 _ _ hFa f0
    have l3 := t3.il hLa l0
    have s03 := s0.trans t3
    clear hx px hy py s1 s2 s3 t2 sx sy p0 p1 p2 t3 s0 f0 l0
    show tSeq _ _ _ _ H3
    refine ⟨_, rfl, _, rfl, _, _, rfl, rfl, a, N + 1 + 1 + 1, most + 1, rfl, p3, by omega, by omega, by omega, fun H4 kk s4 p4 hk0 hk1 => ?_⟩
    refine ⟨kk, rfl, by omega, by omega, for_range (lo := 0) (n := kk.toNat) (fun i σ H' => ∃ (b : Int) (l : List Int) (evs : List Lat.Ev) (z7 z8 : Option V), σ = [some (.ref a), some (.int most), some (.ref F), some (.int b), some (.ref L), some (.int (1 + d2)), some (.int late), z7, z8] ∧ SameX a H H' ∧ PoolAt H' a (N + 4 + 4 * i) ∧ IL H' L l ∧ HisAt H' F evs ∧ evs.length = i ∧ Lat.runH evs (0, []) = some (b, l))
      ⟨0, [], [], none, none, rfl, s03.trans s4, p4.mono (by omega), s4.il hLa l3, ⟨[], s4 _ _ hFa f3, rfl, fun i t e h => by simp at h⟩, rfl, rfl⟩ ?_ ?_⟩
    · rintro i σ H5 hi ⟨b, l, evs, z7, z8, rfl, s5, p5, hl5, hF5, hlen, hrun⟩
      have ok := Lat.his_ok _ _ _ hrun
      have hb60 : b ≤ 60 ∧ (l.length : Int) ≤ 60 := by
        have a1 := ok.len
        have a2 := ok.few
        omega
      have hll : (l.map V.int).length = l.length := List.length_map ..
      refine ⟨_, rfl, Nat.zero_le _, fun w nw => ?_⟩
      have sw := same_upd (o := .lst []) nw
      have p7 := p5.upd (o := .lst []) (p5.ne nw).symm
      have hl7 := sw _ _ hl5
      have hF7 := HisAt.keep sw hF5
      have s7 := s5.trans (.of sw)
      have hw : (upd H5 w (.lst [])) w = some (.lst []) := upd_same
      generalize upd H5 w (.lst []) = H7 at p7 hl7 hF7 s7 hw
      refine eq_ints (ms := []) (SqL.of hl7) (SqL.of hw) ⟨_, rfl, ?_⟩
      refine ite2 (fun e => iteT ?_) (fun e => ?_)
      · refine ⟨_, rfl, _, _, rfl, rfl, ?_⟩
        refine ⟨_, rfl, .inl ⟨rfl, _, SqL.of hl7⟩, _, rfl, L, _, _, rfl, rfl, hl7, by rw [List.length_map]; exact small1000 (by omega), ?_⟩
        have hF8 := his_write (o := .lst (l.map V.int ++ [.int (b + 1)])) hl7 hFL hF7
        have hl8 : IL (upd H7 L (.lst (l.map V.int ++ [.int (b + 1)]))) L (l ++ [b + 1]) := by
          show upd H7 L _ L = _
          rw [upd_same, List.map_append]; rfl
        have p8 := p7.upd (o := .lst (l.map V.int ++ [.int (b + 1)])) hLa.symm
        have s8 : SameX a H (upd H7 L (.lst (l.map V.int ++ [.int (b + 1)]))) := SameX.new nL0 s7
        generalize upd H7 L (.lst (l.map V.int ++ [.int (b + 1)])) = H8 at hF8 hl8 p8 s8
        obtain ⟨ts, hts, htl, htt⟩ := hF8
        refine ⟨_, rfl, .inl ⟨rfl, _, SqL.of hts⟩, by show 1 ≤ sizeLine; decide, fun T nT => ?_⟩
        have sT := same_upd (o := .tup [.str "begin"]) nT
        have p9 := p8.upd (o := .tup [.str "begin"]) (p8.ne nT).symm
        refine ⟨F, _, _, rfl, rfl, sT _ _ hts, by rw [List.length_map, htl]; exact small1000 (by omega), ?_⟩
        refine ⟨b + 1, l ++ [b + 1], evs ++ [.b], _, _, rfl, SameX.new nF0 (s8.trans (.of sT)), (p9.upd hFa.symm).mono (by omega), (upd_ne hFL.symm).trans (sT _ _ hl8), his_snoc (e := .b) (sT _ _ hts) htl (fun i t e x y => sT _ _ (htt i t e x y)) upd_same, by rw [List.length_append, hlen]; rfl, ?_⟩
        rw [Lat.runH_snoc, hrun]; rfl
      · have hne : l ≠ [] := by simpa using e
        have hlp : 0 < l.length := List.length_pos_iff.mpr hne
        refine ⟨_, rfl, L, _, rfl, .inl (SqL.of hl7), _, rfl, _, _, rfl, rfl, _, rfl, ?_⟩
        refine ite2 (fun e2 => ?_) (fun e2 => iteF ?_)
        · refine ⟨_, rfl, a, _, 2, rfl, p7, by omega, by decide, by decide, fun Hx dx sx px hx0 hx1 => ?_⟩
          have hl7 := sx.il hLa hl7
          have hF7 := his_sameX p7 hFa sx hF7
          have s7 := s7.trans sx
          have p7 := px
          clear sx px hw
          generalize Hx = H7 at hl7 hF7 s7 p7
          refine ⟨rfl, _, rfl, ite2 (fun e3 => ?_) (fun e3 => ?_)⟩
          · refine ⟨_, rfl, _, _, rfl, rfl, ?_⟩
            refine ⟨_, rfl, .inl ⟨rfl, _, SqL.of hl7⟩, _, rfl, L, _, _, rfl, rfl, hl7, by rw [List.length_map]; exact small1000 (by omega), ?_⟩
            have hF8 := his_write (o := .lst (l.map V.int ++ [.int (b + 1)])) hl7 hFL hF7
            have hl8 : IL (upd H7 L (.lst (l.map V.int ++ [.int (b + 1)]))) L (l ++ [b + 1]) := by
              show upd H7 L _ L = _
              rw [upd_same, List.map_append]; rfl
            have p8 := p7.upd (o := .lst (l.map V.int ++ [.int (b + 1)])) hLa.symm
            have s8 : SameX a H (upd H7 L (.lst (l.map V.int ++ [.int (b + 1)]))) := SameX.new nL0 s7
            generalize upd H7 L (.lst (l.map V.int ++ [.int (b + 1)])) = H8 at hF8 hl8 p8 s8
            obtain ⟨ts, hts, htl, htt⟩ := hF8
            refine ⟨_, rfl, .inl ⟨rfl, _, SqL.of hts⟩, by show 1 ≤ sizeLine; decide, fun T nT => ?_⟩
            have sT := same_upd (o := .tup [.str "begin"]) nT
            have p9 := p8.upd (o := .tup [.str "begin"]) (p8.ne nT).symm
            refine ⟨F, _, _, rfl, rfl, sT _ _ hts, by rw [List.length_map, htl]; exact small1000 (by omega), ?_⟩
            refine ⟨b + 1, l ++ [b + 1], evs ++ [.b], _, _, rfl, SameX.new nF0 (s8.trans (.of sT)), (p9.upd hFa.symm).mono (by omega), (upd_ne hFL.symm).trans (sT _ _ hl8), his_snoc (e := .b) (sT _ _ hts) htl (fun i t e x y => sT _ _ (htt i t e x y)) upd_same, by rw [List.length_append, hlen]; rfl, ?_⟩
            rw [Lat.runH_snoc, hrun]; rfl
          · refine ⟨_, rfl, .inl ⟨rfl, _, SqL.of hl7⟩, _, rfl, _, rfl, _, rfl, L, _, rfl, .inl (SqL.of hl7), _, _, rfl, ?_⟩
            rw [hll, min_if]
            refine ⟨a, _, min late l.length, rfl, p7, by omega, by omega, by omega, fun H8 d8 s8 p8 h80 h81 => ?_⟩
            have hl8 := s8.il hLa hl7
            have hF8 := his_sameX p7 hFa s8 hF7
            have hd : d8 < l.length := by omega
            have pa := pop_at (l := l) h80 hd
            refine ⟨L, _, d8, d8.toNat, _, rfl, rfl, hl8, by omega, by omega, pa.1, pa.2, ?_⟩
            rw [map_erase]
            have hl9 : IL (upd H8 L (.lst ((l.eraseIdx d8.toNat).map V.int))) L (l.eraseIdx d8.toNat) := upd_same
            have hF9 := his_write (o := .lst ((l.eraseIdx d8.toNat).map V.int)) hl8 hFL hF8
            have p9 := p8.upd (o := .lst ((l.eraseIdx d8.toNat).map V.int)) hLa.symm
            have s9 : SameX a H (upd H8 L (.lst ((l.eraseIdx d8.toNat).map V.int))) := SameX.new nL0 (s7.trans s8)
            show tSeq _ _ _ _ (upd H8 L (.lst ((l.eraseIdx d8.toNat).map V.int)))
            generalize upd H8 L (.lst ((l.eraseIdx d8.toNat).map V.int)) = H9 at hF9 hl9 p9 s9
            obtain ⟨ts, hts, htl, htt⟩ := id hF9
            refine ⟨_, rfl, .inl ⟨rfl, _, SqL.of hts⟩, by show 3 ≤ sizeLine; decide, fun x nx => ?_⟩
            have sx := same_upd (o := .lst [.str "commit", .str "commit", .str "rollback"]) nx
            have p10 := p9.upd (o := .lst [.str "commit", .str "commit", .str "rollback"]) (p9.ne nx).symm
            have hx : (upd H9 x (.lst [.str "commit", .str "commit", .str "rollback"])) x = some (.lst [.str "commit", .str "commit", .str "rollback"]) := upd_same
            refine ⟨_, rfl, a, _, 3, rfl, p10, by omega, by decide, by decide, fun H11 d11 s11 p11 hb0 hb1 => ?_⟩
            obtain ⟨e, st, hev, hat, het⟩ := kind_of (v := pick l d8) hb0 hb1
            refine ⟨x, _, _, _, rfl, rfl, SqL.of (s11 _ _ (p9.ne nx) hx), hat, _, rfl, by show 2 ≤ sizeLine; decide, fun T nT => ?_⟩
            have hF11 := his_sameX p10 hFa s11 (HisAt.keep sx hF9)
            obtain ⟨ts, hts, htl, htt⟩ := hF11
            have sT := same_upd (o := .tup [.str st, .int (pick l d8)]) nT
            have p12 := p11.upd (o := .tup [.str st, .int (pick l d8)]) (p11.ne nT).symm
            have hT : (upd H11 T (.tup [.str st, .int (pick l d8)])) T = some (.tup (evT e)) := by rw [upd_same, het]
            refine ⟨F, _, _, rfl, rfl, sT _ _ hts, by rw [List.length_map, htl]; exact small1000 (by omega), ?_⟩
            refine ⟨b, l.eraseIdx d8.toNat, evs ++ [e], _, _, rfl, SameX.new nF0 ((s9.trans (.of sx)).trans (s11.trans (.of sT))), (p12.upd hFa.symm).mono (by omega), (upd_ne hFL.symm).trans (sT _ _ (s11.il hLa (sx _ _ hl9))), his_snoc (sT _ _ hts) htl (fun i t e x y => sT _ _ (htt i t e x y)) hT, by rw [List.length_append, hlen]; rfl, ?_⟩
            rw [Lat.runH_snoc, hrun]
            have hmem := pick_mem (l := l) h80 hd
            have her := pop_erase ok.nd h80 hd
            rcases hev with rfl | rfl
            · show (if pick l d8 ∈ l then some (b, l.erase (pick l d8)) else none) = _
              rw [if_pos hmem, her]
            · show (if pick l d8 ∈ l then some (b, l.erase (pick l d8)) else none) = _
              rw [if_pos hmem, her]
        · refine ⟨_, rfl, .inl ⟨rfl, _, SqL.of hl7⟩, _, rfl, _, rfl, _, rfl, L, _, rfl, .inl (SqL.of hl7), _, _, rfl, ?_⟩
          rw [hll, min_if]
          refine ⟨a, _, min late l.length, rfl, p7, by omega, by omega, by omega, fun H8 d8 s8 p8 h80 h81 => ?_⟩
          have hl8 := s8.il hLa hl7
          have hF8 := his_sameX p7 hFa s8 hF7
          have hd : d8 < l.length := by omega
          have pa := pop_at (l := l) h80 hd
          refine ⟨L, _, d8, d8.toNat, _, rfl, rfl, hl8, by omega, by omega, pa.1, pa.2, ?_⟩
          rw [map_erase]
          have hl9 : IL (upd H8 L (.lst ((l.eraseIdx d8.toNat).map V.int))) L (l.eraseIdx d8.toNat) := upd_same
          have hF9 := his_write (o := .lst ((l.eraseIdx d8.toNat).map V.int)) hl8 hFL hF8
          have p9 := p8.upd (o := .lst ((l.eraseIdx d8.toNat).map V.int)) hLa.symm
          have s9 : SameX a H (upd H8 L (.lst ((l.eraseIdx d8.toNat).map V.int))) := SameX.new nL0 (s7.trans s8)
          show tSeq _ _ _ _ (upd H8 L (.lst ((l.eraseIdx d8.toNat).map V.int)))
          generalize upd H8 L (.lst ((l.eraseIdx d8.toNat).map V.int)) = H9 at hF9 hl9 p9 s9
          obtain ⟨ts, hts, htl, htt⟩ := id hF9
          refine ⟨_, rfl, .inl ⟨rfl, _, SqL.of hts⟩, by show 3 ≤ sizeLine; decide, fun x nx => ?_⟩
          have sx := same_upd (o := .lst [.str "commit", .str "commit", .str "rollback"]) nx
          have p10 := p9.upd (o := .lst [.str "commit", .str "commit", .str "rollback"]) (p9.ne nx).symm
          have hx : (upd H9 x (.lst [.str "commit", .str "commit", .str "rollback"])) x = some (.lst [.str "commit", .str "commit", .str "rollback"]) := upd_same
          refine ⟨_, rfl, a, _, 3, rfl, p10, by omega, by decide, by decide, fun H11 d11 s11 p11 hb0 hb1 => ?_⟩
          obtain ⟨e, st, hev, hat, het⟩ := kind_of (v := pick l d8) hb0 hb1
          refine ⟨x, _, _, _, rfl, rfl, SqL.of (s11 _ _ (p9.ne nx) hx), hat, _, rfl, by show 2 ≤ sizeLine; decide, fun T nT => ?_⟩
          have hF11 := his_sameX p10 hFa s11 (HisAt.keep sx hF9)
          obtain ⟨ts, hts, htl, htt⟩ := hF11
          have sT := same_upd (o := .tup [.str st, .int (pick l d8)]) nT
          have p12 := p11.upd (o := .tup [.str st, .int (pick l d8)]) (p11.ne nT).symm
          have hT : (upd H11 T (.tup [.str st, .int (pick l d8)])) T = some (.tup (evT e)) := by rw [upd_same, het]
          refine ⟨F, _, _, rfl, rfl, sT _ _ hts, by rw [List.length_map, htl]; exact small1000 (by omega), ?_⟩
          refine ⟨b, l.eraseIdx d8.toNat, evs ++ [e], _, _, rfl, SameX.new nF0 ((s9.trans (.of sx)).trans (s11.trans (.of sT))), (p12.upd hFa.symm).mono (by omega), (upd_ne hFL.symm).trans (sT _ _ (s11.il hLa (sx _ _ hl9))), his_snoc (sT _ _ hts) htl (fun i t e x y => sT _ _ (htt i t e x y)) hT, by rw [List.length_append, hlen]; rfl, ?_⟩
          rw [Lat.runH_snoc, hrun]
          have hmem := pick_mem (l := l) h80 hd
          have her := pop_erase ok.nd h80 hd
          rcases hev with rfl | rfl
          · show (if pick l d8 ∈ l then some (b, l.erase (pick l d8)) else none) = _
            rw [if_pos hmem, her]
          · show (if pick l d8 ∈ l then some (b, l.erase (pick l d8)) else none) = _
            rw [if_pos hmem, her]
    · rintro σ H5 ⟨b, l, evs, z7, z8, rfl, s5, p5, hl5, hF5, hlen, hrun⟩
      exact ⟨_, rfl, q H5 F evs _ s5 nF0 hF5 (p5.mono (by omega)) (by omega) hrun⟩
end
end K70
/-! #### K70Ck -/
set_option Elab.async false
set_option linter.all false
set_option maxRecDepth 100000
set_option maxHeartbeats 4000000
namespace K70
open PySem PySem.Spec PyProof.Rows L2
abbrev psR : List Str := ["order", "polls", "overlap", "wait", "page"]
abbrev kwR : List (Str × V) := [("overlap", .int 1), ("wait", .int 0), ("page", .non)]
/-- a reader's parameters from the two lists and one keyword's value -/
def gOv (vs zs : List V) : List V := vs ++ (zs ++ [.int 0, .non])
def gWt (vs zs : List V) : List V := vs ++ ([.int 1] ++ (zs ++ [.non]))
def CalK (P : Program) (w : World) (K : PySem.W.Frag) (mg : Str → Option Value) (base : Heap) (x kw : Str) (k : Nat) (sp : Sp) (gV : List V → List V → List V) : Prop :=
  ∃ f fd g, FnOk P w K mg base CX0 k f fd psR sp ∧ mg x = some (.ref f) ∧ PySem.W.keepIn K (.ref f) = true ∧ KBn K fd psR 2 [kw] g gV
section
variable {P : Program} {w : World} {K : PySem.W.Frag} {mg : Str → Option Value} {base : Heap}
theorem cal_kw0 {x : Str} {st : Stmt} {k : Nat} {sp : Sp} (A : AtD K mg x st [] kwR)
    (hb : ∀ (D : Addr) (doc pm : Value) (an : Option Addr) (cdv ct : Value) (us ks : List Value), us.length = 2 → ks.length = 3 →
      KwChain D ((["overlap", "wait", "page"] : List Str).zip ks) (bindArgs (PySem.W.fnOf x x (defArgs st) (defBody st) (defScope st) .none (.ref D) doc pm an cdv ct) ⟨us, []⟩) (psR.zip (us ++ ks)))
    (hf : ∀ {f fd}, FunD K x x (defArgs st) (defBody st) (defScope st) [] kwR f fd → FnOk P w K mg base CX0 k f fd psR sp) : Cal P w K mg base x k psR [.int 1, .int 0, .non] sp := by
  obtain ⟨f, fd, F, g⟩ := A
  obtain ⟨ds, hd, hb⟩ := F.binds0 (ps := psR) 2 (by simp) rfl fun D doc pm an cdv ct us ks h1 h2 => hb D doc pm an cdv ct us ks h1 h2
  exact ⟨f, fd, ds, hf F, g, F.kp, hb, hd⟩
theorem cal_kwO {x : Str} {st : Stmt} {k : Nat} {sp : Sp} (A : AtD K mg x st [] kwR)
    (hb : ∀ (D : Addr) (doc pm : Value) (an : Option Addr) (cdv ct : Value) (us mv ws : List Value), us.length = 2 → mv.length = 2 → ws.length = 1 →
      KwChain D ((["wait", "page"] : List Str).zip mv) (bindArgs (PySem.W.fnOf x x (defArgs st) (defBody st) (defScope st) .none (.ref D) doc pm an cdv ct) ⟨us, (["overlap"] : List Str).zip ws⟩) (psR.zip (us ++ (ws ++ mv))))
    (hf : ∀ {f fd}, FunD K x x (defArgs st) (defBody st) (defScope st) [] kwR f fd → FnOk P w K mg base CX0 k f fd psR sp) : CalK P w K mg base x "overlap" k sp gOv := by
  obtain ⟨f, fd, F, g⟩ := A
  obtain ⟨mv, B⟩ := kbinds_kw (ps := psR) F 2 ["overlap"] [("wait", .int 0), ("page", .non)] (fun vs mz zs => vs ++ (zs ++ mz)) (by simp)
    (fun q hq => by rcases List.mem_cons.mp hq with e | hq; · rw [e]; simp
                    · rw [List.mem_singleton.mp hq]; simp)
    (fun r1 r2 r3 => r1.append (r3.append r2)) fun D doc pm an cdv ct us mv ws h1 h2 h3 => hb D doc pm an cdv ct us mv ws h1 h2 h3
  exact ⟨f, fd, _, hf F, g, F.kp, B⟩
theorem cal_kwW {x : Str} {st : Stmt} {k : Nat} {sp : Sp} (A : AtD K mg x st [] kwR)
    (hb : ∀ (D : Addr) (doc pm : Value) (an : Option Addr) (cdv ct : Value) (us mv ws : List Value), us.length = 2 → mv.length = 2 → ws.length = 1 →
      KwChain D ((["overlap", "page"] : List Str).zip mv) (bindArgs (PySem.W.fnOf x x (defArgs st) (defBody st) (defScope st) .none (.ref D) doc pm an cdv ct) ⟨us, (["wait"] : List Str).zip ws⟩) (psR.zip (us ++ (mv.take 1 ++ (ws ++ mv.drop 1)))))
    (hf : ∀ {f fd}, FunD K x x (defArgs st) (defBody st) (defScope st) [] kwR f fd → FnOk P w K mg base CX0 k f fd psR sp) : CalK P w K mg base x "wait" k sp gWt := by
  obtain ⟨f, fd, F, g⟩ := A
  obtain ⟨mv, B⟩ := kbinds_kw (ps := psR) F 2 ["wait"] [("overlap", .int 1), ("page", .non)] (fun vs mz zs => vs ++ (mz.take 1 ++ (zs ++ mz.drop 1))) (by simp)
    (fun q hq => by rcases List.mem_cons.mp hq with e | hq; · rw [e]; simp
                    · rw [List.mem_singleton.mp hq]; simp)
    (fun r1 r2 r3 => r1.append ((r2.take 1).append (r3.append (r2.drop 1)))) fun D doc pm an cdv ct us mv ws h1 h2 h3 => hb D doc pm an cdv ct us mv ws h1 h2 h3
  exact ⟨f, fd, _, hf F, g, F.kp, B⟩
theorem cal_lost_ids0 {k : Nat} {sp : Sp} (A : AtD K mg "lost_ids" s_lost_ids [] kwR) (hf : ∀ {f fd}, FunD K "lost_ids" "lost_ids" (defArgs s_lost_ids) (defBody s_lost_ids) (defScope s_lost_ids) [] kwR f fd → FnOk P w K mg base CX0 k f fd psR sp) :
    Cal P w K mg base "lost_ids" k psR [.int 1, .int 0, .non] sp := by
  refine cal_kw0 A (fun D doc pm an cdv ct us ks h1 h2 => ?_) hf
  match us, ks, h1, h2 with
  | [_, _], [_, _, _], _, _ => exact ⟨_, _, _, _, _, _, rfl, rfl, _, _, _, _, _, _, rfl, rfl, _, _, _, _, _, _, rfl, rfl, rfl⟩
theorem cal_lost_idsO {k : Nat} {sp : Sp} (A : AtD K mg "lost_ids" s_lost_ids [] kwR) (hf : ∀ {f fd}, FunD K "lost_ids" "lost_ids" (defArgs s_lost_ids) (defBody s_lost_ids) (defScope s_lost_ids) [] kwR f fd → FnOk P w K mg base CX0 k f fd psR sp) :
    CalK P w K mg base "lost_ids" "overlap" k sp gOv := by
  refine cal_kwO A (fun D doc pm an cdv ct us mv ws h1 h2 h3 => ?_) hf
  match us, mv, ws, h1, h2, h3 with
  | [_, _], [_, _], [_], _, _, _ => exact ⟨_, _, _, _, _, _, rfl, rfl, _, _, _, _, _, _, rfl, rfl, rfl⟩
theorem cal_lost_idsW {k : Nat} {sp : Sp} (A : AtD K mg "lost_ids" s_lost_ids [] kwR) (hf : ∀ {f fd}, FunD K "lost_ids" "lost_ids" (defArgs s_lost_ids) (defBody s_lost_ids) (defScope s_lost_ids) [] kwR f fd → FnOk P w K mg base CX0 k f fd psR sp) :
    CalK P w K mg base "lost_ids" "wait" k sp gWt := by
  refine cal_kwW A (fun D doc pm an cdv ct us mv ws h1 h2 h3 => ?_) hf
  match us, mv, ws, h1, h2, h3 with
  | [_, _], [_, _], [_], _, _, _ => exact ⟨_, _, _, _, _, _, rfl, rfl, _, _, _, _, _, _, rfl, rfl, rfl⟩
theorem cal_readO {k : Nat} {sp : Sp} (A : AtD K mg "read" s_read [] kwR) (hf : ∀ {f fd}, FunD K "read" "read" (defArgs s_read) (defBody s_read) (defScope s_read) [] kwR f fd → FnOk P w K mg base CX0 k f fd psR sp) :
    CalK P w K mg base "read" "overlap" k sp gOv := by
  refine cal_kwO A (fun D doc pm an cdv ct us mv ws h1 h2 h3 => ?_) hf
  match us, mv, ws, h1, h2, h3 with
  | [_, _], [_, _], [_], _, _, _ => exact ⟨_, _, _, _, _, _, rfl, rfl, _, _, _, _, _, _, rfl, rfl, rfl⟩
end
end K70
/-! #### K70B3 -/
set_option Elab.async false
set_option linter.all false
set_option maxRecDepth 100000
set_option maxHeartbeats 4000000
namespace K70
open PySem PySem.Spec PyProof.Rows L2
open Lat (OrdOk PollsOk)
section
variable {P : Program} {w : World} {K : PySem.W.Frag} {mg : Str → Option Value} {base : Heap}
/-- the law's question of a least overlap and a least wait, in plain words -/
theorem least_law {o ps : List Int} {n m : Int} (ho : OrdOk o) (hp : PollsOk n ps) :
    (Lat.leastM ((Lat.lostL o ps 1 0).map (Lat.vR o ps)) 1 m = none ∧ Lat.leastM ((Lat.lostL o ps 1 0).map (Lat.vW o ps)) 0 m = none ∧ m < ((Lat.lostL o ps (10 ^ Int.toNat 30) 0).length : Int)) ∨
    ∃ u k, Lat.leastM ((Lat.lostL o ps 1 0).map (Lat.vR o ps)) 1 m = some u ∧ Lat.leastM ((Lat.lostL o ps 1 0).map (Lat.vW o ps)) 0 m = some k ∧ 1 ≤ u ∧ 0 ≤ k ∧ ((Lat.lostL o ps u 0).length : Int) ≤ m ∧ ((Lat.lostL o ps 1 k).length : Int) ≤ m ∧
      (1 < u → m < ((Lat.lostL o ps (u - 1) 0).length : Int)) ∧ (0 < k → m < ((Lat.lostL o ps 1 (k - 1)).length : Int)) := by
  have hnone := Lat.none_same o ps (Lat.lostL o ps 1 0)
  have hlen : ((Lat.lostL o ps 1 0).map (Lat.vR o ps)).length = ((Lat.lostL o ps 1 0).map (Lat.vW o ps)).length := by rw [List.length_map, List.length_map]
  have iff : Lat.leastM ((Lat.lostL o ps 1 0).map (Lat.vR o ps)) 1 m = none ↔ Lat.leastM ((Lat.lostL o ps 1 0).map (Lat.vW o ps)) 0 m = none := by
    rw [Lat.leastM_none, Lat.leastM_none, hnone, hlen]
  cases e1 : Lat.leastM ((Lat.lostL o ps 1 0).map (Lat.vR o ps)) 1 m with
  | none =>
    refine .inl ⟨rfl, iff.mp e1, ?_⟩
    rw [Lat.lost_over ho (by decide) hp]
    have h1 := Lat.leastM_none.mp e1
    have h2 := Lat.cnt_ge_none ((Lat.lostL o ps 1 0).map (Lat.vR o ps)) (10 ^ Int.toNat 30)
    omega
  | some u =>
    cases e2 : Lat.leastM ((Lat.lostL o ps 1 0).map (Lat.vW o ps)) 0 m with
    | none => rw [iff.mpr e2] at e1; cases e1
    | some k =>
      obtain ⟨a1, a2, a3⟩ := Lat.leastM_some e1
      obtain ⟨b1, b2, b3⟩ := Lat.leastM_some e2
      refine .inr ⟨u, k, rfl, rfl, a1, b1, ?_, ?_, fun h => ?_, fun h => ?_⟩
      · rw [Lat.lost_over ho a1 hp]; exact a2
      · rw [Lat.lost_wait ho b1 hp]; exact b2
      · rw [Lat.lost_over ho (by omega) hp]; exact a3 h
      · rw [Lat.lost_wait ho (by omega) hp]; exact b3 h
/-! ### _law_least_right -/
abbrev s_law_least_right : Stmt := topS 62
theorem sc_law_least_right : FnScope ["_law_row_ids", "_law_looks_here", "_law_most", "_law_near", "_law_late"] ["_law_row_ids", "_law_looks_here", "_law_most"] (defScope s_law_least_right) := ⟨rfl, rfl, rfl, by decide +kernel, rfl, by decide +kernel, by decide +kernel⟩
def sp_law_least_right : Sp := fun vs H Q _ => ∃ (a b : Addr) (o ps : List Int) (m : Int), vs = [.ref a, .ref b, .int m] ∧ IL H a o ∧ OrdOk o ∧ IL H b ps ∧ ps.length ≤ 30 ∧ PollsOk o.length ps ∧ 0 ≤ m ∧ Ret H Q (.bl true)
theorem cal_law_least_right (T : Env mg) (At : AtN K mg "_law_least_right" s_law_least_right) (C_least_overlap : Cal P w K mg base "least_overlap" 5 ["order", "polls", "most"] [] sp_least_overlap) (C_least_wait : Cal P w K mg base "least_wait" 5 ["order", "polls", "most"] [] sp_least_wait) (C_lost_ids_o : CalK P w K mg base "lost_ids" "overlap" 6 sp_lost_ids gOv) (C_lost_ids_w : CalK P w K mg base "lost_ids" "wait" 6 sp_lost_ids gWt) : Cal P w K mg base "_law_least_right" 7 ["_law_row_ids", "_law_looks_here", "_law_most"] [] sp_law_least_right := by
  refine cal_mk At (fun F => F.binds (ps := ["_law_row_ids", "_law_looks_here", "_law_most"]) fun _ _ _ _ _ _ us hl => match us, hl with | [_, _, _], _ => rfl) fun F => ?_
  obtain ⟨f_least_overlap, fd_least_overlap, d_least_overlap, G_least_overlap, g_least_overlap, k_least_overlap, b_least_overlap, v_least_overlap⟩ := C_least_overlap
  obtain ⟨f_least_wait, fd_least_wait, d_least_wait, G_least_wait, g_least_wait, k_least_wait, b_least_wait, v_least_wait⟩ := C_least_wait
  obtain ⟨f_lost_ids_o, fd_lost_ids_o, gg_lost_ids_o, G_lost_ids_o, g_lost_ids_o, k_lost_ids_o, b_lost_ids_o⟩ := C_lost_ids_o
  obtain ⟨f_lost_ids_w, fd_lost_ids_w, gg_lost_ids_w, G_lost_ids_w, g_lost_ids_w, k_lost_ids_w, b_lost_ids_w⟩ := C_lost_ids_w
  have m_len := T.m_len
  refine F.ok sc_law_least_right (fun vs H Q E h => ?_) (fun cdv A outer s H vs Q E hr h => ?_)
  · obtain ⟨a, b, o, ps, m, rfl, hA, ho, hB, hl, ok, h0, q⟩ := h
    rfl
  · obtain ⟨a, b, o, ps, m, rfl, hA, ho, hB, hl, ok, h0, q⟩ := h
    refine ⟨_, (pss_cons (ps_par (i := 3) (j := 4) (by rfl) sc_law_least_right.nd rfl rfl (by decide) rfl rfl (pa_cons (pe_call G_least_overlap (hr.mono (by decide)) (by rfl) g_least_overlap k_least_overlap b_least_overlap v_least_overlap pass0 (pa_cons (pv 0) (pa_cons (pv 1) (pa_cons (pv 2) pa_nil)))) (pa_cons (pe_call G_least_wait (hr.mono (by decide)) (by rfl) g_least_wait k_least_wait b_least_wait v_least_wait pass0 (pa_cons (pv 0) (pa_cons (pv 1) (pa_cons (pv 2) pa_nil)))) pa_nil)) (by rfl))
      (pss_cons (ps_if (PW.pt (pw_or (pt_cmpR op_isN (pv 3) pe_non (nomark _)) (pw_or1 (pt_cmpR op_isN (pv 4) pe_non (nomark _))))) (pss_one (ps_ret (pe_and (pe_cmpR op_isN (pv 3) pe_non (nomark _)) (pe_and (pe_cmpR op_isN (pv 4) pe_non (nomark _)) (pe_one (pe_cmpR op_gt (pe_callB call_len_seq (by rfl) m_len (by decide +kernel) (pa_cons (pe_callN G_lost_ids_o (hr.mono (by decide)) (by rfl) g_lost_ids_o k_lost_ids_o b_lost_ids_o pass0 (pa_cons (pv 0) (pa_cons (pv 1) pa_nil)) (pk_cons (pe_op op_powW pe_int pe_int) pk_nil)) pa_nil)) (pv 2) (nomark _))))))) pss_nil)
      (pss_cons (ps_if (PW.pt (pw_or (pt_cmpR op_gt (pe_callB call_len_seq (by rfl) m_len (by decide +kernel) (pa_cons (pe_callN G_lost_ids_o (hr.mono (by decide)) (by rfl) g_lost_ids_o k_lost_ids_o b_lost_ids_o pass0 (pa_cons (pv 0) (pa_cons (pv 1) pa_nil)) (pk_cons (pv 3) pk_nil)) pa_nil)) (pv 2) (nomark _)) (pw_or1 (pt_cmpR op_gt (pe_callB call_len_seq (by rfl) m_len (by decide +kernel) (pa_cons (pe_callN G_lost_ids_w (hr.mono (by decide)) (by rfl) g_lost_ids_w k_lost_ids_w b_lost_ids_w pass0 (pa_cons (pv 0) (pa_cons (pv 1) pa_nil)) (pk_cons (pv 4) pk_nil)) pa_nil)) (pv 2) (nomark _))))) (pss_one (ps_ret pe_bl)) pss_nil)
      (pss_cons (ps_if (PW.pt (pw_and (pt_cmpR op_gt (pv 3) pe_int (nomark _)) (pw_and1 (pt_cmpR op_le (pe_callB call_len_seq (by rfl) m_len (by decide +kernel) (pa_cons (pe_callN G_lost_ids_o (hr.mono (by decide)) (by rfl) g_lost_ids_o k_lost_ids_o b_lost_ids_o pass0 (pa_cons (pv 0) (pa_cons (pv 1) pa_nil)) (pk_cons (pe_op op_sub (pv 3) pe_int) pk_nil)) pa_nil)) (pv 2) (nomark _))))) (pss_one (ps_ret pe_bl)) pss_nil)
      (pss_one (ps_ret (pe_or (pe_cmpR op_eq (pv 4) pe_int (nomark _)) (pe_one (pe_cmpR op_gt (pe_callB call_len_seq (by rfl) m_len (by decide +kernel) (pa_cons (pe_callN G_lost_ids_w (hr.mono (by decide)) (by rfl) g_lost_ids_w k_lost_ids_w b_lost_ids_w pass0 (pa_cons (pv 0) (pa_cons (pv 1) pa_nil)) (pk_cons (pe_op op_sub (pv 4) pe_int) pk_nil)) pa_nil)) (pv 2) (nomark _)))))))))), ?_⟩
    refine ⟨_, rfl, _, rfl, _, rfl, a, b, o, ps, m, rfl, hA, ho, hB, hl, ok, h0, fun H1 s1 => ?_⟩
    refine ⟨_, rfl, _, rfl, _, rfl, a, b, o, ps, m, rfl, s1 _ _ hA, ho, s1 _ _ hB, hl, ok, h0, fun H2 s2 => ?_⟩
    refine ⟨_, _, rfl, ?_⟩
    have t2 := s1.trans s2
    rcases least_law (m := m) ho ok with ⟨e1, e2, e3⟩ | ⟨u, k, e1, e2, hu, hk, c1, c2, c3, c4⟩
    · rw [e1, e2]
      refine ⟨_, rfl, rfl, _, rfl, iteT (iteT ?_)⟩
      refine ⟨_, rfl, rfl, _, rfl, iteT ?_⟩
      refine ⟨_, rfl, rfl, _, rfl, iteT ?_⟩
      refine ⟨_, rfl, _, rfl, 10, 30, rfl, rfl, powW_ok (n := 4) (by decide) (by decide) (by decide) (by decide), rfl, rfl, a, b, o, ps, 10 ^ Int.toNat 30, 0, rfl, t2 _ _ hA, ho, t2 _ _ hB, hl, ok, by decide, by decide, .inr rfl, fun H3 p s3 np hp => ?_⟩
      refine ⟨p, _, rfl, .inl (SqL.of hp), _, rfl, _, _, rfl, rfl, ?_⟩
      have hx : ((Lat.lostL o ps (10 ^ Int.toNat 30) 0).map V.int).length = (Lat.lostL o ps (10 ^ Int.toNat 30) 0).length := List.length_map ..
      rw [hx]
      show Q (V.bl (decide (m < _))) H3
      rw [decide_eq_true e3]
      exact q H3 (t2.trans s3)
    · rw [e1, e2]
      refine ⟨_, rfl, rfl, _, rfl, iteF ?_⟩
      refine ⟨_, rfl, rfl, _, rfl, iteF ?_⟩
      -- the least ones keep enough
      refine ⟨_, rfl, _, rfl, _, rfl, rfl, rfl, a, b, o, ps, u, 0, rfl, t2 _ _ hA, ho, t2 _ _ hB, hl, ok, hu, by decide, .inr rfl, fun H3 p3 s3 np3 hp3 => ?_⟩
      have hx1 : ((Lat.lostL o ps u 0).map V.int).length = (Lat.lostL o ps u 0).length := List.length_map ..
      refine ⟨p3, _, rfl, .inl (SqL.of hp3), _, rfl, _, _, rfl, rfl, _, rfl, ?_⟩
      rw [hx1, decide_eq_false (by omega)]
      refine iteF ?_
      have t3 := t2.trans s3
      refine ⟨_, rfl, _, rfl, _, rfl, rfl, rfl, a, b, o, ps, 1, k, rfl, t3 _ _ hA, ho, t3 _ _ hB, hl, ok, by decide, hk, .inl rfl, fun H4 p4 s4 np4 hp4 => ?_⟩
      have hx2 : ((Lat.lostL o ps 1 k).map V.int).length = (Lat.lostL o ps 1 k).length := List.length_map ..
      refine ⟨p4, _, rfl, .inl (SqL.of hp4), _, rfl, _, _, rfl, rfl, _, rfl, ?_⟩
      rw [hx2, decide_eq_false (by omega)]
      refine iteF ?_
      have t4 := t3.trans s4
      -- one less of the overlap
      refine ⟨_, rfl, _, _, rfl, rfl, _, rfl, ?_⟩
      refine ite2 (fun e => ?_) (fun e => iteF ?_)
      · have e := of_decide_eq_true e
        refine ⟨_, rfl, _, rfl, _, rfl, _, _, rfl, rfl, rfl, rfl, a, b, o, ps, u - 1, 0, rfl, t4 _ _ hA, ho, t4 _ _ hB, hl, ok, by omega, by decide, .inr rfl, fun H5 p5 s5 np5 hp5 => ?_⟩
        have hx3 : ((Lat.lostL o ps (u - 1) 0).map V.int).length = (Lat.lostL o ps (u - 1) 0).length := List.length_map ..
        refine ⟨p5, _, rfl, .inl (SqL.of hp5), _, rfl, _, _, rfl, rfl, _, rfl, ?_⟩
        have := c3 e
        rw [hx3, decide_eq_false (by omega)]
        refine iteF ?_
        have t5 := t4.trans s5
        refine ⟨_, rfl, rfl, _, rfl, ite2 (fun e => q H5 t5) (fun e => ?_)⟩
        have e : ¬ k = 0 := fun z => e (decide_eq_true (congrArg V.int z))
        refine ⟨_, rfl, _, rfl, _, rfl, _, _, rfl, rfl, rfl, rfl, a, b, o, ps, 1, k - 1, rfl, t5 _ _ hA, ho, t5 _ _ hB, hl, ok, by decide, by omega, .inl rfl, fun H6 p6 s6 np6 hp6 => ?_⟩
        have hx4 : ((Lat.lostL o ps 1 (k - 1)).map V.int).length = (Lat.lostL o ps 1 (k - 1)).length := List.length_map ..
        refine ⟨p6, _, rfl, .inl (SqL.of hp6), _, rfl, _, _, rfl, rfl, ?_⟩
        rw [hx4]
        show Q (V.bl (decide (m < _))) H6
        rw [decide_eq_true (c4 (by omega))]
        exact q H6 (t5.trans s6)
      · refine ⟨_, rfl, rfl, _, rfl, ite2 (fun e => q H4 t4) (fun e => ?_)⟩
        have e : ¬ k = 0 := fun z => e (decide_eq_true (congrArg V.int z))
        refine ⟨_, rfl, _, rfl, _, rfl, _, _, rfl, rfl, rfl, rfl, a, b, o, ps, 1, k - 1, rfl, t4 _ _ hA, ho, t4 _ _ hB, hl, ok, by decide, by omega, .inl rfl, fun H6 p6 s6 np6 hp6 => ?_⟩
        have hx4 : ((Lat.lostL o ps 1 (k - 1)).map V.int).length = (Lat.lostL o ps 1 (k - 1)).length := List.length_map ..
        refine ⟨p6, _, rfl, .inl (SqL.of hp6), _, rfl, _, _, rfl, rfl, ?_⟩
        rw [hx4]
        show Q (V.bl (decide (m < _))) H6
        rw [decide_eq_true (c4 (by omega))]
        exact q H6 (t4.trans s6)
end
end K70
/-! #### K70B4 -/
set_option Elab.async false
set_option linter.all false
set_option maxRecDepth 100000
set_option maxHeartbeats 4000000
namespace K70
open PySem PySem.Spec PyProof.Rows L2
open Lat (OrdOk PollsOk)
section
variable {P : Program} {w : World} {K : PySem.W.Frag} {mg : Str → Option Value} {base : Heap}
theorem end_polls {n : Int} {ps : List Int} (h : PollsOk n ps) (h0 : 0 ≤ n) (k : Nat) : PollsOk n (ps.take k ++ [n]) ∧ Lat.lastD (ps.take k ++ [n]) = n := by
  refine ⟨⟨List.pairwise_append.mpr ⟨h.pw.sublist (List.take_sublist _ _), by simp, fun x hx y hy => ?_⟩, fun p hp => ?_⟩, Lat.lastD_snoc _ _⟩
  · have : y = n := by simpa using hy
    rw [this]; exact (h.rng x (List.mem_of_mem_take hx)).2
  · rcases List.mem_append.mp hp with z | z
    · exact h.rng p (List.mem_of_mem_take z)
    · have : p = n := by simpa using z
      omega
/-! ### _law_end_right -/
abbrev s_law_end_right : Stmt := topS 64
theorem sc_law_end_right : FnScope ["_law_pool_here", "_law_row_ids", "_law_size", "_law_looks_here", "_law_every", "_law_rows"] ["_law_pool_here", "_law_row_ids", "_law_size"] (defScope s_law_end_right) := ⟨rfl, rfl, rfl, by decide +kernel, rfl, by decide +kernel, by decide +kernel⟩
def sp_law_end_right : Sp := fun vs H Q _ => ∃ (p a : Addr) (N : Nat) (o : List Int) (u : Int), vs = [.ref p, .ref a, .int u] ∧ PoolAt H p N ∧ N ≤ 40000 ∧ a ≠ p ∧ IL H a o ∧ OrdOk o ∧ 1 ≤ u ∧ (∀ r ∈ o, Lat.topAt o (Lat.pos o r - 1) - r + 1 ≤ u) ∧
  ∀ H', SameX p H H' → PoolAt H' p (N + 100) → Q (.bl true) H'
theorem cal_law_end_right (T : Env mg) (At : AtN K mg "_law_end_right" s_law_end_right) (C_read_o : CalK P w K mg base "read" "overlap" 6 sp_read gOv) (C_law_looks : Cal P w K mg base "_law_looks" 2 ["_law_pool_here", "_law_size", "_law_most"] [] sp_law_looks) (C_lost_ids_o : CalK P w K mg base "lost_ids" "overlap" 6 sp_lost_ids gOv) : Cal P w K mg base "_law_end_right" 7 ["_law_pool_here", "_law_row_ids", "_law_size"] [] sp_law_end_right := by
  refine cal_mk At (fun F => F.binds (ps := ["_law_pool_here", "_law_row_ids", "_law_size"]) fun _ _ _ _ _ _ us hl => match us, hl with | [_, _, _], _ => rfl) fun F => ?_
  obtain ⟨f_read_o, fd_read_o, gg_read_o, G_read_o, g_read_o, k_read_o, b_read_o⟩ := C_read_o
  obtain ⟨f_law_looks, fd_law_looks, d_law_looks, G_law_looks, g_law_looks, k_law_looks, b_law_looks, v_law_looks⟩ := C_law_looks
  obtain ⟨f_lost_ids_o, fd_lost_ids_o, gg_lost_ids_o, G_lost_ids_o, g_lost_ids_o, k_lost_ids_o, b_lost_ids_o⟩ := C_lost_ids_o
  have m_len := T.m_len
  have m_sorted := T.m_sorted
  refine F.ok sc_law_end_right (fun vs H Q E h => ?_) (fun cdv A outer s H vs Q E hr h => ?_)
  · obtain ⟨p, a, N, o, u, rfl, hP, hN, hap, hA, ho, hu, hg, q⟩ := h
    rfl
  · obtain ⟨p, a, N, o, u, rfl, hP, hN, hap, hA, ho, hu, hg, q⟩ := h
    refine ⟨_, (pss_cons (ps_set (i := 3) sc_law_end_right.nd rfl (Or.inl rfl) (pe_op op_cat (pe_slice sl_list (pe_call G_law_looks (hr.mono (by decide)) (by rfl) g_law_looks k_law_looks b_law_looks v_law_looks pass0 (pa_cons (pv 0) (pa_cons (pe_callB call_len_seq (by rfl) m_len (by decide +kernel) (pa_cons (pv 1) pa_nil)) (pa_cons pe_int pa_nil)))) po_none (po_some pe_int)) (pe_lst (pa_cons (pe_callB call_len_seq (by rfl) m_len (by decide +kernel) (pa_cons (pv 1) pa_nil)) pa_nil))))
      (pss_cons (ps_set (i := 4) sc_law_end_right.nd rfl (Or.inl rfl) (pe_lst pa_nil))
      (pss_cons (ps_for PassesOwn.never rfl (pi_list (pe_callN G_read_o (hr.mono (by decide)) (by rfl) g_read_o k_read_o b_read_o pass0 (pa_cons (pv 1) (pa_cons (pv 3) pa_nil)) (pk_cons (pv 2) pk_nil))) (pg_name (i := 5) sc_law_end_right.nd rfl (Or.inl rfl)) (pss_one (ps_set (i := 4) sc_law_end_right.nd rfl (Or.inl rfl) (pe_op op_cat (pv 4) (pv 5)))))
      (pss_one (ps_ret (pe_and (pe_cmpR (op_eqD hr.units) (pe_callN G_lost_ids_o (hr.mono (by decide)) (by rfl) g_lost_ids_o k_lost_ids_o b_lost_ids_o pass0 (pa_cons (pv 1) (pa_cons (pv 3) pa_nil)) (pk_cons (pv 2) pk_nil)) (pe_lst pa_nil) (nomark _)) (pe_one (pe_cmpR (op_eqD hr.units) (pe_callB cr_sortedI (by rfl) m_sorted (by decide +kernel) (pa_cons (pv 4) pa_nil)) (pe_callB cr_sortedI (by rfl) m_sorted (by decide +kernel) (pa_cons (pv 1) pa_nil)) (nomark _))))))))), ?_⟩
    have hol := ho.len
    have hlen : ((o.map V.int).length : Int) = o.length := by rw [List.length_map]
    refine ⟨_, rfl, _, rfl, a, _, rfl, .inl (SqL.of hA), p, N, ((o.map V.int).length : Int), 29, rfl, hP, by omega, by omega, by omega, by decide, by decide, fun H1 x ps s1 nx hx p1 ok hpl => ?_⟩
    rw [hlen] at ok
    have hxp : x ≠ p := hP.ne nx
    refine ⟨_, rfl, x, _, rfl, SqL.of hx, fun y ny => ?_⟩
    rw [cut_take (by decide), ← List.map_take]
    have hA1 := s1.il hap hA
    have s2 := same_upd (o := .lst ((ps.take (Int.toNat 29)).map V.int)) ny
    have p2 := p1.upd (o := .lst ((ps.take (Int.toNat 29)).map V.int)) (p1.ne ny).symm
    have hy : IL (upd H1 y (.lst ((ps.take (Int.toNat 29)).map V.int))) y (ps.take (Int.toNat 29)) := upd_same
    have hA2 := s2 _ _ hA1
    have t2 := s1.trans (.of s2)
    generalize upd H1 y (.lst ((ps.take (Int.toNat 29)).map V.int)) = H2 at p2 hy hA2 t2
    refine ⟨_, rfl, a, _, rfl, .inl (SqL.of hA2), by show 1 ≤ sizeLine; decide, fun z nz => ?_⟩
    rw [hlen]
    have s3 := same_upd (o := .lst [.int (o.length : Int)]) nz
    have p3 := p2.upd (o := .lst [.int (o.length : Int)]) (p2.ne nz).symm
    have htl := List.length_take_le' (Int.toNat 29) ps
    have htl2 : (ps.take (Int.toNat 29)).length ≤ 29 := List.length_take_le (Int.toNat 29) ps
    refine ⟨y, z, _, _, rfl, rfl, s3 _ _ hy, upd_same, by rw [List.length_map]; exact small_line (by simp only [List.length_singleton]; omega), fun b nb => ?_⟩
    have s4 := same_upd (o := .lst ((ps.take (Int.toNat 29)).map V.int ++ [V.int (o.length : Int)])) nb
    have p4 := p3.upd (o := .lst ((ps.take (Int.toNat 29)).map V.int ++ [V.int (o.length : Int)])) (p3.ne nb).symm
    have hB : IL (upd (upd H2 z (.lst [.int (o.length : Int)])) b (.lst ((ps.take (Int.toNat 29)).map V.int ++ [V.int (o.length : Int)]))) b (ps.take (Int.toNat 29) ++ [(o.length : Int)]) := by
      show upd _ b _ b = _
      rw [upd_same, List.map_append]; rfl
    have hA4 := s4 _ _ (s3 _ _ hA2)
    have t4 := (t2.trans (.of s3)).trans (.of s4)
    show tSeq _ _ _ _ (upd (upd H2 z (.lst [.int (o.length : Int)])) b (.lst ((ps.take (Int.toNat 29)).map V.int ++ [V.int (o.length : Int)])))
    generalize upd (upd H2 z (.lst [.int (o.length : Int)])) b (.lst ((ps.take (Int.toNat 29)).map V.int ++ [V.int (o.length : Int)])) = H4 at p4 hB hA4 t4
    have hok := end_polls ok (by omega) (Int.toNat 29)
    have hbl : (ps.take (Int.toNat 29) ++ [(o.length : Int)]).length ≤ 30 := by rw [List.length_append, List.length_singleton]; omega
    have hbne : ps.take (Int.toNat 29) ++ [(o.length : Int)] ≠ [] := by simp
    generalize ps.take (Int.toNat 29) ++ [(o.length : Int)] = bs at hB hok hbl hbne
    obtain ⟨okb, hlast⟩ := hok
    have fine := Lat.end_ok ho hu okb hlast hbne hg
    have R := Lat.run_ok ho hu (Int.le_refl 0) bs okb
    clear s2 s3 hy hA2 t2 p2 p3 s1 p1 hx nx ny nz nb hA1
    refine ⟨Nat.zero_le _, fun e ne => ?_⟩
    have s5 := same_upd (o := .lst []) ne
    have p5 := p4.upd (o := .lst []) (p4.ne ne).symm
    have t5 := t4.trans (.of s5)
    refine ⟨_, rfl, _, rfl, _, rfl, rfl, rfl, a, b, o, bs, u, 0, rfl, s5 _ _ hA4, ho, s5 _ _ hB, hbl, okb, hu, by decide, .inr rfl, fun H6 F s6 nF hF => ?_⟩
    have p6 := p5.same s6
    have t6 := t5.trans (.of s6)
    have he6 : IL H6 e [] := s6 _ _ upd_same
    have hA6 := s6 _ _ (s5 _ _ hA4)
    have hB6 := s6 _ _ (s5 _ _ hB)
    obtain ⟨as, hFs, hal, hat⟩ := hF
    refine ⟨F, rfl, ⟨_, SqL.of hFs⟩, for_list (K := K) (a := F) (xs := as.map V.ref) (fun i σ H' => ∃ (E : Addr) (z : Option V), σ = [some (.ref p), some (.ref a), some (.int u), some (.ref b), some (.ref E), z] ∧ Same H6 H' ∧ IL H' E ((Lat.runR o u 0 bs).lists.take i).flatten)
      ⟨e, none, rfl, Same.refl _, he6⟩ (fun i σ H' _ ⟨_, _, _, h, _⟩ => SqL.of (h _ _ hFs)) ?_ ?_⟩
    · rintro i y σ H7 hy ⟨E, z, rfl, s7, hE⟩
      obtain ⟨t, ht, rfl⟩ := get_map hy
      have hi : i < (Lat.runR o u 0 bs).lists.length := by rw [← hal]; exact (List.getElem?_eq_some_iff.mp ht).1
      obtain ⟨l, hl⟩ : ∃ l, (Lat.runR o u 0 bs).lists[i]? = some l := ⟨_, List.getElem?_eq_getElem hi⟩
      have hT := s7 _ _ (hat i t l ht hl)
      have hfl : ((Lat.runR o u 0 bs).lists.take (i + 1)).flatten = ((Lat.runR o u 0 bs).lists.take i).flatten ++ l := by rw [take_snoc hl]; simp
      have hsum : ((Lat.runR o u 0 bs).lists.take (i + 1)).flatten.length ≤ 30 := by
        have h1 : (Lat.runR o u 0 bs).ret.length ≤ 30 := Nat.le_trans (nodup_len R.nd ho.nd fun x hx => ((R.mem x).mp hx).1) hol
        rw [R.fl] at h1
        have e2 : (Lat.runR o u 0 bs).lists.flatten = ((Lat.runR o u 0 bs).lists.take (i + 1)).flatten ++ ((Lat.runR o u 0 bs).lists.drop (i + 1)).flatten := by rw [← List.flatten_append, List.take_append_drop]
        rw [e2, List.length_append] at h1
        omega
      rw [hfl, List.length_append] at hsum
      refine ⟨_, rfl, _, rfl, E, t, _, _, rfl, rfl, hE, hT, by rw [List.length_map, List.length_map]; exact small_line (by omega), fun w nw => ?_⟩
      refine ⟨w, _, rfl, s7.trans (same_upd nw), ?_⟩
      show upd H7 w _ w = _
      rw [upd_same, hfl, List.map_append]
    · rintro σ H7 ⟨E, z, rfl, s7, hE⟩
      rw [List.length_map, hal, List.take_length] at hE
      have p7 := p6.same s7
      have t7 := t6.trans (.of s7)
      refine ⟨_, rfl, _, rfl, _, rfl, rfl, rfl, a, b, o, bs, u, 0, rfl, s7 _ _ hA6, ho, s7 _ _ hB6, hbl, okb, hu, by decide, .inr rfl, fun H8 x s8 nx hx => ?_⟩
      rw [fine.1] at hx
      refine ⟨Nat.zero_le _, fun w nw => ?_⟩
      have s9 := same_upd (o := .lst []) nw
      refine eq_ints (ns := []) (ms := []) (SqL.of (s9 _ _ hx)) (SqL.of upd_same) ⟨_, rfl, iteT ?_⟩
      have hE9 := s9 _ _ (s8 _ _ hE)
      have p9 := (p7.same s8).same s9
      have t9 := (t7.trans (.of s8)).trans (.of s9)
      have hA9 := s9 _ _ (s8 _ _ (s7 _ _ hA6))
      generalize upd H8 w (.lst []) = H9 at hE9 p9 t9 hA9
      refine ⟨_, rfl, E, _, rfl, SqL.of hE9, fun n1 y1 pm1 so1 ny1 => ?_⟩
      obtain rfl := Lat.srt_uniq pm1 so1
      have s10 := same_upd (o := .lst ((Lat.srt (Lat.runR o u 0 bs).lists.flatten).map V.int)) ny1
      refine ⟨_, rfl, a, _, rfl, SqL.of (s10 _ _ hA9), fun n2 y2 pm2 so2 ny2 => ?_⟩
      obtain rfl := Lat.srt_uniq pm2 so2
      have s11 := same_upd (o := .lst ((Lat.srt o).map V.int)) ny2
      refine eq_ints (SqL.of (s11 _ _ upd_same)) (SqL.of upd_same) ?_
      rw [decide_eq_true (Lat.srt_perm_eq fine.2)]
      exact q _ ((t9.trans (.of s10)).trans (.of s11)) (((p9.same s10).same s11).mono (by omega))
end
end K70
/-! #### K70B5 -/
set_option Elab.async false
set_option linter.all false
set_option maxRecDepth 100000
set_option maxHeartbeats 4000000
namespace K70
open PySem PySem.Spec PyProof.Rows L2
open Lat (OrdOk PollsOk)
section
variable {P : Program} {w : World} {K : PySem.W.Frag} {mg : Str → Option Value} {base : Heap}
theorem rdict_key (f : Int → V) (L : List Int) : ((rdict f L).map fun kv => kV kv.1) = L.map V.int := by
  unfold rdict
  rw [List.map_map]; rfl
theorem dget_rdict {H : Hp} {d : Addr} {f : Int → V} {L : List Int} {r : Int} {x : V} (h : H d = some (.dK (rdict f L))) (hr : r ∈ L) (hx : f r = x) : DGet H d (.int r) (some x) := by
  have e := DGet.k (k := Sum.inl r) h
  rw [valV_rdict, if_pos hr, hx] at e
  exact e
theorem flat_sub {xs : List V} {o : List Int} (h : ∀ v ∈ xs, v ∈ o.map V.int) : xs.all flatV = true := by
  rw [List.all_eq_true]
  intro x hx
  obtain ⟨i, _, rfl⟩ := List.mem_map.mp (h x hx)
  rfl
theorem plain_mem {o ps : List Int} {n v : Int} (ho : OrdOk o) (hp : PollsOk n ps) : v ∈ Lat.lostL o ps 1 0 ↔ v ∈ o ∧ 0 < Lat.dcnt o ps v := by
  rw [Lat.plain_wait ho hp, List.mem_filter, Lat.mem_srt, decide_eq_true_eq]
/-- an id that a plain reader loses, by an overlap -/
theorem lost_over_iff {o ps : List Int} {n v z : Int} (ho : OrdOk o) (hp : PollsOk n ps) (hv : v ∈ Lat.lostL o ps 1 0) (hb : Lat.behind o ps v ≠ []) (hz : 1 ≤ z) : v ∈ Lat.lostL o ps z 0 ↔ z < Lat.cAt o ps v - v + 1 := by
  obtain ⟨h1, h2⟩ := (plain_mem ho hp).mp hv
  rw [Lat.mem_lostL ho hz (by decide) hp]
  unfold Lat.lostP
  constructor
  · rintro ⟨_, _, h | h⟩
    · exact absurd h hb
    · omega
  · intro h
    exact ⟨h1, h2, .inr ⟨by omega, by omega⟩⟩
/-! ### _law_margins_right -/
abbrev s_law_margins_right : Stmt := topS 63
theorem sc_law_margins_right : FnScope ["_law_pool_here", "_law_row_ids", "_law_looks_here", "_law_near", "_law_late", "_law_plain", "_law_row", "_law_danger", "_law_first", "_law_last", "_law_many", "_law_size", "_law_others", "_law_look"] ["_law_pool_here", "_law_row_ids", "_law_looks_here"] (defScope s_law_margins_right) := ⟨rfl, rfl, rfl, by decide +kernel, rfl, by decide +kernel, by decide +kernel⟩
def sp_law_margins_right : Sp := fun vs H Q _ => ∃ (p a b : Addr) (N : Nat) (o ps : List Int), vs = [.ref p, .ref a, .ref b] ∧ PoolAt H p N ∧ N ≤ 40000 ∧ a ≠ p ∧ b ≠ p ∧ IL H a o ∧ OrdOk o ∧ IL H b ps ∧ ps.length ≤ 30 ∧ PollsOk o.length ps ∧
  ∀ H', SameX p H H' → PoolAt H' p (N + 100) → Q (.bl true) H'
theorem cal_law_margins_right (T : Env mg) (At : AtN K mg "_law_margins_right" s_law_margins_right) (C_reaches : Cal P w K mg base "reaches" 5 ["order", "polls"] [] sp_reaches) (C_waits : Cal P w K mg base "waits" 5 ["order", "polls"] [] sp_waits) (C_lost_ids : Cal P w K mg base "lost_ids" 6 ["order", "polls", "overlap", "wait", "page"] [.int 1, .int 0, .non] sp_lost_ids) (C_danger_of : Cal P w K mg base "danger_of" 5 ["order", "row"] [] sp_danger_of) (C_law_draw : Cal P w K mg base "_law_draw" 1 ["_law_pool_here", "_law_many"] [] sp_law_draw) (C_lost_ids_o : CalK P w K mg base "lost_ids" "overlap" 6 sp_lost_ids gOv) : Cal P w K mg base "_law_margins_right" 7 ["_law_pool_here", "_law_row_ids", "_law_looks_here"] [] sp_law_margins_right := by
  refine cal_mk At (fun F => F.binds (ps := ["_law_pool_here", "_law_row_ids", "_law_looks_here"]) fun _ _ _ _ _ _ us hl => match us, hl with | [_, _, _], _ => rfl) fun F => ?_
  obtain ⟨f_reaches, fd_reaches, d_reaches, G_reaches, g_reaches, k_reaches, b_reaches, v_reaches⟩ := C_reaches
  obtain ⟨f_waits, fd_waits, d_waits, G_waits, g_waits, k_waits, b_waits, v_waits⟩ := C_waits
  obtain ⟨f_lost_ids, fd_lost_ids, d_lost_ids, G_lost_ids, g_lost_ids, k_lost_ids, b_lost_ids, v_lost_ids⟩ := C_lost_ids
  obtain ⟨f_danger_of, fd_danger_of, d_danger_of, G_danger_of, g_danger_of, k_danger_of, b_danger_of, v_danger_of⟩ := C_danger_of
  obtain ⟨f_law_draw, fd_law_draw, d_law_draw, G_law_draw, g_law_draw, k_law_draw, b_law_draw, v_law_draw⟩ := C_law_draw
  obtain ⟨f_lost_ids_o, fd_lost_ids_o, gg_lost_ids_o, G_lost_ids_o, g_lost_ids_o, k_lost_ids_o, b_lost_ids_o⟩ := C_lost_ids_o
  have m_len := T.m_len
  have m_list := T.m_list
  refine F.ok sc_law_margins_right (fun vs H Q E h => ?_) (fun cdv A outer s H vs Q E hr h => ?_)
  · obtain ⟨p, a, b, N, o, ps, rfl, hP, hN, hap, hbp, hA, ho, hB, hl, ok, q⟩ := h
    rfl
  · obtain ⟨p, a, b, N, o, ps, rfl, hP, hN, hap, hbp, hA, ho, hB, hl, ok, q⟩ := h
    refine ⟨_, (pss_cons (ps_asg (pe_tup (pa_cons (pe_call G_reaches (hr.mono (by decide)) (by rfl) g_reaches k_reaches b_reaches v_reaches pass0 (pa_cons (pv 1) (pa_cons (pv 2) pa_nil))) (pa_cons (pe_call G_waits (hr.mono (by decide)) (by rfl) g_waits k_waits b_waits v_waits pass0 (pa_cons (pv 1) (pa_cons (pv 2) pa_nil))) (pa_cons (pe_call G_lost_ids (hr.mono (by decide)) (by rfl) g_lost_ids k_lost_ids b_lost_ids v_lost_ids pass0 (pa_cons (pv 1) (pa_cons (pv 2) pa_nil))) pa_nil)))) (pg_tupK K (n := 3) rfl rfl (pgs_cons (pg_name (i := 3) sc_law_margins_right.nd rfl (Or.inl rfl)) (pgs_cons (pg_name (i := 4) sc_law_margins_right.nd rfl (Or.inl rfl)) (pgs_cons (pg_name (i := 5) sc_law_margins_right.nd rfl (Or.inr rfl)) pgs_nil)))))
      (pss_cons (ps_if (PW.pt (pw_or (pt_cmpR (op_neD hr.units) (pe_callTy (call_listD rfl) (by rfl) m_list (by decide +kernel) (pa_cons (pv 3) pa_nil)) (pv 5) (nomark _)) (pw_or1 (pt_cmpR (op_neD hr.units) (pe_callTy (call_listD rfl) (by rfl) m_list (by decide +kernel) (pa_cons (pv 4) pa_nil)) (pv 5) (nomark _))))) (pss_one (ps_ret pe_bl)) pss_nil)
      (pss_cons (ps_for PassesOwn.never rfl (pi_list (pv 5)) (pg_name (i := 6) sc_law_margins_right.nd rfl (Or.inl rfl)) (pss_cons (ps_set (i := 7) sc_law_margins_right.nd rfl (Or.inl rfl) (pe_call G_danger_of (hr.mono (by decide)) (by rfl) g_danger_of k_danger_of b_danger_of v_danger_of pass0 (pa_cons (pv 1) (pa_cons (pv 6) pa_nil))))
          (pss_cons (ps_asg (pe_ifExp (pt_cmpR op_isN (pv 7) pe_non (nomark _)) (pe_tup (pa_cons pe_int (pa_cons pe_int pa_nil))) (pv 7)) (pg_tupK K (n := 2) rfl rfl (pgs_cons (pg_name (i := 8) sc_law_margins_right.nd rfl (Or.inr rfl)) (pgs_cons (pg_name (i := 9) sc_law_margins_right.nd rfl (Or.inr rfl)) pgs_nil))))
          (pss_cons (ps_setLc (i := 10) (own := [("_law_look", 13)]) (g := gName 13) rfl sc_law_margins_right.nd rfl rfl (sw_true rfl rfl rfl (by decide +kernel)) (pi_list (pv 2)) (blkOk_by (own := [("_law_look", 13)]) (N := ["_law_pool_here", "_law_row_ids", "_law_looks_here", "_law_near", "_law_late", "_law_plain", "_law_row", "_law_danger", "_law_first", "_law_last", "_law_many", "_law_size", "_law_others", "_law_look"]) (sc := defScope s_law_margins_right) (by decide +kernel)) (fun _ _ _ _ _ => (pg_name (i := 13) sc_law_margins_right.nd rfl (Or.inl rfl))) (fun _ _ _ _ _ => (pts_one (pt_chain op_le op_le (pv 8) (pv 13) (pv 9)))) (fun _ _ _ _ _ => (pv 13)))
          (pss_cons (ps_if (PW.pt (pw_or (pt_cmpR (op_eqD hr.units) (pv 10) (pe_lst pa_nil) (nomark _)) (pw_or1 (pt_cmpR op_ne (pe_cmpR op_isN (pe_dget (hu_of hr) (pv 3) (pv 6) (fun _ _ => rfl)) pe_non (nomark _)) (pe_cmpR op_isN (pe_dget (hu_of hr) (pv 4) (pv 6) (fun _ _ => rfl)) pe_non (nomark _)) (nomark _))))) (pss_one (ps_ret pe_bl)) pss_nil)
          (pss_cons (ps_if (PW.pt (pw_and (pt_cmpR op_notN (pe_dget (hu_of hr) (pv 4) (pv 6) (fun _ _ => rfl)) pe_non (nomark _)) (pw_and1 (pt_cmpR op_ne (pe_dget (hu_of hr) (pv 4) (pv 6) (fun _ _ => rfl)) (pe_callB call_len_seq (by rfl) m_len (by decide +kernel) (pa_cons (pv 10) pa_nil)) (nomark _))))) (pss_one (ps_ret pe_bl)) pss_nil)
          (pss_one (ps_if (PW.pt (pw_and (pt_cmpR op_notN (pe_dget (hu_of hr) (pv 3) (pv 6) (fun _ _ => rfl)) pe_non (nomark _)) (pw_and1 (pt_cmpR (op_inK K rfl) (pv 6) (pe_op op_cat (pe_slice sl_list (pv 5) po_none (po_some pe_int)) (pe_slice sl_list (pv 5) (po_some (pe_un un_neg pe_int)) po_none)) (by rfl))))) (pss_cons (ps_set (i := 11) sc_law_margins_right.nd rfl (Or.inl rfl) (pe_op op_sub (pe_op op_add (pe_dget (hu_of hr) (pv 3) (pv 6) (fun _ _ => rfl)) (pe_call G_law_draw (hr.mono (by decide)) (by rfl) g_law_draw k_law_draw b_law_draw v_law_draw pass0 (pa_cons (pv 0) (pa_cons pe_int pa_nil)))) pe_int))
              (pss_one (ps_if (pt_cmpR op_ne (pe_cmpR (op_inK K rfl) (pv 6) (pe_callN G_lost_ids_o (hr.mono (by decide)) (by rfl) g_lost_ids_o k_lost_ids_o b_lost_ids_o pass0 (pa_cons (pv 1) (pa_cons (pv 2) pa_nil)) (pk_cons (pv 11) pk_nil)) (by rfl)) (pe_cmpR op_lt (pv 11) (pe_dget (hu_of hr) (pv 3) (pv 6) (fun _ _ => rfl)) (nomark _)) (nomark _)) (pss_one (ps_ret pe_bl)) pss_nil))) pss_nil))))))))
      (pss_cons (ps_setLc (i := 12) (own := [("_law_row", 6)]) (g := gName 6) rfl sc_law_margins_right.nd rfl rfl (sw_true rfl rfl rfl (by decide +kernel)) (pi_list (pv 1)) (blkOk_by (own := [("_law_row", 6)]) (N := ["_law_pool_here", "_law_row_ids", "_law_looks_here", "_law_near", "_law_late", "_law_plain", "_law_row", "_law_danger", "_law_first", "_law_last", "_law_many", "_law_size", "_law_others", "_law_look"]) (sc := defScope s_law_margins_right) (by decide +kernel)) (fun _ _ _ _ _ => (pg_name (i := 6) sc_law_margins_right.nd rfl (Or.inl rfl))) (fun _ _ _ _ _ => (pts_one (PW.pt (pw_and (pt_cmpR (op_notInK K rfl) (pv 6) (pv 5) (by rfl)) (pw_and1 (pt_cmpR op_notN (pe_call G_danger_of (hr.mono (by decide)) (by rfl) g_danger_of k_danger_of b_danger_of v_danger_of pass0 (pa_cons (pv 1) (pa_cons (pv 6) pa_nil))) pe_non (nomark _))))))) (fun _ _ _ _ _ => (pv 6)))
      (pss_cons (ps_for PassesOwn.never rfl (pi_list (pv 12)) (pg_name (i := 6) sc_law_margins_right.nd rfl (Or.inl rfl)) (pss_cons (ps_asg (pe_call G_danger_of (hr.mono (by decide)) (by rfl) g_danger_of k_danger_of b_danger_of v_danger_of pass0 (pa_cons (pv 1) (pa_cons (pv 6) pa_nil))) (pg_tupK K (n := 2) rfl rfl (pgs_cons (pg_name (i := 8) sc_law_margins_right.nd rfl (Or.inr rfl)) (pgs_cons (pg_name (i := 9) sc_law_margins_right.nd rfl (Or.inr rfl)) pgs_nil))))
          (pss_one (ps_if (pt_cmpR (op_neD hr.units) (pe_lc (own := [("_law_look", 13)]) (g := gName 13) rfl sc_law_margins_right.nd (pi_list (pv 2)) (blkOk_by (own := [("_law_look", 13)]) (N := ["_law_pool_here", "_law_row_ids", "_law_looks_here", "_law_near", "_law_late", "_law_plain", "_law_row", "_law_danger", "_law_first", "_law_last", "_law_many", "_law_size", "_law_others", "_law_look"]) (sc := defScope s_law_margins_right) (by decide +kernel)) (fun _ _ _ _ _ => (pg_name (i := 13) sc_law_margins_right.nd rfl (Or.inl rfl))) (fun _ _ _ _ _ => (pts_one (pt_chain op_le op_le (pv 8) (pv 13) (pv 9)))) (fun _ _ _ _ _ => (pv 13))) (pe_lst pa_nil) (nomark _)) (pss_one (ps_ret pe_bl)) pss_nil))))
      (pss_one (ps_ret pe_bl))))))), ?_⟩
    refine ⟨_, rfl, _, rfl, a, b, o, ps, rfl, hA, ho, hB, hl, ok, fun H1 dn s1 nn hn => ?_⟩
    refine ⟨_, rfl, _, rfl, a, b, o, ps, rfl, s1 _ _ hA, ho, s1 _ _ hB, hl, ok, fun H2 dl s2 nl hdl => ?_⟩
    have t2 := s1.trans s2
    refine ⟨_, rfl, _, rfl, a, b, o, ps, 1, 0, rfl, t2 _ _ hA, ho, t2 _ _ hB, hl, ok, by decide, by decide, .inl rfl, fun H3 pl s3 npl hpl => ?_⟩
    have t3 := t2.trans s3
    refine ⟨by show 3 ≤ sizeLine; decide, fun U nU => ?_⟩
    refine ⟨U, _, rfl, SqT.of upd_same, rfl, _, _, rfl, _, _, rfl, _, [], rfl, rfl, ?_⟩
    have hdnp : dn ≠ p := hP.ne nn
    have hdlp : dl ≠ p := (hP.same s1).ne nl
    have hplp : pl ≠ p := (hP.same t2).ne npl
    have s4 := same_upd (o := .tup [.ref dn, .ref dl, .ref pl]) nU
    have t4 := t3.trans s4
    have p4 := hP.same t4
    have hn4 := s4 _ _ (s3 _ _ (s2 _ _ hn))
    have hl4 := s4 _ _ (s3 _ _ hdl)
    have hpl4 := s4 _ _ hpl
    have hA4 := t4 _ _ hA
    have hB4 := t4 _ _ hB
    have x4 : SameX p H (upd H3 U (.tup [.ref dn, .ref dl, .ref pl])) := .of t4
    clear s1 s2 s3 s4 t2 t3 t4 hn hdl hpl nn nl npl nU hA hB hP
    generalize upd H3 U (.tup [.ref dn, .ref dl, .ref pl]) = H4 at p4 hn4 hl4 hpl4 hA4 hB4 x4
    have hLn : (Lat.lostL o ps 1 0).length ≤ 30 := lost_few ho
    -- the keys are the lost ids
    refine ⟨_, rfl, dn, _, rfl, Rd.of hn4, fun x nx => ?_⟩
    rw [rdict_key]
    have s5 := same_upd (o := .lst ((Lat.lostL o ps 1 0).map V.int)) nx
    refine ⟨_, rfl, ne_ints (SqL.of upd_same) (SqL.of (s5 _ _ hpl4)) ⟨_, rfl, ?_⟩⟩
    rw [decide_eq_true rfl]
    refine iteF ?_
    refine ⟨_, rfl, dl, _, rfl, Rd.of (s5 _ _ hl4), fun y ny => ?_⟩
    rw [rdict_key]
    have s6 := s5.trans (same_upd (o := .lst ((Lat.lostL o ps 1 0).map V.int)) ny)
    refine ⟨_, rfl, ne_ints (SqL.of upd_same) (SqL.of (s6 _ _ hpl4)) ⟨_, rfl, ?_⟩⟩
    rw [decide_eq_true rfl]
    refine iteF ?_
    have p6 := p4.same s6
    have hn6 := s6 _ _ hn4
    have hl6 := s6 _ _ hl4
    have hpl6 := s6 _ _ hpl4
    have hA6 := s6 _ _ hA4
    have hB6 := s6 _ _ hB4
    have x6 := x4.trans (.of s6)
    clear s5 nx ny
    generalize upd (upd H4 x (.lst ((Lat.lostL o ps 1 0).map V.int))) y (.lst ((Lat.lostL o ps 1 0).map V.int)) = H6 at s6 p6 hn6 hl6 hpl6 hA6 hB6 x6
    clear s6 p4 hn4 hl4 hpl4 hA4 hB4 x4
    refine ⟨_, rfl, pl, rfl, ⟨_, SqL.of hpl6⟩, for_list (K := K) (a := pl) (xs := (Lat.lostL o ps 1 0).map V.int) (fun i σ H' => ∃ z6 z7 z8 z9 z10 z11, σ = [some (.ref p), some (.ref a), some (.ref b), some (.ref dn), some (.ref dl), some (.ref pl), z6, z7, z8, z9, z10, z11, none, none] ∧ SameX p H6 H' ∧ PoolAt H' p (N + i))
      ⟨none, none, none, none, none, none, rfl, SameX.refl _ _, p6⟩ (fun i σ H' _ ⟨_, _, _, _, _, _, _, hs, _⟩ => SqL.of (hs _ _ hplp hpl6)) ?_ ?_⟩
    · rintro i y σ H7 hy ⟨z6, z7, z8, z9, z10, z11, rfl, s7, p7⟩
      obtain ⟨v, hv, rfl⟩ := get_map hy
      have hi := (List.getElem?_eq_some_iff.mp hv).1
      have hvL := List.mem_of_getElem? hv
      obtain ⟨hvo, hvd⟩ := (plain_mem ho ok).mp hvL
      refine ⟨_, rfl, _, rfl, a, o, v, rfl, s7 _ _ hap hA6, ho, hvo, fun e => absurd e (Lat.dang_of_dcnt ok hvd), fun f l hfl H8 t s8 nt ht => ?_⟩
      refine ⟨_, rfl, rfl, _, rfl, iteF ?_⟩
      refine ⟨_, rfl, t, _, rfl, SqT.of ht, rfl, _, _, rfl, _, [], rfl, rfl, ?_⟩
      have x8 := s7.trans (.of s8)
      have p8 := p7.same s8
      refine ⟨_, rfl, b, rfl, ⟨_, SqL.of (x8 _ _ hbp hB6)⟩, fun M nM => ?_⟩
      refine lc_list (K := K) (a := b) (xs := ps.map V.int) (fun j H9 => Same H8 H9 ∧ IL H9 M ((ps.take j).filter fun m => decide (f ≤ m) && decide (m ≤ l))) ⟨same_upd nM, upd_same⟩ (fun j H9 _ h => SqL.of (h.1 _ _ (x8 _ _ hbp hB6))) (fun j y H9 hx h => ?_) (fun H9 h => ?_)
      · obtain ⟨m, hm, rfl⟩ := get_map hx
        have fj := filter_snoc (p := fun m => decide (f ≤ m) && decide (m ≤ l)) hm
        have stay : (decide (f ≤ m) && decide (m ≤ l)) = false → Same H8 H9 ∧ IL H9 M ((ps.take (j + 1)).filter fun m => decide (f ≤ m) && decide (m ≤ l)) := fun e => by
          refine ⟨h.1, ?_⟩
          rw [fj, e, if_neg Bool.false_ne_true, List.append_nil]
          exact h.2
        refine ⟨rfl, _, rfl, _, rfl, _, _, rfl, rfl, _, rfl, ite2 (fun e => ?_) (fun e => ?_)⟩
        · refine ⟨_, rfl, _, _, rfl, rfl, _, rfl, ite2 (fun e2 => ?_) (fun e2 => ?_)⟩
          · refine ⟨_, rfl, _, h.2, filter_few _ _ _ (by omega), same_new nM h.1, ?_⟩
            show upd H9 M _ M = _
            rw [upd_same, fj, e, e2, List.map_append]; rfl
          · rw [Bool.not_eq_true] at e2
            exact stay (by rw [e2, Bool.and_false])
        · rw [Bool.not_eq_true] at e
          exact ⟨_, rfl, iteF (stay (by rw [e]; rfl))⟩
      · rw [List.length_map, List.take_length] at h
        obtain ⟨s9, hM⟩ := h
        have hM : IL H9 M (Lat.many ps f l) := hM
        have hml := Lat.many_some ok hfl
        have hmne : Lat.many ps f l ≠ [] := by
          intro e
          rw [e] at hml
          simp at hml
          omega
        have x9 := x8.trans (.of s9)
        have p9 := p8.same s9
        clear s7 s8 s9 p7 p8 x8 ht nt nM
        refine ⟨_, rfl, Nat.zero_le _, fun w nw => ?_⟩
        have sw := same_upd (o := .lst []) nw
        refine eq_ints (ms := []) (SqL.of (sw _ _ hM)) (SqL.of upd_same) ⟨_, rfl, ?_⟩
        rw [decide_eq_false hmne]
        refine iteF ?_
        have hM10 := sw _ _ hM
        have x10 := x9.trans (.of sw)
        have p10 := p9.same sw
        generalize upd H9 w (.lst []) = H10 at hM10 x10 p10
        clear sw nw hM x9 p9
        have hn10 := x10 _ _ hdnp hn6
        have hl10 := x10 _ _ hdlp hl6
        have hmm : ((Lat.many ps f l).map V.int).length = Lat.dcnt o ps v := by rw [List.length_map]; exact hml
        by_cases hb : Lat.behind o ps v = []
        · have e1 : vO (Lat.vR o ps v) = .non := by unfold Lat.vR; rw [if_neg (by simpa using hb)]; rfl
          have e2 : vO (Lat.vW o ps v) = .non := by unfold Lat.vW; rw [if_neg (by simpa using hb)]; rfl
          have g1 := dget_rdict hn10 hvL e1
          have g2 := dget_rdict hl10 hvL e2
          refine ⟨_, rfl, _, rfl, dn, _, rfl, g1, rfl, _, rfl, _, rfl, dl, _, rfl, g2, rfl, rfl, _, rfl, iteF ?_⟩
          refine ⟨_, rfl, _, rfl, dl, _, rfl, g2, rfl, _, rfl, iteF (iteF ?_)⟩
          refine ⟨_, rfl, _, rfl, dn, _, rfl, g1, rfl, _, rfl, iteF (iteF ?_)⟩
          exact ⟨_, _, _, _, _, _, rfl, x10, p10.mono (by omega)⟩
        · have e1 : vO (Lat.vR o ps v) = .int (Lat.cAt o ps v - v + 1) := by unfold Lat.vR; rw [if_pos hb]; rfl
          have e2 : vO (Lat.vW o ps v) = .int (Lat.dcnt o ps v) := by unfold Lat.vW; rw [if_pos hb]; rfl
          have g1 := dget_rdict hn10 hvL e1
          have g2 := dget_rdict hl10 hvL e2
          have hc := Lat.lt_of_dcnt ok hvd
          refine ⟨_, rfl, _, rfl, dn, _, rfl, g1, rfl, _, rfl, _, rfl, dl, _, rfl, g2, rfl, rfl, _, rfl, iteF ?_⟩
          refine ⟨_, rfl, _, rfl, dl, _, rfl, g2, rfl, _, rfl, iteT ?_⟩
          refine ⟨_, rfl, _, rfl, dl, _, rfl, g2, _, rfl, M, _, rfl, .inl (SqL.of hM10), rfl, _, rfl, ?_⟩
          rw [hmm, decide_eq_true rfl]
          refine iteF ?_
          refine ⟨_, rfl, _, rfl, dn, _, rfl, g1, rfl, _, rfl, iteT ?_⟩
          have hpl10 := x10 _ _ hplp hpl6
          refine ⟨_, rfl, _, rfl, _, rfl, pl, _, rfl, SqL.of hpl10, fun c1 nc1 => ?_⟩
          have sc1 := same_upd (o := .lst (cutV ((Lat.lostL o ps 1 0).map V.int) none (some 3))) nc1
          refine ⟨_, rfl, 3, rfl, _, rfl, pl, _, rfl, SqL.of (sc1 _ _ hpl10), fun c2 nc2 => ?_⟩
          have sc2 := same_upd (o := .lst (cutV ((Lat.lostL o ps 1 0).map V.int) (some (-3)) none)) nc2
          have k1 := cutV_length ((Lat.lostL o ps 1 0).map V.int) none (some 3)
          have k2 := cutV_length ((Lat.lostL o ps 1 0).map V.int) (some (-3)) none
          rw [List.length_map] at k1 k2
          refine ⟨c1, c2, _, _, rfl, rfl, sc2 _ _ upd_same, upd_same, small_line (by omega), fun c3 nc3 => ?_⟩
          have sc3 := same_upd (o := .lst (cutV ((Lat.lostL o ps 1 0).map V.int) none (some 3) ++ cutV ((Lat.lostL o ps 1 0).map V.int) (some (-3)) none)) nc3
          refine ⟨c3, _, rfl, .inl (SqL.of upd_same), rfl, flat_sub (o := Lat.lostL o ps 1 0) (fun u hu => ?_), _, rfl, ?_⟩
          · rcases List.mem_append.mp hu with h | h
            · exact cut_sub _ h
            · exact cut_sub _ h
          have s11 := (sc1.trans sc2).trans sc3
          have g11 := dget_rdict (s11 _ _ hn10) hvL e1
          have x11 := x10.trans (.of s11)
          have p11 := p10.same s11
          generalize upd (upd (upd H10 c1 (.lst (cutV ((Lat.lostL o ps 1 0).map V.int) none (some 3)))) c2 (.lst (cutV ((Lat.lostL o ps 1 0).map V.int) (some (-3)) none))) c3 (.lst (cutV ((Lat.lostL o ps 1 0).map V.int) none (some 3) ++ cutV ((Lat.lostL o ps 1 0).map V.int) (some (-3)) none)) = H11 at s11 g11 x11 p11
          refine ite2 (fun _ => ?_) (fun _ => ?_)
          · refine ⟨_, rfl, _, rfl, dn, _, rfl, g11, _, rfl, p, N + i, 3, rfl, p11, by omega, by decide, by decide, fun H12 d12 s12 p12 h120 h121 => ?_⟩
            refine ⟨_, _, rfl, rfl, _, _, rfl, rfl, ?_⟩
            have x12 := x11.trans s12
            refine ⟨_, rfl, _, rfl, _, rfl, _, rfl, rfl, rfl, a, b, o, ps, Lat.cAt o ps v - v + 1 + d12 - 1, 0, rfl, x12 _ _ hap hA6, ho, x12 _ _ hbp hB6, hl, ok, by omega, by decide, .inr rfl, fun H13 r13 s13 nr13 hr13 => ?_⟩
            have g13 := dget_rdict (s13 _ _ (x12 _ _ hdnp hn6)) hvL e1
            refine ⟨r13, _, rfl, .inl (SqL.of hr13), rfl, flat_ints _, _, rfl, _, rfl, _, rfl, dn, _, rfl, g13, _, _, rfl, rfl, rfl, _, rfl, ?_⟩
            have same : inV (.int v) ((Lat.lostL o ps (Lat.cAt o ps v - v + 1 + d12 - 1) 0).map V.int) = decide (Lat.cAt o ps v - v + 1 + d12 - 1 < Lat.cAt o ps v - v + 1) := by
              rw [inV_int]
              exact decide_eq_decide.mpr (lost_over_iff ho ok hvL hb (by omega))
            show if (!decide (V.bl (inV (.int v) ((Lat.lostL o ps (Lat.cAt o ps v - v + 1 + d12 - 1) 0).map V.int)) = V.bl (decide (Lat.cAt o ps v - v + 1 + d12 - 1 < Lat.cAt o ps v - v + 1)))) = true then _ else _
            rw [same, decide_eq_true rfl]
            refine iteF ?_
            exact ⟨_, _, _, _, _, _, rfl, x12.trans (.of s13), (p12.same s13).mono (by omega)⟩
          · exact ⟨_, _, _, _, _, _, rfl, x11, p11.mono (by omega)⟩
    · rintro σ H7 ⟨z6, z7, z8, z9, z10, z11, rfl, s7, p7⟩
      rw [List.length_map] at p7
      have hA7 := s7 _ _ hap hA6
      have hB7 := s7 _ _ hbp hB6
      have hpl7 := s7 _ _ hplp hpl6
      have x7 := x6.trans s7
      have hol := ho.len
      clear s7 x6 p6 hn6 hl6 hpl6 hA6 hB6
      refine ⟨_, rfl, a, rfl, ⟨_, SqL.of hA7⟩, fun D nD => ?_⟩
      refine lc_list (K := K) (a := a) (xs := o.map V.int) (fun j H9 => Same H7 H9 ∧ IL H9 D ((o.take j).filter fun r => !decide (r ∈ Lat.lostL o ps 1 0) && (Lat.dangM o r).isSome)) ⟨same_upd nD, upd_same⟩ (fun j H9 _ h => SqL.of (h.1 _ _ hA7)) (fun j y H9 hx h => ?_) (fun H9 h => ?_)
      · obtain ⟨v, hv, rfl⟩ := get_map hx
        have hvo := List.mem_of_getElem? hv
        have fj := filter_snoc (p := fun r => !decide (r ∈ Lat.lostL o ps 1 0) && (Lat.dangM o r).isSome) hv
        have stay : ∀ {H10 : Hp}, Same H9 H10 → (!decide (v ∈ Lat.lostL o ps 1 0) && (Lat.dangM o v).isSome) = false → Same H7 H10 ∧ IL H10 D ((o.take (j + 1)).filter fun r => !decide (r ∈ Lat.lostL o ps 1 0) && (Lat.dangM o r).isSome) := fun s e => by
          refine ⟨h.1.trans s, ?_⟩
          rw [fj, e, if_neg Bool.false_ne_true, List.append_nil]
          exact s _ _ h.2
        refine ⟨rfl, _, rfl, _, rfl, pl, _, rfl, .inl (SqL.of (h.1 _ _ hpl7)), rfl, flat_ints _, _, rfl, ?_⟩
        show if (!inV (.int v) ((Lat.lostL o ps 1 0).map V.int)) = true then _ else _
        rw [inV_int]
        refine ite2 (fun e => ?_) (fun e => iteF ?_)
        · refine ⟨_, rfl, _, rfl, a, o, v, rfl, h.1 _ _ hA7, ho, hvo, fun e2 H10 s10 => ?_, fun f l hfl H10 t s10 nt ht => ?_⟩
          · refine ⟨rfl, _, rfl, iteF ?_⟩
            exact stay s10 (by rw [e2]; simp)
          · refine ⟨rfl, _, rfl, iteT ?_⟩
            refine ⟨_, rfl, _, s10 _ _ h.2, filter_few _ _ _ (by omega), same_new nD (h.1.trans s10), ?_⟩
            show upd H10 D _ D = _
            rw [upd_same, fj, e, hfl, List.map_append]; rfl
        · rw [Bool.not_eq_true] at e
          exact stay (Same.refl _) (by rw [e]; rfl)
      · rw [List.length_map, List.take_length] at h
        obtain ⟨s9, hD⟩ := h
        refine ⟨_, rfl, D, rfl, ⟨_, SqL.of hD⟩, for_list (K := K) (a := D) (xs := (o.filter fun r => !decide (r ∈ Lat.lostL o ps 1 0) && (Lat.dangM o r).isSome).map V.int) (fun i σ H' => ∃ z6 z7 z8 z9 z10 z11, σ = [some (.ref p), some (.ref a), some (.ref b), some (.ref dn), some (.ref dl), some (.ref pl), z6, z7, z8, z9, z10, z11, some (.ref D), none] ∧ Same H9 H')
          ⟨_, _, _, _, _, _, rfl, Same.refl _⟩ (fun i σ H' _ ⟨_, _, _, _, _, _, _, hs⟩ => SqL.of (hs _ _ hD)) ?_ ?_⟩
        · rintro i y σ H10 hy ⟨y6, y7, y8, y9, y10, y11, rfl, s10⟩
          obtain ⟨v, hv, rfl⟩ := get_map hy
          obtain ⟨hvo, hvp⟩ := List.mem_filter.mp (List.mem_of_getElem? hv)
          rw [Bool.and_eq_true] at hvp
          have hvL : v ∉ Lat.lostL o ps 1 0 := by simpa using hvp.1
          have hd0 : Lat.dcnt o ps v = 0 := by
            rcases Nat.eq_zero_or_pos (Lat.dcnt o ps v) with e | e
            · exact e
            · exact absurd ((plain_mem ho ok).mpr ⟨hvo, e⟩) hvL
          have t10 := s9.trans s10
          refine ⟨_, rfl, _, rfl, a, o, v, rfl, t10 _ _ hA7, ho, hvo, fun e => ?_, fun f l hfl H11 t s11 nt ht => ?_⟩
          · rw [e] at hvp; cases hvp.2
          refine ⟨t, _, rfl, SqT.of ht, rfl, _, _, rfl, _, [], rfl, rfl, ?_⟩
          have t11 := t10.trans s11
          refine ⟨_, rfl, b, rfl, ⟨_, SqL.of (t11 _ _ hB7)⟩, fun M nM => ?_⟩
          refine lc_list (K := K) (a := b) (xs := ps.map V.int) (fun j H12 => Same H11 H12 ∧ IL H12 M ((ps.take j).filter fun m => decide (f ≤ m) && decide (m ≤ l))) ⟨same_upd nM, upd_same⟩ (fun j H12 _ h => SqL.of (h.1 _ _ (t11 _ _ hB7))) (fun j y H12 hx h => ?_) (fun H12 h => ?_)
          · obtain ⟨m, hm, rfl⟩ := get_map hx
            have fj := filter_snoc (p := fun m => decide (f ≤ m) && decide (m ≤ l)) hm
            have stay : (decide (f ≤ m) && decide (m ≤ l)) = false → Same H11 H12 ∧ IL H12 M ((ps.take (j + 1)).filter fun m => decide (f ≤ m) && decide (m ≤ l)) := fun e => by
              refine ⟨h.1, ?_⟩
              rw [fj, e, if_neg Bool.false_ne_true, List.append_nil]
              exact h.2
            refine ⟨rfl, _, rfl, _, rfl, _, _, rfl, rfl, _, rfl, ite2 (fun e => ?_) (fun e => ?_)⟩
            · refine ⟨_, rfl, _, _, rfl, rfl, _, rfl, ite2 (fun e2 => ?_) (fun e2 => ?_)⟩
              · refine ⟨_, rfl, _, h.2, filter_few _ _ _ (by omega), same_new nM h.1, ?_⟩
                show upd H12 M _ M = _
                rw [upd_same, fj, e, e2, List.map_append]; rfl
              · rw [Bool.not_eq_true] at e2
                exact stay (by rw [e2, Bool.and_false])
            · rw [Bool.not_eq_true] at e
              exact ⟨_, rfl, iteF (stay (by rw [e]; rfl))⟩
          · rw [List.length_map, List.take_length] at h
            obtain ⟨s12, hM⟩ := h
            have hM : IL H12 M (Lat.many ps f l) := hM
            have hml := Lat.many_some ok hfl
            have hme : Lat.many ps f l = [] := List.length_eq_zero_iff.mp (by omega)
            refine ⟨Nat.zero_le _, fun w nw => ?_⟩
            have sw := same_upd (o := .lst []) nw
            refine ne_ints (ms := []) (SqL.of (sw _ _ hM)) (SqL.of upd_same) ⟨_, rfl, ?_⟩
            rw [decide_eq_true hme]
            refine iteF ?_
            exact ⟨_, _, _, _, _, _, rfl, ((s10.trans s11).trans s12).trans sw⟩
        · rintro σ H10 ⟨y6, y7, y8, y9, y10, y11, rfl, s10⟩
          have t10 := s9.trans s10
          exact q H10 (x7.trans (.of t10)) ((p7.same t10).mono (by omega))
end
end K70
/-! #### K70B6 -/
set_option Elab.async false
set_option linter.all false
set_option maxRecDepth 100000
set_option maxHeartbeats 4000000
namespace K70
open PySem PySem.Spec PyProof.Rows L2
open Lat (OrdOk PollsOk)
section
variable {P : Program} {w : World} {K : PySem.W.Frag} {mg : Str → Option Value} {base : Heap}
/-- a fresh pool written later leaves the old heap as it was -/
theorem pool_same {p : Addr} {H H1 H2 : Hp} (n : H p = none) (s1 : Same H H1) (s2 : SameX p H1 H2) : Same H H2 := fun b o e => s2 b o (ne_of_none e n) (s1 b o e)
theorem sqL_same {K : PySem.W.Frag} {H H' : Hp} {a : Addr} {xs : List V} (s : Same H H') (h : SqL K H a xs) : SqL K H' a xs := by
  rcases h with (e | ⟨o, e⟩) | z
  · exact .inl (.inl (s _ _ e))
  · exact .inl (.inr ⟨o, s _ _ e⟩)
  · exact .inr z
theorem most_ok {j : Int} : ∀ m ∈ ([8, j] : List Int), (j = 30 ∨ j = 12) → 0 ≤ m ∧ m ≤ 30 := by
  intro m hm h
  rcases List.mem_cons.mp hm with e | e
  · omega
  · have := List.mem_singleton.mp e
    omega
theorem jj_ok (b : Bool) : ∃ jj : Int, atI [V.int 30, V.int 12] (if b then 1 else 0) = some (.int jj) ∧ (jj = 30 ∨ jj = 12) := by
  cases b
  · exact ⟨30, atI_nat (j := 0) rfl, .inl rfl⟩
  · exact ⟨12, atI_nat (j := 1) rfl, .inr rfl⟩
/-! ### law -/
abbrev s_law : Stmt := topS 65
theorem sc_law : FnScope ["_law_script", "_law_at", "_law_pool_here", "_law_most", "_law_row_ids", "_law_looks_here", "_law_number", "_law_history_here", "_law_widest"] ["_law_script"] (defScope s_law) := ⟨rfl, rfl, rfl, by decide +kernel, rfl, by decide +kernel, by decide +kernel⟩
def sp_law (K : PySem.W.Frag) : Sp := fun vs H Q _ => ∃ (s : Addr) (ns : List Int), vs = [.ref s] ∧ SqL K H s (ns.map V.int) ∧ ∀ H', Q (.bl true) H'
theorem ok_law (T : Env mg) (C_law_pool : Cal P w K mg base "_law_pool" 1 ["_law_script", "_law_at"] [] (sp_law_pool K)) (C_law_history : Cal P w K mg base "_law_history" 2 ["_law_pool_here", "_law_most"] [] sp_law_history) (C_order_of : Cal P w K mg base "order_of" 5 ["history"] [] sp_order_of) (C_law_order : Cal P w K mg base "_law_order" 2 ["_law_pool_here", "_law_most"] [] sp_law_order) (C_law_looks : Cal P w K mg base "_law_looks" 2 ["_law_pool_here", "_law_size", "_law_most"] [] sp_law_looks) (C_law_margins_right : Cal P w K mg base "_law_margins_right" 7 ["_law_pool_here", "_law_row_ids", "_law_looks_here"] [] sp_law_margins_right) (C_law_end_right : Cal P w K mg base "_law_end_right" 7 ["_law_pool_here", "_law_row_ids", "_law_size"] [] sp_law_end_right) (C_law_draw : Cal P w K mg base "_law_draw" 1 ["_law_pool_here", "_law_many"] [] sp_law_draw) (C_greatest_reach : Cal P w K mg base "greatest_reach" 5 ["order"] [] sp_greatest_reach) (C_law_least_right : Cal P w K mg base "_law_least_right" 7 ["_law_row_ids", "_law_looks_here", "_law_most"] [] sp_law_least_right) (C_spans : Cal P w K mg base "spans" 5 ["history"] [] sp_spans) {f : Addr} {fd : FuncData} (F : Fun K "law" "law" s_law f fd) : FnOk P w K mg base CX0 8 f fd ["_law_script"] (sp_law K) := by
  obtain ⟨f_law_pool, fd_law_pool, d_law_pool, G_law_pool, g_law_pool, k_law_pool, b_law_pool, v_law_pool⟩ := C_law_pool
  obtain ⟨f_law_history, fd_law_history, d_law_history, G_law_history, g_law_history, k_law_history, b_law_history, v_law_history⟩ := C_law_history
  obtain ⟨f_order_of, fd_order_of, d_order_of, G_order_of, g_order_of, k_order_of, b_order_of, v_order_of⟩ := C_order_of
  obtain ⟨f_law_order, fd_law_order, d_law_order, G_law_order, g_law_order, k_law_order, b_law_order, v_law_order⟩ := C_law_order
  obtain ⟨f_law_looks, fd_law_looks, d_law_looks, G_law_looks, g_law_looks, k_law_looks, b_law_looks, v_law_looks⟩ := C_law_looks
  obtain ⟨f_law_margins_right, fd_law_margins_right, d_law_margins_right, G_law_margins_right, g_law_margins_right, k_law_margins_right, b_law_margins_right, v_law_margins_right⟩ := C_law_margins_right
  obtain ⟨f_law_end_right, fd_law_end_right, d_law_end_right, G_law_end_right, g_law_end_right, k_law_end_right, b_law_end_right, v_law_end_right⟩ := C_law_end_right
  obtain ⟨f_law_draw, fd_law_draw, d_law_draw, G_law_draw, g_law_draw, k_law_draw, b_law_draw, v_law_draw⟩ := C_law_draw
  obtain ⟨f_greatest_reach, fd_greatest_reach, d_greatest_reach, G_greatest_reach, g_greatest_reach, k_greatest_reach, b_greatest_reach, v_greatest_reach⟩ := C_greatest_reach
  obtain ⟨f_law_least_right, fd_law_least_right, d_law_least_right, G_law_least_right, g_law_least_right, k_law_least_right, b_law_least_right, v_law_least_right⟩ := C_law_least_right
  obtain ⟨f_spans, fd_spans, d_spans, G_spans, g_spans, k_spans, b_spans, v_spans⟩ := C_spans
  have m_int := T.m_int
  have m_len := T.m_len
  have m_list := T.m_list
  have m_max := T.m_max
  have m_min := T.m_min
  have m_range := T.m_range
  refine F.ok sc_law (fun vs H Q E h => ?_) (fun cdv A outer s H vs Q E hr h => ?_)
  · obtain ⟨sc, ns, rfl, hS, q⟩ := h
    rfl
  · obtain ⟨sc, ns, rfl, hS, q⟩ := h
    refine ⟨_, (pss_cons (ps_for PassesOwn.never rfl (pi_range1 (by rfl) m_range (pa_cons (pe_callB (call_max2 rfl) (by rfl) m_max (by decide +kernel) (pa_cons pe_int (pa_cons (pe_callB (call_min2 rfl) (by rfl) m_min (by decide +kernel) (pa_cons pe_int (pa_cons (pe_callB call_len_seq (by rfl) m_len (by decide +kernel) (pa_cons (pv 0) pa_nil)) pa_nil))) pa_nil))) pa_nil)) (pg_name (i := 1) sc_law.nd rfl (Or.inl rfl)) (pss_cons (ps_set (i := 2) sc_law.nd rfl (Or.inl rfl) (pe_call G_law_pool (hr.mono (by decide)) (by rfl) g_law_pool k_law_pool b_law_pool v_law_pool pass0 (pa_cons (pv 0) (pa_cons (pv 1) pa_nil))))
          (pss_cons (ps_for PassesOwn.never rfl (pi_list (pe_lst (pa_cons pe_int (pa_cons (pe_ix (ix_listK K rfl) (pe_lst (pa_cons pe_int (pa_cons pe_int pa_nil))) (pe_callTy call_int1 (by rfl) m_int (by decide +kernel) (pa_cons (pe_cmpR op_gt (pv 1) pe_int (nomark _)) pa_nil)) (fun _ _ => rfl)) pa_nil)))) (pg_name (i := 3) sc_law.nd rfl (Or.inl rfl)) (pss_cons (ps_set (i := 4) sc_law.nd rfl (Or.inl rfl) (pe_call G_law_order (hr.mono (by decide)) (by rfl) g_law_order k_law_order b_law_order v_law_order pass0 (pa_cons (pv 2) (pa_cons (pv 3) pa_nil))))
              (pss_cons (ps_set (i := 5) sc_law.nd rfl (Or.inl rfl) (pe_call G_law_looks (hr.mono (by decide)) (by rfl) g_law_looks k_law_looks b_law_looks v_law_looks pass0 (pa_cons (pv 2) (pa_cons (pe_callB call_len_seq (by rfl) m_len (by decide +kernel) (pa_cons (pv 4) pa_nil)) (pa_cons (pv 3) pa_nil)))))
              (pss_cons (ps_if (pt_not (pt_val (pe_call G_law_margins_right (hr.mono (by decide)) (by rfl) g_law_margins_right k_law_margins_right b_law_margins_right v_law_margins_right pass0 (pa_cons (pv 2) (pa_cons (pv 4) (pa_cons (pv 5) pa_nil)))))) (pss_one (ps_ret pe_bl)) pss_nil)
              (pss_cons (ps_if (pt_not (pt_val (pe_call G_law_end_right (hr.mono (by decide)) (by rfl) g_law_end_right k_law_end_right b_law_end_right v_law_end_right pass0 (pa_cons (pv 2) (pa_cons (pv 4) (pa_cons (pe_call G_greatest_reach (hr.mono (by decide)) (by rfl) g_greatest_reach k_greatest_reach b_greatest_reach v_greatest_reach pass0 (pa_cons (pv 4) pa_nil)) pa_nil)))))) (pss_one (ps_ret pe_bl)) pss_nil)
              (pss_one (ps_for PassesOwn.never rfl (pi_list (pe_lst (pa_cons pe_int (pa_cons pe_int (pa_cons (pe_call G_law_draw (hr.mono (by decide)) (by rfl) g_law_draw k_law_draw b_law_draw v_law_draw pass0 (pa_cons (pv 2) (pa_cons pe_int pa_nil))) pa_nil))))) (pg_name (i := 6) sc_law.nd rfl (Or.inl rfl)) (pss_one (ps_if (pt_not (pt_val (pe_call G_law_least_right (hr.mono (by decide)) (by rfl) g_law_least_right k_law_least_right b_law_least_right v_law_least_right pass0 (pa_cons (pv 4) (pa_cons (pv 5) (pa_cons (pv 6) pa_nil)))))) (pss_one (ps_ret pe_bl)) pss_nil)))))))))
          (pss_cons (ps_set (i := 7) sc_law.nd rfl (Or.inl rfl) (pe_call G_law_history (hr.mono (by decide)) (by rfl) g_law_history k_law_history b_law_history v_law_history pass0 (pa_cons (pv 2) (pa_cons pe_int pa_nil))))
          (pss_cons (ps_set (i := 4) sc_law.nd rfl (Or.inl rfl) (pe_call G_order_of (hr.mono (by decide)) (by rfl) g_order_of k_order_of b_order_of v_order_of pass0 (pa_cons (pv 7) pa_nil)))
          (pss_cons (ps_set (i := 8) sc_law.nd rfl (Or.inl rfl) (pe_callB (cr_max rfl) (by rfl) m_max (by decide +kernel) (pa_cons (pe_op op_cat (pe_lst (pa_cons pe_int pa_nil)) (pe_listVals rfl (pe_call G_spans (hr.mono (by decide)) (by rfl) g_spans k_spans b_spans v_spans pass0 (pa_cons (pv 7) pa_nil)) (by rfl) m_list)) pa_nil)))
          (pss_one (ps_if (PW.pt (pw_or (pt_cmpR op_gt (pe_call G_greatest_reach (hr.mono (by decide)) (by rfl) g_greatest_reach k_greatest_reach b_greatest_reach v_greatest_reach pass0 (pa_cons (pv 4) pa_nil)) (pe_op op_add (pv 8) pe_int) (nomark _)) (pw_or1 (pt_not (pt_val (pe_call G_law_end_right (hr.mono (by decide)) (by rfl) g_law_end_right k_law_end_right b_law_end_right v_law_end_right pass0 (pa_cons (pv 2) (pa_cons (pv 4) (pa_cons (pe_op op_add (pv 8) pe_int) pa_nil))))))))) (pss_one (ps_ret pe_bl)) pss_nil))))))))
      (pss_one (ps_ret pe_bl))), ?_⟩
    refine ⟨_, rfl, sc, _, rfl, .inl hS, _, _, rfl, _, _, rfl, ?_⟩
    rw [min_if, max_if]
    refine ⟨_, rfl, by omega, by omega, for_range (lo := 0) (n := (max 1 (min 5 (((ns.map V.int).length : Nat) : Int))).toNat) (fun i σ H' => ∃ z1 z2 z3 z4 z5 z6 z7 z8, σ = [some (.ref sc), z1, z2, z3, z4, z5, z6, z7, z8] ∧ Same H H')
      ⟨none, none, none, none, none, none, none, none, rfl, Same.refl _⟩ ?_ ?_⟩
    · rintro i σ H1 hi ⟨z1, z2, z3, z4, z5, z6, z7, z8, rfl, s1⟩
      refine ⟨_, rfl, _, rfl, sc, _, ns, rfl, sqL_same s1 hS, by omega, by omega, fun H2 p s2 np p2 => ?_⟩
      refine ⟨by show 2 ≤ sizeLine; decide, fun x nx => ?_⟩
      have sx := same_upd (o := .lst [.int 30, .int 12]) nx
      refine ⟨_, rfl, _, _, rfl, rfl, .inr ⟨_, rfl, ?_⟩⟩
      obtain ⟨jj, hat, hjj⟩ := jj_ok (decide ((0 : Int) + (i : Int) > 0))
      refine ⟨x, _, _, _, rfl, rfl, SqL.of upd_same, hat, by show 2 ≤ sizeLine; decide, fun y ny => ?_⟩
      have sy := sx.trans (same_upd (o := .lst [.int 8, .int jj]) ny)
      have p3 := p2.same sy
      have t3 : Same H1 _ := s2.trans sy
      have np3 : H1 p = none := np
      have hyp : y ≠ p := (p2.same sx).ne ny
      have hy : IL (upd (upd H2 x (.lst [.int 30, .int 12])) y (.lst [.int 8, .int jj])) y [8, jj] := upd_same
      generalize upd (upd H2 x (.lst [.int 30, .int 12])) y (.lst [.int 8, .int jj]) = H3 at p3 t3 hy
      clear sx nx ny sy p2
      refine ⟨y, rfl, ⟨_, SqL.of hy⟩, for_list (K := K) (a := y) (xs := [8, jj].map V.int) (fun k σ H' => ∃ z3 z4 z5 z6 z7 z8, σ = [some (.ref sc), some (.int (0 + (i : Int))), some (.ref p), z3, z4, z5, z6, z7, z8] ∧ SameX p H3 H' ∧ PoolAt H' p (700 * k))
        ⟨_, _, _, _, _, _, rfl, SameX.refl _ _, p3⟩ (fun k σ H' _ ⟨_, _, _, _, _, _, _, hs, _⟩ => SqL.of (hs _ _ hyp hy)) ?_ ?_⟩
      · rintro k z σ H4 hz ⟨z3, z4, z5, z6, z7, z8, rfl, s4, p4⟩
        obtain ⟨m, hm, rfl⟩ := get_map hz
        have hk : k < 2 := (List.getElem?_eq_some_iff.mp hm).1
        have hmo := most_ok m (List.mem_of_getElem? hm) hjj
        refine ⟨_, rfl, _, rfl, p, 700 * k, m, rfl, p4, by omega, hmo.1, hmo.2, fun H5 a o s5 na ha p5 ho hol => ?_⟩
        have hap : a ≠ p := p4.ne na
        refine ⟨_, rfl, _, rfl, a, _, rfl, .inl (SqL.of ha), _, rfl, p, _, _, m, rfl, p5, by omega, by omega, by rw [List.length_map]; have := ho.len; omega, hmo.1, by omega, fun H6 b ps s6 nb hb p6 ok hpl => ?_⟩
        rw [List.length_map] at ok
        have hbp : b ≠ p := p5.ne nb
        have hA6 := s6.il hap ha
        have hol : ps.length ≤ 30 := by omega
        refine ⟨_, rfl, _, rfl, _, rfl, p, a, b, _, o, ps, rfl, p6, by omega, hap, hbp, hA6, ho, hb, hol, ok, fun H7 s7 p7 => ?_⟩
        refine ⟨_, rfl, iteF ?_⟩
        have hA7 := s7.il hap hA6
        have hB7 := s7.il hbp hb
        refine ⟨_, rfl, _, rfl, _, rfl, a, o, rfl, hA7, ho, fun H8 s8 => ?_⟩
        have hA8 := s8 _ _ hA7
        have hB8 := s8 _ _ hB7
        have p8 := p7.same s8
        refine ⟨p, a, _, o, Lat.greatest o, rfl, p8, by omega, hap, hA8, ho, Lat.greatest_ge o, Lat.greatest_all, fun H9 s9 p9 => ?_⟩
        refine ⟨_, rfl, iteF ?_⟩
        have hA9 := s9.il hap hA8
        have hB9 := s9.il hbp hB8
        refine ⟨_, rfl, p, _, 6, rfl, p9, by omega, by decide, by decide, fun H10 d s10 p10 hd0 hd1 => ?_⟩
        have hA10 := s10.il hap hA9
        have hB10 := s10.il hbp hB9
        refine ⟨by show 3 ≤ sizeLine; decide, fun l nl => ?_⟩
        have s11 := same_upd (o := .lst [.int 0, .int 1, .int d]) nl
        have p11 := p10.same s11
        have hA11 := s11 _ _ hA10
        have hB11 := s11 _ _ hB10
        have hl11 : IL (upd H10 l (.lst [.int 0, .int 1, .int d])) l [0, 1, d] := upd_same
        have t11 := ((((((s4.trans s5).trans s6).trans s7).trans (.of s8)).trans s9).trans s10).trans (.of s11)
        generalize upd H10 l (.lst [.int 0, .int 1, .int d]) = H11 at p11 hA11 hB11 hl11 t11
        refine ⟨l, rfl, ⟨_, SqL.of hl11⟩, for_list (K := K) (a := l) (xs := [0, 1, d].map V.int) (fun j σ H' => ∃ z6 z7 z8, σ = [some (.ref sc), some (.int (0 + (i : Int))), some (.ref p), some (.int m), some (.ref a), some (.ref b), z6, z7, z8] ∧ Same H11 H')
          ⟨_, _, _, rfl, Same.refl _⟩ (fun j σ H' _ ⟨_, _, _, _, hs⟩ => SqL.of (hs _ _ hl11)) ?_ ?_⟩
        · rintro j z σ H12 hz ⟨z6, z7, z8, rfl, s12⟩
          obtain ⟨v, hv, rfl⟩ := get_map hz
          have hv0 : 0 ≤ v := by
            have := List.mem_of_getElem? hv
            simp at this
            omega
          refine ⟨_, rfl, _, rfl, _, rfl, a, b, o, ps, v, rfl, s12 _ _ hA11, ho, s12 _ _ hB11, hol, ok, hv0, fun H13 s13 => ?_⟩
          refine ⟨_, rfl, iteF ?_⟩
          exact ⟨_, _, _, rfl, s12.trans s13⟩
        · rintro σ H12 ⟨z6, z7, z8, rfl, s12⟩
          exact ⟨_, _, _, _, _, _, rfl, t11.trans (.of s12), (p11.same s12).mono (by omega)⟩
      · rintro σ H4 ⟨z3, z4, z5, z6, z7, z8, rfl, s4, p4⟩
        have p4 : PoolAt H4 p 1400 := p4
        refine ⟨_, rfl, p, 1400, 60, rfl, p4, by decide, by decide, by decide, fun H5 F evs u s5 nF hF p5 hlen hrun => ?_⟩
        have hlen : evs.length ≤ 60 := by omega
        have his := Lat.his_ok evs u.1 u.2 hrun
        have hFp : F ≠ p := p4.ne nF
        have ho := his.ord hlen
        refine ⟨_, rfl, F, evs, u, rfl, hF, hlen, hrun, fun H6 a s6 na hA => ?_⟩
        have p6 := p5.same s6
        have hF6 := HisAt.keep s6 hF
        have t6 := (s4.trans s5).trans (.of s6)
        refine ⟨by show 1 ≤ sizeLine; decide, fun x nx => ?_⟩
        have hap : a ≠ p := p5.ne na
        have s7 := same_upd (o := .lst [.int 0]) nx
        have p7 := p6.same s7
        have hF7 := HisAt.keep s7 hF6
        have hA7 := s7 _ _ hA
        have hx7 : IL (upd H6 x (.lst [.int 0])) x [0] := upd_same
        have t7 := t6.trans (.of s7)
        generalize upd H6 x (.lst [.int 0]) = H7 at p7 hF7 hA7 hx7 t7
        refine ⟨_, rfl, F, evs, u, rfl, hF7, hlen, hrun, fun H8 d s8 nd hd => ?_⟩
        have p8 := p7.same s8
        have hA8 := s8 _ _ hA7
        have hx8 := s8 _ _ hx7
        have t8 := t7.trans (.of s8)
        refine ⟨d, _, rfl, hd, fun l nl => ?_⟩
        rw [rdict_vals, show (Lat.srt (Lat.commits evs)).map (fun r => V.int (Lat.spanOf evs r)) = (Lat.spanL evs).map V.int from (List.map_map ..).symm]
        have s9 := same_upd (o := .lst ((Lat.spanL evs).map V.int)) nl
        have p9 := p8.same s9
        have hl9 : IL (upd H8 l (.lst ((Lat.spanL evs).map V.int))) l (Lat.spanL evs) := upd_same
        have hA9 := s9 _ _ hA8
        have hx9 := s9 _ _ hx8
        have t9 := t8.trans (.of s9)
        generalize upd H8 l (.lst ((Lat.spanL evs).map V.int)) = H9 at p9 hl9 hA9 hx9 t9
        have hsl : (Lat.spanL evs).length ≤ 30 := by
          have := ho.len
          unfold Lat.spanL
          rw [List.length_map, Lat.srt_length]
          exact this
        refine ⟨x, l, _, _, rfl, rfl, hx9, hl9, small_line (by simp only [List.length_map, List.length_cons, List.length_nil]; omega), fun g ng => ?_⟩
        have s10 := same_upd (o := .lst ([V.int 0] ++ (Lat.spanL evs).map V.int)) ng
        have p10 := p9.same s10
        have hA10 := s10 _ _ hA9
        have t10 := t9.trans (.of s10)
        refine ⟨g, 0 :: Lat.spanL evs, rfl, SqL.of upd_same, Nat.succ_pos _, fun mm hm hle => ?_⟩
        obtain rfl := Lat.mx_uniq hm hle
        show tNext _ _ (upd H9 g (.lst ([V.int 0] ++ (Lat.spanL evs).map V.int)))
        generalize upd H9 g (.lst ([V.int 0] ++ (Lat.spanL evs).map V.int)) = H10 at p10 hA10 t10
        have hw : 0 ≤ Lat.mx 0 (Lat.spanL evs) := Lat.mx_ge _ _
        refine ⟨_, rfl, a, _, rfl, hA10, ho, fun H11 s11 => ?_⟩
        have hA11 := s11 _ _ hA10
        have p11 := p10.same s11
        refine ⟨_, rfl, _, _, rfl, rfl, _, _, rfl, rfl, _, rfl, ?_⟩
        have hgr := his.great
        rw [decide_eq_false (show ¬ Lat.greatest (Lat.commits evs) > Lat.mx 0 (Lat.spanL evs) + 1 by omega)]
        refine iteF ?_
        refine ⟨_, rfl, _, rfl, _, rfl, _, _, rfl, rfl, p, a, _, _, _, rfl, p11, by omega, hap, hA11, ho, by omega, his.reach, fun H12 s12 p12 => ?_⟩
        refine ⟨_, rfl, iteF ?_⟩
        exact ⟨_, _, _, _, _, _, _, _, rfl, s1.trans (pool_same np3 t3 ((t10.trans (.of s11)).trans s12))⟩
    · rintro σ H1 ⟨z1, z2, z3, z4, z5, z6, z7, z8, rfl, s1⟩
      exact q H1
end
end K70
/-! #### K70EndA -/
set_option Elab.async false
set_option linter.all false
set_option maxRecDepth 100000
set_option maxHeartbeats 4000000
namespace K70
open PySem PySem.Spec PyProof.Rows L2
theorem fun_of {K : PySem.W.Frag} {x : Str} {st : Stmt} {f : Addr} {fd : FuncData} (F : FunD K x x (defArgs st) (defBody st) (defScope st) [] [] f fd) : Fun K x x st f fd := by
  obtain ⟨oc, od, dV, kV, doc, pm, an, cdv, ct, osl, e, l, c, hd, _⟩ := F.ex
  rcases hd with ⟨_, rfl⟩ | ⟨n, _⟩
  · exact ⟨⟨oc, od, kV, doc, pm, an, cdv, ct, osl, e, l, c⟩, F.kp⟩
  · exact absurd rfl n
abbrev d_is_integer : He.DefD := ⟨("is_integer", none), "is_integer", "is_integer", defArgs s_is_integer, defBody s_is_integer, defScope s_is_integer, [.non], []⟩
abbrev d_read : He.DefD := ⟨("read", none), "read", "read", defArgs s_read, defBody s_read, defScope s_read, [], [("overlap", .int 1), ("wait", .int 0), ("page", .non)]⟩
abbrev d_lost_ids : He.DefD := ⟨("lost_ids", none), "lost_ids", "lost_ids", defArgs s_lost_ids, defBody s_lost_ids, defScope s_lost_ids, [], [("overlap", .int 1), ("wait", .int 0), ("page", .non)]⟩
abbrev d_is_id : He.DefD := ⟨("is_id", none), "is_id", "is_id", defArgs s_is_id, defBody s_is_id, defScope s_is_id, [], []⟩
abbrev d_is_order : He.DefD := ⟨("is_order", none), "is_order", "is_order", defArgs s_is_order, defBody s_is_order, defScope s_is_order, [], []⟩
abbrev d_require_order : He.DefD := ⟨("require_order", none), "require_order", "require_order", defArgs s_require_order, defBody s_require_order, defScope s_require_order, [], []⟩
abbrev d_require_polls : He.DefD := ⟨("require_polls", none), "require_polls", "require_polls", defArgs s_require_polls, defBody s_require_polls, defScope s_require_polls, [], []⟩
abbrev d_require_id_of : He.DefD := ⟨("require_id_of", none), "require_id_of", "require_id_of", defArgs s_require_id_of, defBody s_require_id_of, defScope s_require_id_of, [], []⟩
abbrev d_tops_in : He.DefD := ⟨("tops_in", none), "tops_in", "tops_in", defArgs s_tops_in, defBody s_tops_in, defScope s_tops_in, [], []⟩
abbrev d_danger_in : He.DefD := ⟨("danger_in", none), "danger_in", "danger_in", defArgs s_danger_in, defBody s_danger_in, defScope s_danger_in, [], []⟩
abbrev d_danger_of : He.DefD := ⟨("danger_of", none), "danger_of", "danger_of", defArgs s_danger_of, defBody s_danger_of, defScope s_danger_of, [], []⟩
abbrev d_polls_around : He.DefD := ⟨("polls_around", none), "polls_around", "polls_around", defArgs s_polls_around, defBody s_polls_around, defScope s_polls_around, [], []⟩
abbrev d_reaches_in : He.DefD := ⟨("reaches_in", none), "reaches_in", "reaches_in", defArgs s_reaches_in, defBody s_reaches_in, defScope s_reaches_in, [], []⟩
abbrev d_waits_in : He.DefD := ⟨("waits_in", none), "waits_in", "waits_in", defArgs s_waits_in, defBody s_waits_in, defScope s_waits_in, [], []⟩
abbrev d_least_margin : He.DefD := ⟨("least_margin", none), "least_margin", "least_margin", defArgs s_least_margin, defBody s_least_margin, defScope s_least_margin, [], []⟩
abbrev d_require_most : He.DefD := ⟨("require_most", none), "require_most", "require_most", defArgs s_require_most, defBody s_require_most, defScope s_require_most, [], []⟩
abbrev d_reaches : He.DefD := ⟨("reaches", none), "reaches", "reaches", defArgs s_reaches, defBody s_reaches, defScope s_reaches, [], []⟩
abbrev d_waits : He.DefD := ⟨("waits", none), "waits", "waits", defArgs s_waits, defBody s_waits, defScope s_waits, [], []⟩
abbrev d_least_overlap : He.DefD := ⟨("least_overlap", none), "least_overlap", "least_overlap", defArgs s_least_overlap, defBody s_least_overlap, defScope s_least_overlap, [], []⟩
abbrev d_least_wait : He.DefD := ⟨("least_wait", none), "least_wait", "least_wait", defArgs s_least_wait, defBody s_least_wait, defScope s_least_wait, [], []⟩
abbrev d_greatest_reach : He.DefD := ⟨("greatest_reach", none), "greatest_reach", "greatest_reach", defArgs s_greatest_reach, defBody s_greatest_reach, defScope s_greatest_reach, [], []⟩
abbrev d_is_event : He.DefD := ⟨("is_event", none), "is_event", "is_event", defArgs s_is_event, defBody s_is_event, defScope s_is_event, [], []⟩
abbrev d_open_behind : He.DefD := ⟨("open_behind", none), "open_behind", "open_behind", defArgs s_open_behind, defBody s_open_behind, defScope s_open_behind, [], []⟩
abbrev d_is_history : He.DefD := ⟨("is_history", none), "is_history", "is_history", defArgs s_is_history, defBody s_is_history, defScope s_is_history, [], []⟩
abbrev d_require_history : He.DefD := ⟨("require_history", none), "require_history", "require_history", defArgs s_require_history, defBody s_require_history, defScope s_require_history, [], []⟩
abbrev d_order_of : He.DefD := ⟨("order_of", none), "order_of", "order_of", defArgs s_order_of, defBody s_order_of, defScope s_order_of, [], []⟩
abbrev d_spans : He.DefD := ⟨("spans", none), "spans", "spans", defArgs s_spans, defBody s_spans, defScope s_spans, [], []⟩
abbrev d_require_kind : He.DefD := ⟨("require_kind", none), "require_kind", "require_kind", defArgs s_require_kind, defBody s_require_kind, defScope s_require_kind, [], []⟩
abbrev d_require_reader : He.DefD := ⟨("require_reader", none), "require_reader", "require_reader", defArgs s_require_reader, defBody s_require_reader, defScope s_require_reader, [], []⟩
abbrev d_was_passed : He.DefD := ⟨("was_passed", none), "was_passed", "was_passed", defArgs s_was_passed, defBody s_was_passed, defScope s_was_passed, [], []⟩
abbrev d_lists_of : He.DefD := ⟨("lists_of", none), "lists_of", "lists_of", defArgs s_lists_of, defBody s_lists_of, defScope s_lists_of, [], []⟩
abbrev d_states_in : He.DefD := ⟨("states_in", none), "states_in", "states_in", defArgs s_states_in, defBody s_states_in, defScope s_states_in, [], []⟩
abbrev d_law_pool : He.DefD := ⟨("_law_pool", none), "_law_pool", "_law_pool", defArgs s_law_pool, defBody s_law_pool, defScope s_law_pool, [], []⟩
abbrev d_law_draw : He.DefD := ⟨("_law_draw", none), "_law_draw", "_law_draw", defArgs s_law_draw, defBody s_law_draw, defScope s_law_draw, [], []⟩
abbrev d_law_order : He.DefD := ⟨("_law_order", none), "_law_order", "_law_order", defArgs s_law_order, defBody s_law_order, defScope s_law_order, [], []⟩
abbrev d_law_looks : He.DefD := ⟨("_law_looks", none), "_law_looks", "_law_looks", defArgs s_law_looks, defBody s_law_looks, defScope s_law_looks, [], []⟩
abbrev d_law_history : He.DefD := ⟨("_law_history", none), "_law_history", "_law_history", defArgs s_law_history, defBody s_law_history, defScope s_law_history, [], []⟩
abbrev d_law_least_right : He.DefD := ⟨("_law_least_right", none), "_law_least_right", "_law_least_right", defArgs s_law_least_right, defBody s_law_least_right, defScope s_law_least_right, [], []⟩
abbrev d_law_margins_right : He.DefD := ⟨("_law_margins_right", none), "_law_margins_right", "_law_margins_right", defArgs s_law_margins_right, defBody s_law_margins_right, defScope s_law_margins_right, [], []⟩
abbrev d_law_end_right : He.DefD := ⟨("_law_end_right", none), "_law_end_right", "_law_end_right", defArgs s_law_end_right, defBody s_law_end_right, defScope s_law_end_right, [], []⟩
abbrev d_law : He.DefD := ⟨("law", none), "law", "law", defArgs s_law, defBody s_law, defScope s_law, [], []⟩
abbrev dfn0 : List He.DefD := [d_is_integer, d_read, d_lost_ids, d_is_id, d_is_order, d_require_order, d_require_polls, d_require_id_of, d_tops_in, d_danger_in, d_danger_of, d_polls_around, d_reaches_in, d_waits_in, d_least_margin, d_require_most, d_reaches, d_waits, d_least_overlap, d_least_wait]
abbrev dfn1 : List He.DefD := [d_greatest_reach, d_is_event, d_open_behind, d_is_history, d_require_history, d_order_of, d_spans, d_require_kind, d_require_reader, d_was_passed, d_lists_of, d_states_in, d_law_pool, d_law_draw, d_law_order, d_law_looks, d_law_history, d_law_least_right, d_law_margins_right, d_law_end_right]
abbrev dfn2 : List He.DefD := [d_law]
abbrev dfn : List He.DefD := dfn0 ++ dfn1 ++ dfn2
abbrev dfa0 : List He.Fa := [.glo "is_integer", .glo "read", .glo "lost_ids", .glo "is_id", .glo "is_order", .glo "require_order", .glo "require_polls", .glo "require_id_of", .glo "tops_in", .glo "danger_in", .glo "danger_of", .glo "polls_around", .glo "reaches_in", .glo "waits_in", .glo "least_margin", .glo "require_most", .glo "reaches", .glo "waits", .glo "least_overlap", .glo "least_wait"]
abbrev dfa1 : List He.Fa := [.glo "greatest_reach", .glo "is_event", .glo "open_behind", .glo "is_history", .glo "require_history", .glo "order_of", .glo "spans", .glo "require_kind", .glo "require_reader", .glo "was_passed", .glo "lists_of", .glo "states_in", .glo "_law_pool", .glo "_law_draw", .glo "_law_order", .glo "_law_looks", .glo "_law_history", .glo "_law_least_right", .glo "_law_margins_right", .glo "_law_end_right"]
abbrev dfa2 : List He.Fa := [.glo "law", .free "isinstance", .free "int", .free "bool", .free "list", .free "str", .free "tuple", .free "set", .free "len", .free "all", .free "any", .free "max", .free "min", .free "abs", .free "sorted", .free "range", .free "enumerate", .int "GREATEST" 1000000000000000000000000000000, .int "MOST_IDS" 30, .int "MOST_POLLS" 30]
abbrev dfa3 : List He.Fa := [.int "MOST_EVENTS" 60, .str "BEGIN" "begin", .str "COMMIT" "commit", .str "ROLLBACK" "rollback", .str "READ" "read", .str "LOST" "lost", .str "OPEN" "open"]
abbrev dfa : List He.Fa := dfa0 ++ dfa1 ++ dfa2 ++ dfa3
abbrev nms0 : List PySem.Str := ["LateError", "InvalidHistory", "InvalidOrder", "InvalidPolls", "InvalidId", "InvalidNumber", "GREATEST", "MOST_IDS", "MOST_POLLS", "is_integer", "is_id", "is_order", "require_order", "require_polls", "require_id_of", "tops_in", "danger_in", "danger_of", "polls_around", "reaches_in"]
abbrev nms1 : List PySem.Str := ["waits_in", "least_margin", "require_most", "reaches", "waits", "least_overlap", "least_wait", "greatest_reach", "MOST_EVENTS", "BEGIN", "COMMIT", "ROLLBACK", "is_event", "open_behind", "is_history", "require_history", "order_of", "spans", "READ", "LOST"]
abbrev nms2 : List PySem.Str := ["OPEN", "require_kind", "require_reader", "was_passed", "lists_of", "states_in", "read", "lost_ids", "_law_pool", "_law_draw", "_law_shuffled", "_law_order", "_law_looks", "_law_history", "_law_log", "_law_least_right", "_law_margins_right", "_law_end_right"]
abbrev nms : List PySem.Str := nms0 ++ nms1 ++ nms2
abbrev R : PySem.W.OpenRow := PySem.W.OpenLaw.row PySem.Challenge.rw_lateids_k70_whole_margins_by_readers
abbrev hk : PySem.W.Hook := He.hookD 4 dfa dfn
def ob (s : PySem.W.SharedT) : He.AlD := He.obsDG 4 dfa dfn (HandSHeadRun.getT s)
theorem ob_eq (s : PySem.W.SharedT) : ob s = hk.obs s.abs := He.obsDG_eq (HandSHeadRun.getT_eq s)
section
variable {P : Program} {w : World} {K : PySem.W.Frag} {h : Heap} {mg : Str → Option Value} {base : Heap}
theorem env_of (X : K.In h) (G : h.Ns mainGlobals mg) (c : He.SaysD dfa dfn K) : Env mg where
  m_isinstance := He.free_ok X G (c.fact 41 (f := .free "isinstance") rfl)
  m_int := He.free_ok X G (c.fact 42 (f := .free "int") rfl)
  m_bool := He.free_ok X G (c.fact 43 (f := .free "bool") rfl)
  m_list := He.free_ok X G (c.fact 44 (f := .free "list") rfl)
  m_str := He.free_ok X G (c.fact 45 (f := .free "str") rfl)
  m_tuple := He.free_ok X G (c.fact 46 (f := .free "tuple") rfl)
  m_set := He.free_ok X G (c.fact 47 (f := .free "set") rfl)
  m_len := He.free_ok X G (c.fact 48 (f := .free "len") rfl)
  m_all := He.free_ok X G (c.fact 49 (f := .free "all") rfl)
  m_any := He.free_ok X G (c.fact 50 (f := .free "any") rfl)
  m_max := He.free_ok X G (c.fact 51 (f := .free "max") rfl)
  m_min := He.free_ok X G (c.fact 52 (f := .free "min") rfl)
  m_abs := He.free_ok X G (c.fact 53 (f := .free "abs") rfl)
  m_sorted := He.free_ok X G (c.fact 54 (f := .free "sorted") rfl)
  m_range := He.free_ok X G (c.fact 55 (f := .free "range") rfl)
  m_enumerate := He.free_ok X G (c.fact 56 (f := .free "enumerate") rfl)
  c_GREATEST := He.int_ok X G (c.fact 57 (f := .int "GREATEST" 1000000000000000000000000000000) rfl)
  c_MOST_IDS := He.int_ok X G (c.fact 58 (f := .int "MOST_IDS" 30) rfl)
  c_MOST_POLLS := He.int_ok X G (c.fact 59 (f := .int "MOST_POLLS" 30) rfl)
  c_MOST_EVENTS := He.int_ok X G (c.fact 60 (f := .int "MOST_EVENTS" 60) rfl)
  c_BEGIN := He.str_ok X G (c.fact 61 (f := .str "BEGIN" "begin") rfl)
  c_COMMIT := He.str_ok X G (c.fact 62 (f := .str "COMMIT" "commit") rfl)
  c_ROLLBACK := He.str_ok X G (c.fact 63 (f := .str "ROLLBACK" "rollback") rfl)
  c_READ := He.str_ok X G (c.fact 64 (f := .str "READ" "read") rfl)
  c_LOST := He.str_ok X G (c.fact 65 (f := .str "LOST" "lost") rfl)
  c_OPEN := He.str_ok X G (c.fact 66 (f := .str "OPEN" "open") rfl)
theorem at_of (X : K.In h) (G : h.Ns mainGlobals mg) (c : He.SaysD dfa dfn K) {x : Str} {st : Stmt} (i j : Nat) (hf : dfa[i]? = some (.glo x)) (hd : dfn[j]? = some ⟨(x, none), x, x, defArgs st, defBody st, defScope st, [], []⟩) : AtN K mg x st := by
  obtain ⟨fd, F⟩ := c.def_ j hd
  exact ⟨He.ga K x, fd, fun_of F, He.glo_ok X G (c.fact i hf)⟩
theorem at_ofD (X : K.In h) (G : h.Ns mainGlobals mg) (c : He.SaysD dfa dfn K) {x : Str} {st : Stmt} {ds : List He.Dv} {ks : List (Str × He.Dv)} (i j : Nat) (hf : dfa[i]? = some (.glo x)) (hd : dfn[j]? = some ⟨(x, none), x, x, defArgs st, defBody st, defScope st, ds, ks⟩) :
    AtD K mg x st (ds.map (He.Dv.v K)) (ks.map fun q => (q.1, q.2.v K)) := by
  obtain ⟨fd, F⟩ := c.def_ j hd
  exact ⟨He.ga K x, fd, F, He.glo_ok X G (c.fact i hf)⟩
theorem whole (T : Env mg) (A_is_id : AtN K mg "is_id" s_is_id) (A_is_order : AtN K mg "is_order" s_is_order) (A_require_order : AtN K mg "require_order" s_require_order) (A_require_polls : AtN K mg "require_polls" s_require_polls) (A_require_id_of : AtN K mg "require_id_of" s_require_id_of) (A_tops_in : AtN K mg "tops_in" s_tops_in) (A_danger_in : AtN K mg "danger_in" s_danger_in) (A_danger_of : AtN K mg "danger_of" s_danger_of) (A_polls_around : AtN K mg "polls_around" s_polls_around) (A_reaches_in : AtN K mg "reaches_in" s_reaches_in) (A_waits_in : AtN K mg "waits_in" s_waits_in) (A_least_margin : AtN K mg "least_margin" s_least_margin) (A_require_most : AtN K mg "require_most" s_require_most) (A_reaches : AtN K mg "reaches" s_reaches) (A_waits : AtN K mg "waits" s_waits) (A_least_overlap : AtN K mg "least_overlap" s_least_overlap) (A_least_wait : AtN K mg "least_wait" s_least_wait) (A_greatest_reach : AtN K mg "greatest_reach" s_greatest_reach) (A_is_event : AtN K mg "is_event" s_is_event) (A_open_behind : AtN K mg "open_behind" s_open_behind) (A_is_history : AtN K mg "is_history" s_is_history) (A_require_history : AtN K mg "require_history" s_require_history) (A_order_of : AtN K mg "order_of" s_order_of) (A_spans : AtN K mg "spans" s_spans) (A_require_kind : AtN K mg "require_kind" s_require_kind) (A_require_reader : AtN K mg "require_reader" s_require_reader) (A_was_passed : AtN K mg "was_passed" s_was_passed) (A_lists_of : AtN K mg "lists_of" s_lists_of) (A_states_in : AtN K mg "states_in" s_states_in) (A_law_pool : AtN K mg "_law_pool" s_law_pool) (A_law_draw : AtN K mg "_law_draw" s_law_draw) (A_law_order : AtN K mg "_law_order" s_law_order) (A_law_looks : AtN K mg "_law_looks" s_law_looks) (A_law_history : AtN K mg "_law_history" s_law_history) (A_law_least_right : AtN K mg "_law_least_right" s_law_least_right) (A_law_margins_right : AtN K mg "_law_margins_right" s_law_margins_right) (A_law_end_right : AtN K mg "_law_end_right" s_law_end_right) (A_is_integer : AtD K mg "is_integer" s_is_integer [.non] []) (A_read : AtD K mg "read" s_read [] kwR) (A_lost_ids : AtD K mg "lost_ids" s_lost_ids [] kwR) {f : Addr} {fd : FuncData} (F : Fun K "law" "law" s_law f fd) : FnOk P w K mg base CX0 8 f fd ["_law_script"] (sp_law K) := by
  have C_is_integer2 := cal_is_integer2 (P := P) (w := w) (base := base) A_is_integer T
  have C_is_integer3 := cal_is_integer3 (P := P) (w := w) (base := base) A_is_integer T
  have C_is_id := cal_is_id (P := P) (w := w) (base := base) T A_is_id C_is_integer3
  have C_is_order := cal_is_order (P := P) (w := w) (base := base) T A_is_order C_is_id
  have C_require_order := cal_require_order (P := P) (w := w) (base := base) T A_require_order C_is_order
  have C_require_polls := cal_require_polls (P := P) (w := w) (base := base) T A_require_polls C_is_integer3
  have C_require_id_of := cal_require_id_of (P := P) (w := w) (base := base) T A_require_id_of C_is_id
  have C_tops_in := cal_tops_in (P := P) (w := w) (base := base) T A_tops_in 
  have C_danger_in := cal_danger_in (P := P) (w := w) (base := base) T A_danger_in C_tops_in
  have C_danger_of := cal_danger_of (P := P) (w := w) (base := base) T A_danger_of C_require_order C_require_id_of C_danger_in
  have C_polls_around := cal_polls_around (P := P) (w := w) (base := base) T A_polls_around 
  have C_reaches_in := cal_reaches_in (P := P) (w := w) (base := base) T A_reaches_in C_tops_in C_polls_around
  have C_waits_in := cal_waits_in (P := P) (w := w) (base := base) T A_waits_in C_tops_in C_polls_around
  have C_least_margin := cal_least_margin (P := P) (w := w) (base := base) T A_least_margin 
  have C_require_most := cal_require_most (P := P) (w := w) (base := base) T A_require_most C_is_integer2
  have C_reaches := cal_reaches (P := P) (w := w) (base := base) T A_reaches C_require_order C_require_polls C_reaches_in
  have C_waits := cal_waits (P := P) (w := w) (base := base) T A_waits C_require_order C_require_polls C_waits_in
  have C_least_overlap := cal_least_overlap (P := P) (w := w) (base := base) T A_least_overlap C_require_order C_require_polls C_require_most C_least_margin C_reaches_in
  have C_least_wait := cal_least_wait (P := P) (w := w) (base := base) T A_least_wait C_require_order C_require_polls C_require_most C_least_margin C_waits_in
  have C_greatest_reach := cal_greatest_reach (P := P) (w := w) (base := base) T A_greatest_reach C_require_order C_tops_in
  have C_is_event := cal_is_event (P := P) (w := w) (base := base) T A_is_event C_is_integer2
  have C_open_behind := cal_open_behind (P := P) (w := w) (base := base) T A_open_behind 
  have C_is_history := cal_is_history (P := P) (w := w) (base := base) T A_is_history C_open_behind C_is_event
  have C_require_history := cal_require_history (P := P) (w := w) (base := base) T A_require_history C_is_history
  have C_order_of := cal_order_of (P := P) (w := w) (base := base) T A_order_of C_require_history
  have C_spans := cal_spans (P := P) (w := w) (base := base) T A_spans C_require_history
  have C_require_kind := cal_require_kind (P := P) (w := w) (base := base) T A_require_kind C_is_integer2
  have C_require_reader := cal_require_reader (P := P) (w := w) (base := base) T A_require_reader C_require_order C_require_polls C_require_kind
  have C_was_passed := cal_was_passed (P := P) (w := w) (base := base) T A_was_passed 
  have C_lists_of := cal_lists_of (P := P) (w := w) (base := base) T A_lists_of C_was_passed
  have C_states_in := cal_states_in (P := P) (w := w) (base := base) T A_states_in 
  have C_law_pool := cal_law_pool (P := P) (w := w) (base := base) T A_law_pool 
  have C_law_draw := cal_law_draw (P := P) (w := w) (base := base) T A_law_draw 
  have C_law_order := cal_law_order (P := P) (w := w) (base := base) T A_law_order C_law_draw
  have C_law_looks := cal_law_looks (P := P) (w := w) (base := base) T A_law_looks C_law_draw
  have C_law_history := cal_law_history (P := P) (w := w) (base := base) T A_law_history C_law_draw
  have C_lost_ids := cal_lost_ids0 (k := 6) (sp := sp_lost_ids) (P := P) (w := w) (base := base) A_lost_ids fun F => ok_lost_ids T C_require_reader C_states_in C_lists_of F
  have C_lost_ids_o := cal_lost_idsO (k := 6) (sp := sp_lost_ids) (P := P) (w := w) (base := base) A_lost_ids fun F => ok_lost_ids T C_require_reader C_states_in C_lists_of F
  have C_lost_ids_w := cal_lost_idsW (k := 6) (sp := sp_lost_ids) (P := P) (w := w) (base := base) A_lost_ids fun F => ok_lost_ids T C_require_reader C_states_in C_lists_of F
  have C_read_o := cal_readO (k := 6) (sp := sp_read) (P := P) (w := w) (base := base) A_read fun F => ok_read T C_require_reader C_lists_of F
  have C_law_least_right := cal_law_least_right (P := P) (w := w) (base := base) T A_law_least_right C_least_overlap C_least_wait C_lost_ids_o C_lost_ids_w
  have C_law_margins_right := cal_law_margins_right (P := P) (w := w) (base := base) T A_law_margins_right C_reaches C_waits C_lost_ids C_danger_of C_law_draw C_lost_ids_o
  have C_law_end_right := cal_law_end_right (P := P) (w := w) (base := base) T A_law_end_right C_read_o C_law_looks C_lost_ids_o
  exact ok_law T C_law_pool C_law_history C_order_of C_law_order C_law_looks C_law_margins_right C_law_end_right C_law_draw C_greatest_reach C_law_least_right C_spans F
theorem facts {fa : Addr} (X : K.In h) (G : h.Ns mainGlobals mg) (hfa : mg ("law" : Str) = some (.ref fa)) (c : He.SaysD dfa dfn K) :
    ∃ fd : FuncData, (∀ (s : Shared) (v : Value), BindsTo s fd ⟨[v], []⟩ [("_law_script", v)]) ∧ ∀ base : Heap, K.In base → base.Ns mainGlobals mg → FnOk P w K mg base CX0 8 fa fd ["_law_script"] (sp_law K) := by
  have T := env_of X G c
  have A_is_id : AtN K mg "is_id" s_is_id := at_of X G c 3 3 rfl rfl
  have A_is_order : AtN K mg "is_order" s_is_order := at_of X G c 4 4 rfl rfl
  have A_require_order : AtN K mg "require_order" s_require_order := at_of X G c 5 5 rfl rfl
  have A_require_polls : AtN K mg "require_polls" s_require_polls := at_of X G c 6 6 rfl rfl
  have A_require_id_of : AtN K mg "require_id_of" s_require_id_of := at_of X G c 7 7 rfl rfl
  have A_tops_in : AtN K mg "tops_in" s_tops_in := at_of X G c 8 8 rfl rfl
  have A_danger_in : AtN K mg "danger_in" s_danger_in := at_of X G c 9 9 rfl rfl
  have A_danger_of : AtN K mg "danger_of" s_danger_of := at_of X G c 10 10 rfl rfl
  have A_polls_around : AtN K mg "polls_around" s_polls_around := at_of X G c 11 11 rfl rfl
  have A_reaches_in : AtN K mg "reaches_in" s_reaches_in := at_of X G c 12 12 rfl rfl
  have A_waits_in : AtN K mg "waits_in" s_waits_in := at_of X G c 13 13 rfl rfl
  have A_least_margin : AtN K mg "least_margin" s_least_margin := at_of X G c 14 14 rfl rfl
  have A_require_most : AtN K mg "require_most" s_require_most := at_of X G c 15 15 rfl rfl
  have A_reaches : AtN K mg "reaches" s_reaches := at_of X G c 16 16 rfl rfl
  have A_waits : AtN K mg "waits" s_waits := at_of X G c 17 17 rfl rfl
  have A_least_overlap : AtN K mg "least_overlap" s_least_overlap := at_of X G c 18 18 rfl rfl
  have A_least_wait : AtN K mg "least_wait" s_least_wait := at_of X G c 19 19 rfl rfl
  have A_greatest_reach : AtN K mg "greatest_reach" s_greatest_reach := at_of X G c 20 20 rfl rfl
  have A_is_event : AtN K mg "is_event" s_is_event := at_of X G c 21 21 rfl rfl
  have A_open_behind : AtN K mg "open_behind" s_open_behind := at_of X G c 22 22 rfl rfl
  have A_is_history : AtN K mg "is_history" s_is_history := at_of X G c 23 23 rfl rfl
  have A_require_history : AtN K mg "require_history" s_require_history := at_of X G c 24 24 rfl rfl
  have A_order_of : AtN K mg "order_of" s_order_of := at_of X G c 25 25 rfl rfl
  have A_spans : AtN K mg "spans" s_spans := at_of X G c 26 26 rfl rfl
  have A_require_kind : AtN K mg "require_kind" s_require_kind := at_of X G c 27 27 rfl rfl
  have A_require_reader : AtN K mg "require_reader" s_require_reader := at_of X G c 28 28 rfl rfl
  have A_was_passed : AtN K mg "was_passed" s_was_passed := at_of X G c 29 29 rfl rfl
  have A_lists_of : AtN K mg "lists_of" s_lists_of := at_of X G c 30 30 rfl rfl
  have A_states_in : AtN K mg "states_in" s_states_in := at_of X G c 31 31 rfl rfl
  have A_law_pool : AtN K mg "_law_pool" s_law_pool := at_of X G c 32 32 rfl rfl
  have A_law_draw : AtN K mg "_law_draw" s_law_draw := at_of X G c 33 33 rfl rfl
  have A_law_order : AtN K mg "_law_order" s_law_order := at_of X G c 34 34 rfl rfl
  have A_law_looks : AtN K mg "_law_looks" s_law_looks := at_of X G c 35 35 rfl rfl
  have A_law_history : AtN K mg "_law_history" s_law_history := at_of X G c 36 36 rfl rfl
  have A_law_least_right : AtN K mg "_law_least_right" s_law_least_right := at_of X G c 37 37 rfl rfl
  have A_law_margins_right : AtN K mg "_law_margins_right" s_law_margins_right := at_of X G c 38 38 rfl rfl
  have A_law_end_right : AtN K mg "_law_end_right" s_law_end_right := at_of X G c 39 39 rfl rfl
  have A_is_integer : AtD K mg "is_integer" s_is_integer [.non] [] := at_ofD X G c (ds := [.non]) (ks := []) 0 0 rfl rfl
  have A_read : AtD K mg "read" s_read [] kwR := at_ofD X G c (ds := []) (ks := [("overlap", .int 1), ("wait", .int 0), ("page", .non)]) 1 1 rfl rfl
  have A_lost_ids : AtD K mg "lost_ids" s_lost_ids [] kwR := at_ofD X G c (ds := []) (ks := [("overlap", .int 1), ("wait", .int 0), ("page", .non)]) 2 2 rfl rfl
  obtain ⟨fd, F⟩ := c.def_ 40 (d := d_law) rfl
  have e := hfa.symm.trans (He.glo_ok X G (c.fact 40 (f := .glo "law") rfl))
  cases e
  have b := FunD.bindsA (ps := ["_law_script"]) F fun _ _ _ _ _ _ us hl => match us, hl with | [_], _ => rfl
  exact ⟨fd, fun s v => b s [v] rfl, fun base _ _ => whole T A_is_id A_is_order A_require_order A_require_polls A_require_id_of A_tops_in A_danger_in A_danger_of A_polls_around A_reaches_in A_waits_in A_least_margin A_require_most A_reaches A_waits A_least_overlap A_least_wait A_greatest_reach A_is_event A_open_behind A_is_history A_require_history A_order_of A_spans A_require_kind A_require_reader A_was_passed A_lists_of A_states_in A_law_pool A_law_draw A_law_order A_law_looks A_law_history A_law_least_right A_law_margins_right A_law_end_right A_is_integer A_read A_lost_ids (fun_of F)⟩
end
end K70
/-! #### K70EndR -/
set_option Elab.async false
set_option linter.all false
set_option maxRecDepth 100000
set_option maxHeartbeats 0
namespace K70
open PySem PySem.Spec PyProof.Rows L2
theorem run (w : World) : HandSHeadRun.RunEq R (PySem.W.view R.prog [65]) hk ob 6000 nms w := by
  intro os
  kernel_rfl
end K70
/-! #### K70EndL -/
set_option Elab.async false
set_option linter.all false
set_option maxRecDepth 100000
set_option maxHeartbeats 0
open PySem PySem.W PySem.Calls PyProof.Rows
theorem PySem.Challenge.cw_lateids_k70_whole_margins_by_readers_holds : PySem.Challenge.rw_lateids_k70_whole_margins_by_readers.Holds := by
  w_on; o_law
  refine HandSHeadRun.head_any (r := OpenLaw.row PySem.Challenge.rw_lateids_k70_whole_margins_by_readers) (q := view (OpenLaw.row PySem.Challenge.rw_lateids_k70_whole_margins_by_readers).prog [65]) (H := K70.hk) (ob := K70.ob) (M := 6000) (loose := K70.nms) (d := HandSHeadRun.topDef (OpenLaw.row PySem.Challenge.rw_lateids_k70_whole_margins_by_readers).prog 65) (kwd := []) K70.ob_eq
    (by kernel_rfl) (fun s => by kernel_rfl) K70.run (by kernel_rfl) (by kernel_rfl) (by kernel_rfl) (by rfl) (by first | assumption | decide +kernel) (by decide +kernel) ⟨rfl, rfl, rfl, rfl, rfl, by decide +kernel⟩ ?hw ?hc
  case hw => w_witness2
  case hc =>
    refine L2.walk_ofE (l := PySem.Challenge.rw_lateids_k70_whole_margins_by_readers) (n := 63) (k := 8) (x := "_law_script") (CX := L2.CX0) rfl (by decide) (by kernel_rfl) ⟨rfl, by decide, by decide⟩ ?F (fun _ _ _ _ z => z)
    intro w mg fa h Y G hmg0
    obtain ⟨K, KX, c⟩ := Y
    have hmg : mg ("law" : PySem.Str) = some (.ref fa) := by
      have e : (HandSHeadRun.topDef (OpenLaw.row PySem.Challenge.rw_lateids_k70_whole_margins_by_readers).prog 65).name = ("law" : PySem.Str) := by kernel_rfl
      rw [← e]
      exact hmg0
    obtain ⟨fd, hb, hF⟩ := K70.facts (P := (PySem.Challenge.rw_lateids_k70_whole_margins_by_readers).prog) (w := w) KX G hmg c
    exact ⟨K, fd, K70.sp_law K, KX, hb, fun H a ns hl _ hS => ⟨a, ns, rfl, hS, fun _ => rfl⟩, hF⟩
