import PyProof.Rows.All
import Wide.All
import OpenK.AllK
import Wide.FinOn
import HandS.ForMost
import HandS.Exc
import HandS.TryOnly
import HandS.ExcOwn
import HandS.WordsExc
import HandS.TryMany
import HandS.ExcInit
import HandS.Strs
import HandS.SetFor
import HandS.Conv
import HandS.Zip
import HandS.TupAny
import HandS.TupMul
import HandS.IsInst
import HandS.Lambda
import HandS.CallLocal
import HandS.CallSlots
import HandS.Evl
import HandS.Codes
import HandS.EndOwn
import KE.KExcSuper
import PySem.Challenge.RW_wetfolds_k46_whole_greatest_lots
import HandS.NestedK
import HandS.ExcField
set_option Elab.async false
set_option linter.all false
set_option maxRecDepth 100000
set_option maxHeartbeats 4000000
/-! K1: the plain law. Lists of whole numbers, ascending; what comes of them by a row; the greatest and the fewest. No program in sight. -/
namespace K46
abbrev Asc (l : List Int) : Prop := l.Pairwise (· < ·)
def insS (x : Int) : List Int → List Int
  | [] => [x]
  | y :: r => if x < y then x :: y :: r else if x = y then y :: r else y :: insS x r
def sd (l : List Int) : List Int := l.foldr insS []
theorem mem_insS {k x : Int} : ∀ {l : List Int}, k ∈ insS x l ↔ k = x ∨ k ∈ l
  | [] => by simp [insS]
  | y :: r => by
    unfold insS
    split
    · simp
    · split
      · rename_i h1 h2
        subst h2
        simp
      · rw [List.mem_cons, mem_insS (l := r), List.mem_cons]
        constructor
        · rintro (h | h | h)
          · exact .inr (.inl h)
          · exact .inl h
          · exact .inr (.inr h)
        · rintro (h | h | h)
          · exact .inr (.inl h)
          · exact .inl h
          · exact .inr (.inr h)
theorem asc_insS {x : Int} : ∀ {l : List Int}, Asc l → Asc (insS x l)
  | [], _ => by simp [insS, Asc]
  | y :: r, h => by
    have h' := List.pairwise_cons.mp h
    unfold insS
    split
    · rename_i h1
      refine List.pairwise_cons.mpr ⟨fun a ha => ?_, h⟩
      rcases List.mem_cons.mp ha with e | e
      · rw [e]; exact h1
      · exact Int.lt_trans h1 (h'.1 a e)
    · split
      · exact h
      · rename_i h1 h2
        refine List.pairwise_cons.mpr ⟨fun a ha => ?_, asc_insS h'.2⟩
        rcases mem_insS.mp ha with e | e
        · rw [e]; omega
        · exact h'.1 a e
theorem mem_sd {k : Int} : ∀ {l : List Int}, k ∈ sd l ↔ k ∈ l
  | [] => by simp [sd]
  | x :: r => by
    show k ∈ insS x (sd r) ↔ _
    rw [mem_insS, mem_sd (l := r), List.mem_cons]
theorem asc_sd : ∀ (l : List Int), Asc (sd l)
  | [] => List.Pairwise.nil
  | x :: r => asc_insS (asc_sd r)
theorem asc_ext : ∀ {l m : List Int}, Asc l → Asc m → (∀ k, k ∈ l ↔ k ∈ m) → l = m
  | [], [], _, _, _ => rfl
  | [], y :: m, _, _, h => absurd ((h y).mpr List.mem_cons_self) (by simp)
  | x :: l, [], _, _, h => absurd ((h x).mp List.mem_cons_self) (by simp)
  | x :: l, y :: m, h1, h2, h => by
    have a1 := List.pairwise_cons.mp h1
    have a2 := List.pairwise_cons.mp h2
    have exy : x = y := by
      have c1 := (h x).mp List.mem_cons_self
      have c2 := (h y).mpr List.mem_cons_self
      rcases List.mem_cons.mp c1 with e | e
      · exact e
      · rcases List.mem_cons.mp c2 with e2 | e2
        · exact e2.symm
        · have b1 := a2.1 x e
          have b2 := a1.1 y e2
          omega
    subst exy
    rw [asc_ext a1.2 a2.2 fun k => ?_]
    constructor
    · intro hk
      rcases List.mem_cons.mp ((h k).mp (List.mem_cons_of_mem _ hk)) with e | e
      · have := a1.1 k hk
        omega
      · exact e
    · intro hk
      rcases List.mem_cons.mp ((h k).mpr (List.mem_cons_of_mem _ hk)) with e | e
      · have := a2.1 k hk
        omega
      · exact e
theorem asc_filter {l : List Int} (p : Int → Bool) (h : Asc l) : Asc (l.filter p) := h.filter p
theorem asc_len {l m : List Int} (h1 : Asc l) (h2 : Asc m) (h : ∀ k, k ∈ l → k ∈ m) : l.length ≤ m.length := by
  have e : l = m.filter (fun k => decide (k ∈ l)) := asc_ext h1 (asc_filter _ h2) fun k => by
    rw [List.mem_filter, decide_eq_true_eq]
    exact ⟨fun q => ⟨h k q, q⟩, fun q => q.2⟩
  rw [e]
  exact List.length_filter_le _ _
theorem sd_asc {l : List Int} (h : Asc l) : sd l = l := asc_ext (asc_sd l) h fun _ => mem_sd
theorem asc_nodup {l : List Int} (h : Asc l) : l.Nodup := h.imp fun q => by omega
/-- an ascending list is a sorted one without duplicates -/
theorem asc_of {l : List Int} (h : l.Pairwise (· ≤ ·)) (n : l.Nodup) : Asc l := by
  induction l with
  | nil => exact List.Pairwise.nil
  | cons x r ih =>
    have a := List.pairwise_cons.mp h
    have b := List.nodup_cons.mp n
    refine List.pairwise_cons.mpr ⟨fun y hy => ?_, ih a.2 b.2⟩
    have h1 := a.1 y hy
    have h2 : x ≠ y := fun e => b.1 (e ▸ hy)
    omega
theorem nodup_len {l m : List Int} (h1 : l.Nodup) (h2 : Asc m) (h : ∀ k, k ∈ l → k ∈ m) : l.length ≤ m.length := by
  have e : l.length = (sd l).length := by
    have p : (sd l).Perm l := by
      clear h h2
      induction l with
      | nil => exact List.Perm.refl _
      | cons x r ih =>
        have b := List.nodup_cons.mp h1
        have ihp := ih b.2
        have nx : x ∉ sd r := fun q => b.1 (mem_sd.mp q)
        have key : ∀ {s : List Int}, x ∉ s → (insS x s).Perm (x :: s) := by
          intro s
          induction s with
          | nil => intro _; exact List.Perm.refl _
          | cons y s ih2 =>
            intro hn
            have hn' : x ≠ y ∧ x ∉ s := by simpa [List.mem_cons, not_or] using hn
            unfold insS
            split
            · exact List.Perm.refl _
            · rw [if_neg hn'.1]
              exact ((ih2 hn'.2).cons y).trans (List.Perm.swap x y s)
        exact (key nx).trans (ihp.cons x)
    exact p.length_eq.symm
  rw [e]
  exact asc_len (asc_sd l) h2 fun k hk => h k (mem_sd.mp hk)

/-! ### what comes of a list by a row -/
def foldStep (ps : List Int) (c : Int) : List Int := sd (ps ++ ps.map (fun p => c - p))
def inkM (l fs : List Int) : List Int := fs.foldl foldStep l
def re : List Int → Int → List Int
  | [], p => [p]
  | c :: fs, p => re fs p ++ re fs (c - p)
theorem re_self : ∀ (fs : List Int) (p : Int), p ∈ re fs p
  | [], p => by simp [re]
  | c :: fs, p => List.mem_append_left _ (re_self fs p)
theorem mem_step {k c : Int} {ps : List Int} : k ∈ foldStep ps c ↔ k ∈ ps ∨ ∃ p ∈ ps, k = c - p := by
  unfold foldStep
  rw [mem_sd, List.mem_append, List.mem_map]
  constructor
  · rintro (h | ⟨p, h, e⟩)
    · exact .inl h
    · exact .inr ⟨p, h, e.symm⟩
  · rintro (h | ⟨p, h, e⟩)
    · exact .inl h
    · exact .inr ⟨p, h, e.symm⟩
theorem mem_inkM {k : Int} : ∀ {fs l : List Int}, k ∈ inkM l fs ↔ ∃ p ∈ l, k ∈ re fs p
  | [], l => by
    show k ∈ l ↔ _
    constructor
    · intro h; exact ⟨k, h, by simp [re]⟩
    · rintro ⟨p, h, e⟩
      have : k = p := by simpa [re] using e
      rw [this]; exact h
  | c :: fs, l => by
    show k ∈ inkM (foldStep l c) fs ↔ _
    rw [mem_inkM (fs := fs)]
    constructor
    · rintro ⟨q, hq, hk⟩
      rcases mem_step.mp hq with h | ⟨p, h, e⟩
      · exact ⟨q, h, List.mem_append_left _ hk⟩
      · exact ⟨p, h, List.mem_append_right _ (e ▸ hk)⟩
    · rintro ⟨p, hp, hk⟩
      rcases List.mem_append.mp hk with h | h
      · exact ⟨p, mem_step.mpr (.inl hp), h⟩
      · exact ⟨c - p, mem_step.mpr (.inr ⟨p, hp, rfl⟩), h⟩
theorem asc_inkM : ∀ {fs l : List Int}, Asc l → Asc (inkM l fs)
  | [], _, h => h
  | _ :: fs, _, _ => asc_inkM (fs := fs) (asc_sd _)
theorem mem_one {k p : Int} {fs : List Int} : k ∈ inkM [p] fs ↔ k ∈ re fs p := by
  rw [mem_inkM]
  constructor
  · rintro ⟨q, hq, hk⟩
    have : q = p := by simpa using hq
    rw [← this]; exact hk
  · intro h; exact ⟨p, by simp, h⟩
theorem inkM_self {k : Int} {l fs : List Int} (h : k ∈ l) : k ∈ inkM l fs := mem_inkM.mpr ⟨k, h, re_self fs k⟩
theorem inkM_sub {l m fs : List Int} (h : ∀ k, k ∈ l → k ∈ m) : ∀ k, k ∈ inkM l fs → k ∈ inkM m fs := fun k hk => by
  obtain ⟨p, hp, q⟩ := mem_inkM.mp hk
  exact mem_inkM.mpr ⟨p, h p hp, q⟩
theorem inkM_append (l fs gs : List Int) : inkM l (fs ++ gs) = inkM (inkM l fs) gs := List.foldl_append
theorem inkM_take_sub (l fs : List Int) (i : Nat) : ∀ k, k ∈ inkM l (fs.take i) → k ∈ inkM l fs := fun k hk => by
  have e : inkM l fs = inkM (inkM l (fs.take i)) (fs.drop i) := by rw [← inkM_append, List.take_append_drop]
  rw [e]
  exact inkM_self hk
theorem inkM_take_succ {l fs : List Int} {i : Nat} {c : Int} (h : fs[i]? = some c) : inkM l (fs.take (i + 1)) = foldStep (inkM l (fs.take i)) c := by
  rw [List.take_add_one, h, inkM_append]
  rfl
theorem len_step (ps : List Int) (c : Int) : (foldStep ps c).length ≤ 2 * ps.length := by
  unfold foldStep
  have key : ∀ l : List Int, (sd l).length ≤ l.length := by
    intro l
    induction l with
    | nil => exact Nat.le_refl _
    | cons x r ih =>
      have k2 : ∀ s : List Int, (insS x s).length ≤ s.length + 1 := by
        intro s
        induction s with
        | nil => exact Nat.le_refl _
        | cons y s ih2 =>
          unfold insS
          split
          · simp
          · split
            · simp
            · simp only [List.length_cons]; omega
      show (insS x (sd r)).length ≤ r.length + 1
      have := k2 (sd r)
      omega
  have := key (ps ++ ps.map (fun p => c - p))
  rw [List.length_append, List.length_map] at this
  omega
theorem len_inkM : ∀ (fs l : List Int), (inkM l fs).length ≤ l.length * 2 ^ fs.length
  | [], l => by show l.length ≤ l.length * 1; omega
  | c :: fs, l => by
    show (inkM (foldStep l c) fs).length ≤ _
    have h1 := len_inkM fs (foldStep l c)
    have h2 := len_step l c
    have h3 : (foldStep l c).length * 2 ^ fs.length ≤ (2 * l.length) * 2 ^ fs.length := Nat.mul_le_mul_right _ h2
    rw [List.length_cons, Nat.pow_succ]
    have e : l.length * (2 ^ fs.length * 2) = (2 * l.length) * 2 ^ fs.length := by
      rw [Nat.mul_comm 2 l.length, Nat.mul_assoc, Nat.mul_comm 2]
    omega
/-- how far the places lie -/
theorem far_re : ∀ (fs : List Int) (p B : Int) (F : Int), (∀ c ∈ fs, -F ≤ c ∧ c ≤ F) → -B ≤ p → p ≤ B → 0 ≤ F → ∀ k ∈ re fs p, -(B + fs.length * F) ≤ k ∧ k ≤ B + fs.length * F
  | [], p, B, F, _, h1, h2, _, k, hk => by
    have : k = p := by simpa [re] using hk
    subst this
    simp only [List.length_nil]
    omega
  | c :: fs, p, B, F, hc, h1, h2, h0, k, hk => by
    have c1 := hc c List.mem_cons_self
    have e : ((c :: fs).length : Int) * F = fs.length * F + F := by
      rw [List.length_cons, Int.natCast_add, Int.add_mul]; simp
    rw [e]
    rcases List.mem_append.mp hk with h | h
    · have := far_re fs p B F (fun d hd => hc d (List.mem_cons_of_mem _ hd)) h1 h2 h0 k h
      omega
    · have := far_re fs (c - p) (B + F) F (fun d hd => hc d (List.mem_cons_of_mem _ hd)) (by omega) (by omega) h0 k h
      omega

/-! ### the greatest -/
def okAt (lot fs : List Int) (p : Int) : Bool := (inkM [p] fs).all fun k => decide (k ∈ lot)
def gM (lot fs : List Int) : List Int := lot.filter (okAt lot fs)
theorem okAt_iff {lot fs : List Int} {p : Int} : okAt lot fs p = true ↔ ∀ k ∈ re fs p, k ∈ lot := by
  unfold okAt
  rw [List.all_eq_true]
  constructor
  · intro h k hk; exact of_decide_eq_true (h k (mem_one.mpr hk))
  · intro h k hk; exact decide_eq_true (h k (mem_one.mp hk))
theorem mem_gM {lot fs : List Int} {p : Int} : p ∈ gM lot fs ↔ ∀ k ∈ re fs p, k ∈ lot := by
  unfold gM
  rw [List.mem_filter, okAt_iff]
  exact ⟨fun h => h.2, fun h => ⟨h p (re_self fs p), h⟩⟩
theorem asc_gM {lot fs : List Int} (h : Asc lot) : Asc (gM lot fs) := asc_filter _ h
theorem gM_sub {lot fs : List Int} : ∀ k, k ∈ gM lot fs → k ∈ lot := fun k h => (List.mem_filter.mp h).1
theorem ink_gM_sub {lot fs : List Int} : ∀ k, k ∈ inkM (gM lot fs) fs → k ∈ lot := fun k h => by
  obtain ⟨p, hp, hk⟩ := mem_inkM.mp h
  exact mem_gM.mp hp k hk
theorem ink_gM_len {lot fs : List Int} (h : Asc lot) : (inkM (gM lot fs) fs).length ≤ lot.length := asc_len (asc_inkM (asc_gM h)) h ink_gM_sub
theorem ink_some_len {lot fs s : List Int} (h : Asc lot) (hs : Asc s) (hm : ∀ k, k ∈ s → k ∈ gM lot fs) : (inkM s fs).length ≤ lot.length :=
  asc_len (asc_inkM hs) h fun k hk => ink_gM_sub k (inkM_sub hm k hk)
/-- a lot that came of one: its greatest lot is brought to it -/
theorem ink_gM_of {one fs : List Int} (h : Asc one) : inkM (gM (inkM one fs) fs) fs = inkM one fs := by
  refine asc_ext (asc_inkM (asc_gM (asc_inkM h))) (asc_inkM h) fun k => ⟨fun q => ink_gM_sub k q, fun q => ?_⟩
  obtain ⟨p, hp, hk⟩ := mem_inkM.mp q
  exact mem_inkM.mpr ⟨p, mem_gM.mpr fun j hj => mem_inkM.mpr ⟨p, hp, hj⟩, hk⟩
theorem one_in_gM {one fs : List Int} : ∀ k, k ∈ one → k ∈ gM (inkM one fs) fs := fun k hk => mem_gM.mpr fun j hj => mem_inkM.mpr ⟨k, hk, hj⟩
theorem two_iff {one other fs : List Int} (h1 : Asc one) (h2 : Asc other) : inkM one fs = inkM other fs ↔ gM (inkM one fs) fs = gM (inkM other fs) fs := by
  constructor
  · intro e; rw [e]
  · intro e
    rw [← ink_gM_of h1, ← ink_gM_of h2, e]
/-- as the law finds it -/
def rangeI (lo : Int) (n : Nat) : List Int := (List.range n).map fun (i : Nat) => lo + (i : Int)
theorem mem_rangeI {lo k : Int} {n : Nat} : k ∈ rangeI lo n ↔ lo ≤ k ∧ k < lo + n := by
  unfold rangeI
  rw [List.mem_map]
  constructor
  · rintro ⟨i, hi, rfl⟩
    have := List.mem_range.mp hi
    omega
  · intro h
    exact ⟨(k - lo).toNat, List.mem_range.mpr (by omega), by omega⟩
theorem asc_rangeI (lo : Int) (n : Nat) : Asc (rangeI lo n) := by
  unfold rangeI
  exact List.Pairwise.map _ (fun a b (h : a < b) => by show lo + (a : Int) < lo + (b : Int); omega) List.pairwise_lt_range
def lawOk (lot fs : List Int) (p : Int) : Bool := ((inkM [p] fs).filter fun k => !decide (k ∈ lot)).isEmpty
def lawG (lot fs : List Int) (lo : Int) (n : Nat) : List Int := (rangeI lo n).filter (lawOk lot fs)
theorem lawOk_iff {lot fs : List Int} {p : Int} : lawOk lot fs p = true ↔ ∀ k ∈ re fs p, k ∈ lot := by
  unfold lawOk
  rw [List.isEmpty_iff, List.filter_eq_nil_iff]
  constructor
  · intro h k hk
    have := h k (mem_one.mpr hk)
    simpa using this
  · intro h k hk
    have := h k (mem_one.mp hk)
    simpa using this
theorem lawG_eq {lot fs : List Int} {lo : Int} {n : Nat} (h : Asc lot) (hr : ∀ k ∈ lot, lo ≤ k ∧ k < lo + n) : lawG lot fs lo n = gM lot fs := by
  refine asc_ext (asc_filter _ (asc_rangeI _ _)) (asc_gM h) fun k => ?_
  unfold lawG
  rw [List.mem_filter, lawOk_iff, mem_gM, mem_rangeI]
  exact ⟨fun q => q.2, fun q => ⟨hr k (q k (re_self fs k)), q⟩⟩
theorem asc_ends {l : List Int} (h : Asc l) {a b : Int} (ha : l.head? = some a) (hb : l.getLast? = some b) : ∀ k ∈ l, a ≤ k ∧ k ≤ b := by
  intro k hk
  constructor
  · cases l with
    | nil => cases hk
    | cons x r =>
      have e : x = a := Option.some.inj ha
      subst e
      rcases List.mem_cons.mp hk with e | e
      · omega
      · have := (List.pairwise_cons.mp h).1 k e
        omega
  · obtain ⟨m, e⟩ : ∃ m, l = m ++ [b] := List.getLast?_eq_some_iff.mp hb
    rw [e] at hk h
    rcases List.mem_append.mp hk with q | q
    · have := (List.pairwise_append.mp h).2.2 k q b (by simp)
      omega
    · have : k = b := by simpa using q
      omega
end K46

/-! K1b: the lots of so many places, in order; the first of the fewest. -/
namespace K46
def pstep (ps : List Int) (sf : List Int × Nat) : List (List Int × Nat) := (List.range' sf.2 (ps.length - sf.2)).map fun a => (sf.1 ++ [ps.getD a 0], a + 1)
def progLine (ps : List Int) : Nat → List (List Int × Nat)
  | 0 => [([], 0)]
  | m + 1 => (progLine ps m).flatMap (pstep ps)
def lkeep (s : List Int) (p : Int) : Bool := s.isEmpty || decide (s.getLastD 0 < p)
def lstep (ps s : List Int) : List (List Int) := (ps.filter (lkeep s)).map fun p => s ++ [p]
def lawLine (ps : List Int) : Nat → List (List Int)
  | 0 => [[]]
  | m + 1 => (lawLine ps m).flatMap (lstep ps)
structure GoodSF (ps : List Int) (m : Nat) (sf : List Int × Nat) : Prop where
  le : sf.2 ≤ ps.length
  ends : (sf.1 = [] ∧ sf.2 = 0) ∨ (sf.1 ≠ [] ∧ 0 < sf.2 ∧ sf.1.getLastD 0 = ps.getD (sf.2 - 1) 0)
  asc : Asc sf.1
  sub : ∀ k ∈ sf.1, k ∈ ps
  len : sf.1.length = m
theorem getD_mem {ps : List Int} {a : Nat} (h : a < ps.length) : ps.getD a 0 ∈ ps := by
  rw [List.getD_eq_getElem?_getD, List.getElem?_eq_getElem h]
  exact List.getElem_mem h
theorem asc_getD {ps : List Int} (h : Asc ps) {a b : Nat} (hab : a < b) (hb : b < ps.length) : ps.getD a 0 < ps.getD b 0 := by
  have ha : a < ps.length := by omega
  rw [List.getD_eq_getElem?_getD, List.getElem?_eq_getElem ha, List.getD_eq_getElem?_getD, List.getElem?_eq_getElem hb]
  exact (List.pairwise_iff_getElem.mp h) a b ha hb hab
theorem last_max {s : List Int} (h : Asc s) (hn : s ≠ []) : ∀ k ∈ s, k ≤ s.getLastD 0 := by
  intro k hk
  have e : s.getLast? = some (s.getLastD 0) := by
    rw [List.getLastD_eq_getLast?, List.getLast?_eq_getLast hn]
    rfl
  have e2 : s.head? = some (s.head hn) := List.head?_eq_head hn
  exact (asc_ends h e2 e k hk).2
theorem getLastD_snoc (s : List Int) (p : Int) : (s ++ [p]).getLastD 0 = p := by simp
theorem good_step {ps : List Int} (h : Asc ps) {m : Nat} {sf : List Int × Nat} (g : GoodSF ps m sf) : ∀ q ∈ pstep ps sf, GoodSF ps (m + 1) q := by
  intro q hq
  obtain ⟨a, ha, rfl⟩ := List.mem_map.mp hq
  have hr := List.mem_range'_1.mp ha
  have hal : a < ps.length := by omega
  refine ⟨by show a + 1 ≤ ps.length; omega, .inr ⟨by simp, by show 0 < a + 1; omega, ?_⟩, ?_, ?_, ?_⟩
  · show (sf.1 ++ [ps.getD a 0]).getLastD 0 = ps.getD (a + 1 - 1) 0
    rw [getLastD_snoc, Nat.add_sub_cancel]
  · show Asc (sf.1 ++ [ps.getD a 0])
    refine List.pairwise_append.mpr ⟨g.asc, by simp, fun x hx y hy => ?_⟩
    have ey : y = ps.getD a 0 := by simpa using hy
    subst ey
    rcases g.ends with ⟨e, _⟩ | ⟨e, p, l⟩
    · rw [e] at hx; cases hx
    · have h1 := last_max g.asc e x hx
      rw [l] at h1
      have h2 := asc_getD h (a := sf.2 - 1) (b := a) (by omega) hal
      omega
  · intro k hk
    rcases List.mem_append.mp hk with q | q
    · exact g.sub k q
    · have : k = ps.getD a 0 := by simpa using q
      rw [this]; exact getD_mem hal
  · show (sf.1 ++ [ps.getD a 0]).length = m + 1
    rw [List.length_append, g.len]; rfl
theorem good_line {ps : List Int} (h : Asc ps) : ∀ (m : Nat), ∀ q ∈ progLine ps m, GoodSF ps m q
  | 0, q, hq => by
    have e : q = ([], 0) := by simpa [progLine] using hq
    subst e
    exact ⟨Nat.zero_le _, .inl ⟨rfl, rfl⟩, List.Pairwise.nil, (fun k hk => by cases hk), rfl⟩
  | m + 1, q, hq => by
    obtain ⟨sf, h1, h2⟩ := List.mem_flatMap.mp hq
    exact good_step h (good_line h m sf h1) q h2
theorem drop_of_keep {ps : List Int} (h : Asc ps) {m : Nat} {sf : List Int × Nat} (g : GoodSF ps m sf) : ps.filter (lkeep sf.1) = ps.drop sf.2 := by
  have ad : Asc (ps.drop sf.2) := h.sublist (List.drop_sublist _ _)
  refine asc_ext (asc_filter _ h) ad fun k => ?_
  rw [List.mem_filter]
  rcases g.ends with ⟨e1, e2⟩ | ⟨e1, p, l⟩
  · rw [e1, e2]
    simp [lkeep]
  · have hne : sf.1.isEmpty = false := by
      cases hs : sf.1 with
      | nil => exact absurd hs e1
      | cons _ _ => rfl
    unfold lkeep
    rw [hne, Bool.false_or, decide_eq_true_eq, l]
    constructor
    · rintro ⟨hk, hlt⟩
      obtain ⟨i, hi, rfl⟩ := List.mem_iff_getElem.mp hk
      have e3 : ps.getD i 0 = ps[i] := by rw [List.getD_eq_getElem?_getD, List.getElem?_eq_getElem hi]; rfl
      have hge : sf.2 ≤ i := by
        refine Nat.le_of_not_lt fun hlt2 => ?_
        have le := g.le
        by_cases q : i = sf.2 - 1
        · rw [← q, e3] at hlt; omega
        · have := asc_getD h (a := i) (b := sf.2 - 1) (by omega) (by omega)
          rw [e3] at this
          omega
      refine List.mem_iff_getElem.mpr ⟨i - sf.2, by rw [List.length_drop]; omega, ?_⟩
      rw [List.getElem_drop]
      congr 1
      omega
    · intro hk
      obtain ⟨i, hi, rfl⟩ := List.mem_iff_getElem.mp hk
      rw [List.length_drop] at hi
      rw [List.getElem_drop]
      have hi2 : sf.2 + i < ps.length := by omega
      refine ⟨List.getElem_mem hi2, ?_⟩
      have e3 : ps.getD (sf.2 + i) 0 = ps[sf.2 + i] := by rw [List.getD_eq_getElem?_getD, List.getElem?_eq_getElem hi2]; rfl
      rw [← e3]
      exact asc_getD h (by omega) hi2
theorem map_range_getD (ps : List Int) : ∀ (n f : Nat), f + n = ps.length → (List.range' f n).map (fun a => ps.getD a 0) = ps.drop f
  | 0, f, h => by
    rw [List.drop_eq_nil_of_le (by omega)]
    rfl
  | n + 1, f, h => by
    have hf : f < ps.length := by omega
    rw [List.range'_succ, List.map_cons, map_range_getD ps n (f + 1) (by omega), List.drop_eq_getElem_cons hf]
    rw [List.getD_eq_getElem?_getD, List.getElem?_eq_getElem hf]
    rfl
theorem step_eq {ps : List Int} (h : Asc ps) {m : Nat} {sf : List Int × Nat} (g : GoodSF ps m sf) : (pstep ps sf).map (·.1) = lstep ps sf.1 := by
  unfold pstep lstep
  rw [drop_of_keep h g, ← map_range_getD ps (ps.length - sf.2) sf.2 (by have := g.le; omega), List.map_map, List.map_map]
  rfl
theorem line_eq {ps : List Int} (h : Asc ps) : ∀ m : Nat, (progLine ps m).map (·.1) = lawLine ps m
  | 0 => rfl
  | m + 1 => by
    show ((progLine ps m).flatMap (pstep ps)).map (·.1) = (lawLine ps m).flatMap (lstep ps)
    rw [← line_eq h m, List.map_flatMap, List.flatMap_map]
    have key : ∀ l : List (List Int × Nat), (∀ q ∈ l, GoodSF ps m q) → l.flatMap (fun a => (pstep ps a).map (·.1)) = l.flatMap (fun a => lstep ps a.1) := by
      intro l
      induction l with
      | nil => intro _; rfl
      | cons x r ih =>
        intro hg
        rw [List.flatMap_cons, List.flatMap_cons, ih fun q hq => hg q (List.mem_cons_of_mem _ hq), step_eq h (hg x List.mem_cons_self)]
    exact key _ (good_line h m)
/-! how many -/
def wt (n : Nat) (l : List (List Int × Nat)) : Nat := (l.map fun q => 2 ^ (n - q.2)).sum
theorem wt_append (n : Nat) (a b : List (List Int × Nat)) : wt n (a ++ b) = wt n a + wt n b := by
  unfold wt
  rw [List.map_append, List.sum_append]
theorem wt_range (g : Nat → List Int) : ∀ (k f n : Nat), f + k = n → wt n ((List.range' f k).map fun a => (g a, a + 1)) + 1 = 2 ^ k
  | 0, f, n, h => rfl
  | k + 1, f, n, h => by
    have ih := wt_range g k (f + 1) n (by omega)
    rw [List.range'_succ, List.map_cons]
    have e : wt n ((g f, f + 1) :: (List.range' (f + 1) k).map fun a => (g a, a + 1)) = 2 ^ (n - (f + 1)) + wt n ((List.range' (f + 1) k).map fun a => (g a, a + 1)) := by
      show ((2 ^ (n - (f + 1))) :: _).sum = _
      rw [List.sum_cons]
      rfl
    have e2 : n - (f + 1) = k := by omega
    rw [e, e2, Nat.pow_succ]
    omega
theorem wt_step {ps : List Int} {sf : List Int × Nat} (h : sf.2 ≤ ps.length) : wt ps.length (pstep ps sf) ≤ 2 ^ (ps.length - sf.2) := by
  have := wt_range (fun a => sf.1 ++ [ps.getD a 0]) (ps.length - sf.2) sf.2 ps.length (by omega)
  unfold pstep
  omega
theorem wt_line {ps : List Int} (h : Asc ps) : ∀ m : Nat, wt ps.length (progLine ps m) ≤ 2 ^ ps.length
  | 0 => by
    show 2 ^ (ps.length - 0) + 0 ≤ 2 ^ ps.length
    rw [Nat.sub_zero]
    exact Nat.le_refl _
  | m + 1 => by
    have ih := wt_line h m
    have key : ∀ l : List (List Int × Nat), (∀ q ∈ l, GoodSF ps m q) → wt ps.length (l.flatMap (pstep ps)) ≤ wt ps.length l := by
      intro l
      induction l with
      | nil => intro _; exact Nat.le_refl _
      | cons x r ih =>
        intro hg
        rw [List.flatMap_cons, wt_append]
        have a1 := wt_step (hg x List.mem_cons_self).le
        have a2 := ih fun q hq => hg q (List.mem_cons_of_mem _ hq)
        have e : wt ps.length (x :: r) = 2 ^ (ps.length - x.2) + wt ps.length r := by
          unfold wt
          rw [List.map_cons, List.sum_cons]
        omega
    exact Nat.le_trans (key _ (good_line h m)) ih
theorem len_wt (n : Nat) : ∀ l : List (List Int × Nat), l.length ≤ wt n l
  | [] => Nat.le_refl _
  | x :: r => by
    have := len_wt n r
    have h1 : 0 < 2 ^ (n - x.2) := Nat.pow_pos (by decide)
    have e : wt n (x :: r) = 2 ^ (n - x.2) + wt n r := by
      unfold wt
      rw [List.map_cons, List.sum_cons]
    rw [List.length_cons]
    omega
theorem len_line {ps : List Int} (h : Asc ps) (m : Nat) : (progLine ps m).length ≤ 2 ^ ps.length := Nat.le_trans (len_wt _ _) (wt_line h m)
/-! all of them is one of them -/
theorem whole_in (ps : List Int) : ∀ m : Nat, m ≤ ps.length → (ps.take m, m) ∈ progLine ps m
  | 0, _ => by simp [progLine]
  | m + 1, h => by
    refine List.mem_flatMap.mpr ⟨_, whole_in ps m (by omega), ?_⟩
    refine List.mem_map.mpr ⟨m, List.mem_range'_1.mpr ⟨Nat.le_refl _, by show m < m + (ps.length - m); omega⟩, ?_⟩
    show (ps.take m ++ [ps.getD m 0], m + 1) = _
    have hm : m < ps.length := by omega
    rw [List.take_add_one, List.getD_eq_getElem?_getD, List.getElem?_eq_getElem hm]
    rfl
/-! the first that comes to it -/
def hitM (lot fs s : List Int) : Bool := decide (inkM s fs = lot)
def lotsM (ps : List Int) (m : Nat) : List (List Int) := (progLine ps m).map (·.1)
def fewM (lot fs ps : List Int) : Option (List Int) := ((List.range (ps.length + 1)).flatMap (lotsM ps)).find? (hitM lot fs)
def lawFew (lot fs ps : List Int) : Option (List Int) := ((List.range (ps.length + 1)).flatMap (lawLine ps)).find? (hitM lot fs)
theorem few_eq {lot fs ps : List Int} (h : Asc ps) : lawFew lot fs ps = fewM lot fs ps := by
  unfold lawFew fewM
  have e : lawLine ps = lotsM ps := funext fun m => (line_eq h m).symm
  rw [e]
theorem lots_sub {ps : List Int} (h : Asc ps) {m : Nat} {s : List Int} (hs : s ∈ lotsM ps m) : Asc s ∧ (∀ k ∈ s, k ∈ ps) ∧ s.length = m := by
  obtain ⟨q, hq, rfl⟩ := List.mem_map.mp hs
  have g := good_line h m q hq
  exact ⟨g.asc, g.sub, g.len⟩
theorem len_lots {ps : List Int} (h : Asc ps) (m : Nat) : (lotsM ps m).length ≤ 2 ^ ps.length := by
  unfold lotsM
  rw [List.length_map]
  exact len_line h m
theorem flat_split {f : Nat → List (List Int)} : ∀ {n m : Nat}, m < n → (List.range n).flatMap f = (List.range m).flatMap f ++ (f m ++ ((List.range' (m + 1) (n - (m + 1))).flatMap f)) := fun {n m} h => by
  have e : List.range n = List.range m ++ (m :: List.range' (m + 1) (n - (m + 1))) := by
    rw [List.range_eq_range', List.range_eq_range', ← List.range'_succ]
    have e2 : n = m + (n - (m + 1) + 1) := by omega
    conv => lhs; rw [e2]
    have := @List.range'_append_1 0 m (n - (m + 1) + 1)
    rw [Nat.zero_add] at this
    exact this.symm
  rw [e, List.flatMap_append, List.flatMap_cons]
theorem find_after {p : List Int → Bool} {a b c : List (List Int)} {s : List Int} (ha : ∀ t ∈ a, p t = false) (hb : ∀ t ∈ b, p t = false) (hs : p s = true) : (a ++ ((b ++ s :: c))).find? p = some s := by
  rw [List.find?_append, List.find?_append, List.find?_cons, hs]
  have e1 : a.find? p = none := List.find?_eq_none.mpr fun t ht => by rw [ha t ht]; decide
  have e2 : b.find? p = none := List.find?_eq_none.mpr fun t ht => by rw [hb t ht]; decide
  rw [e1, e2]
  rfl
theorem few_hit {f : Nat → List (List Int)} {p : List Int → Bool} {n m i : Nat} {s : List Int} (hm : m < n) (hi : (f m)[i]? = some s) (h1 : ∀ m' < m, ∀ t ∈ f m', p t = false) (h2 : ∀ t ∈ (f m).take i, p t = false) (hs : p s = true) :
    ((List.range n).flatMap f).find? p = some s := by
  rw [flat_split hm]
  have hlt : i < (f m).length := (List.getElem?_eq_some_iff.mp hi).1
  have e : f m = (f m).take i ++ s :: (f m).drop (i + 1) := by
    have q := (List.take_append_drop i (f m)).symm
    rw [List.drop_eq_getElem_cons hlt, (List.getElem?_eq_some_iff.mp hi).2] at q
    exact q
  rw [e, List.append_assoc, List.cons_append]
  refine find_after (fun t ht => ?_) h2 hs
  obtain ⟨m', hm', ht'⟩ := List.mem_flatMap.mp ht
  exact h1 m' (List.mem_range.mp hm') t ht'
theorem few_none {f : Nat → List (List Int)} {p : List Int → Bool} {n : Nat} (h1 : ∀ m' < n, ∀ t ∈ f m', p t = false) : ((List.range n).flatMap f).find? p = none := by
  refine List.find?_eq_none.mpr fun t ht => ?_
  obtain ⟨m', hm', ht'⟩ := List.mem_flatMap.mp ht
  rw [h1 m' (List.mem_range.mp hm') t ht']
  decide
theorem few_iff {lot fs : List Int} (h : Asc lot) : fewM lot fs (gM lot fs) = none ↔ inkM (gM lot fs) fs ≠ lot := by
  have hg := asc_gM (fs := fs) h
  constructor
  · intro e hq
    have n := List.find?_eq_none.mp e
    refine n (gM lot fs) (List.mem_flatMap.mpr ⟨(gM lot fs).length, List.mem_range.mpr (Nat.lt_succ_self _), List.mem_map.mpr ⟨_, whole_in (gM lot fs) (gM lot fs).length (Nat.le_refl _), ?_⟩⟩) ?_
    · exact List.take_length
    · exact decide_eq_true hq
  · intro hq
    refine few_none fun m' _ t ht => ?_
    obtain ⟨a1, a2, _⟩ := lots_sub hg ht
    refine decide_eq_false fun e => hq ?_
    refine asc_ext (asc_inkM hg) h fun k => ⟨fun q => ink_gM_sub k q, fun q => ?_⟩
    rw [← e] at q
    exact inkM_sub a2 k q
theorem few_mem {lot fs ps s : List Int} (h : fewM lot fs ps = some s) (hp : Asc ps) : Asc s := by
  obtain ⟨m, _, hm⟩ := List.mem_flatMap.mp (List.mem_of_find?_eq_some h)
  exact (lots_sub hp hm).1
end K46

/-! K2: the text by places, what the top has written. -/
namespace K46
open PySem PySem.Spec PyProof.Rows L2
def topS (i : Nat) : Stmt := PySem.Challenge.pw_wetfolds_k46_whole_greatest_lots.main.body.getD i (.Pass ⟨0, 0, 0, 0⟩)
abbrev sInit : Stmt := inClass (topS 3) 0
abbrev sWhole : Stmt := topS 8
abbrev sTupOf : Stmt := topS 9
abbrev sCrease : Stmt := topS 10
abbrev sFoldsF : Stmt := topS 11
abbrev sNeedF : Stmt := topS 12
abbrev sLotF : Stmt := topS 17
abbrev sInked : Stmt := topS 18
abbrev sNeedL : Stmt := topS 19
abbrev sInkedBy : Stmt := topS 20
abbrev sGreatIn : Stmt := topS 23
abbrev sLotsW : Stmt := topS 24
abbrev sGreatL : Stmt := topS 25
abbrev sComes : Stmt := topS 26
abbrev sFewest : Stmt := topS 27
abbrev sCup : Stmt := topS 29
abbrev sRoll : Stmt := topS 30
abbrev sSome : Stmt := topS 31
abbrev sFolds : Stmt := topS 32
abbrev sLInk : Stmt := topS 33
abbrev sLLot : Stmt := topS 34
abbrev sError : Stmt := topS 35
abbrev sLGreat : Stmt := topS 36
abbrev sLFew : Stmt := topS 37
abbrev sRight : Stmt := topS 38
abbrev sTwo : Stmt := topS 39
abbrev sLaw : Stmt := topS 40
/-! ### where things stand -/
structure Df where
  a : Addr
  fd : FuncData
structure Ad where
  whole : Df
  tupOf : Df
  crease : Df
  foldsF : Df
  needF : Df
  lotF : Df
  inked : Df
  needL : Df
  inkedBy : Df
  greatIn : Df
  lotsW : Df
  greatL : Df
  comes : Df
  fewest : Df
  cup : Df
  roll : Df
  some_ : Df
  folds : Df
  lInk : Df
  lLot : Df
  error : Df
  lGreat : Df
  lFew : Df
  right : Df
  two : Df
  init : Df
  cErr : Addr
  cFolds : Addr
  cMany : Addr
  cLot : Addr
structure DefAt (K : PySem.W.Frag) (mg : Str → Option Value) (name : Str) (st : Stmt) (ps : List Str) (d : Df) : Prop where
  fn : Fun K name name st d.a d.fd
  mg : mg name = some (.ref d.a)
  bd : Binds K d.fd ps []
/-- an own class of errors -/
structure ErrC (K : PySem.W.Frag) (mg : Str → Option Value) (name : Str) (C : Addr) : Prop where
  mg : mg name = some (.ref C)
  kC : PySem.W.keepIn K (.ref C) = true
  exC : PySem.W.subIn K (.ref C) (.type "BaseException") = some true
  tyC : PySem.W.typeIn K (.ref C) = some (.type "type")
  isC : PySem.W.isClsIn K C = true
structure Txt (K : PySem.W.Frag) (mg : Str → Option Value) (a : Ad) : Prop where
  whole : DefAt K mg "is_whole" sWhole ["value", "low", "high"] a.whole
  tupOf : DefAt K mg "is_tuple_of" sTupOf ["value", "low", "high"] a.tupOf
  crease : DefAt K mg "fits_crease" sCrease ["value"] a.crease
  foldsF : DefAt K mg "fits_folds" sFoldsF ["value"] a.foldsF
  needF : DefAt K mg "need_folds" sNeedF ["value"] a.needF
  lotF : DefAt K mg "fits_lot" sLotF ["value"] a.lotF
  inked : DefAt K mg "inked" sInked ["lot", "folds"] a.inked
  needL : DefAt K mg "need_lot" sNeedL ["value"] a.needL
  inkedBy : DefAt K mg "inked_by" sInkedBy ["lot", "folds"] a.inkedBy
  greatIn : DefAt K mg "greatest_in" sGreatIn ["lot", "folds"] a.greatIn
  lotsW : DefAt K mg "lots_with" sLotsW ["places", "many"] a.lotsW
  greatL : DefAt K mg "greatest_lot" sGreatL ["lot", "folds"] a.greatL
  comes : DefAt K mg "comes_of_some" sComes ["lot", "folds"] a.comes
  fewest : DefAt K mg "fewest_before" sFewest ["lot", "folds"] a.fewest
  cup : DefAt K mg "_law_cup" sCup ["_law_script"] a.cup
  roll : DefAt K mg "_law_roll" sRoll ["_law_cup_here", "_law_many"] a.roll
  some_ : DefAt K mg "_law_some" sSome ["_law_cup_here", "_law_things"] a.some_
  folds : DefAt K mg "_law_folds" sFolds ["_law_cup_here", "_law_most"] a.folds
  lInk : DefAt K mg "_law_inked" sLInk ["_law_places", "_law_folds_here"] a.lInk
  lLot : DefAt K mg "_law_lot" sLLot ["_law_cup_here", "_law_most"] a.lLot
  error : DefAt K mg "_law_error" sError ["_law_call"] a.error
  lGreat : DefAt K mg "_law_greatest" sLGreat ["_law_lot_here", "_law_folds_here"] a.lGreat
  lFew : DefAt K mg "_law_fewest" sLFew ["_law_lot_here", "_law_folds_here", "_law_places"] a.lFew
  right : DefAt K mg "_law_right" sRight ["_law_lot_here", "_law_folds_here"] a.right
  two : DefAt K mg "_law_two_right" sTwo ["_law_one", "_law_other", "_law_folds_here"] a.two
  eFolds : ErrC K mg "InvalidFolds" a.cFolds
  eMany : ErrC K mg "TooMany" a.cMany
  eLot : ErrC K mg "InvalidLot" a.cLot
  eErr : ErrC K mg "FoldError" a.cErr
  xFolds : PySem.W.excIn K a.cFolds [.type "ValueError", .type "Exception", .type "BaseException", .type "object"] "ValueError.__new__" = true
  xLot : PySem.W.excIn K a.cLot [.type "ValueError", .type "Exception", .type "BaseException", .type "object"] "ValueError.__new__" = true
  cCrease : ∃ t, mg "CREASE" = some (.int 1000000 t)
  cFOLDS : ∃ t, mg "FOLDS" = some (.int 12 t)
  cPLACES : ∃ t, mg "PLACES_inkedplaces" = some (.int 256 t)
  cFAR : ∃ t, mg "FARTHEST" = some (.int 100000 t)
  cMOST : ∃ t, mg "MOST" = some (.int 10000 t)
  cP14 : ∃ t, mg "PLACES_greatestlots" = some (.int 14 t)
  bIsi : mg "isinstance" = none
  bInt : mg "int" = none
  bBool : mg "bool" = none
  bTuple : mg "tuple" = none
  bLen : mg "len" = none
  bAll : mg "all" = none
  bZip : mg "zip" = none
  bList : mg "list" = none
  bSorted : mg "sorted" = none
  bSet : mg "set" = none
  bDict : mg "dict" = none
  bRange : mg "range" = none
  bAbs : mg "abs" = none
  bStr : mg "str" = none
  bSuper : mg "super" = none
section
variable {P : Program} {w : World} {K : PySem.W.Frag} {mg : Str → Option Value} {base : Heap} {a : Ad}
/-! ### is_whole -/
theorem scWhole : FnScope ["value", "low", "high"] ["value", "low", "high"] (defScope sWhole) := ⟨rfl, rfl, rfl, by decide +kernel, rfl, by decide +kernel, by decide +kernel⟩
def wholeV (lo hi : Int) : V → Option Bool
  | .int n => some (decide (lo ≤ n) && decide (n ≤ hi))
  | .bl _ => some false
  | _ => none
def spWhole : Sp := fun vs H Q _ => ∃ (v : V) (lo hi : Int) (b : Bool), vs = [v, .int lo, .int hi] ∧ wholeV lo hi v = some b ∧ Q (.bl b) H
theorem ok_whole (T : Txt K mg a) : FnOk P w K mg base CX0 1 a.whole.a a.whole.fd ["value", "low", "high"] spWhole := by
  refine T.whole.fn.ok scWhole (fun vs H Q E h => ?_) (fun cdv A outer s H vs Q E hr h => ?_)
  · obtain ⟨v, lo, hi, b, rfl, _⟩ := h
    rfl
  · obtain ⟨v, lo, hi, b, rfl, hw, q⟩ := h
    refine ⟨_, pss_one (ps_ret (pe_and (pe_callB call_isi (by rfl) T.bIsi boot_isinstance (pa_cons (pv 0) (pa_cons (pe_bltn (v := .ty "int") (by rfl) T.bInt boot_int rfl) pa_nil)))
      (pe_and (pe_not (pe_callB call_isi (by rfl) T.bIsi boot_isinstance (pa_cons (pv 0) (pa_cons (pe_bltn (v := .ty "bool") (by rfl) T.bBool boot_bool rfl) pa_nil))))
        (pe_one (pe_chain op_le op_le (pv 1) (pv 0) (pv 2)))))), ?_⟩
    cases v with
    | int n =>
      have e : (decide (lo ≤ n) && decide (n ≤ hi)) = b := Option.some.inj hw
      refine ⟨.int n, rfl, .int n, .ty "int", _, _, true, rfl, .ty _, .base (.int n), kit_ty (by decide +kernel), true, rfl, iteT ?_⟩
      refine ⟨.int n, rfl, .int n, .ty "bool", _, _, false, rfl, .ty _, .base (.int n), kit_ty (by decide +kernel), false, rfl, true, rfl, iteT ?_⟩
      refine ⟨.int lo, rfl, .int n, rfl, lo, n, rfl, rfl, decide (lo ≤ n), rfl, ?_⟩
      cases h1 : decide (lo ≤ n) with
      | true =>
        refine iteT ⟨.int hi, rfl, n, hi, rfl, rfl, ?_⟩
        rw [h1, Bool.true_and] at e
        rw [← e] at q
        exact q
      | false =>
        rw [h1, Bool.false_and] at e
        rw [← e] at q
        exact iteF q
    | bl x =>
      have e : false = b := Option.some.inj hw
      refine ⟨.bl x, rfl, .bl x, .ty "int", _, _, true, rfl, .ty _, .base (.bl x), kit_ty (by decide +kernel), true, rfl, iteT ?_⟩
      refine ⟨.bl x, rfl, .bl x, .ty "bool", _, _, true, rfl, .ty _, .base (.bl x), kit_ty (by decide +kernel), true, rfl, false, rfl, iteF ?_⟩
      rw [← e] at q
      exact q
    | non => cases hw
    | str _ => cases hw
    | byt _ => cases hw
    | flt _ => cases hw
    | ref _ => cases hw
    | ty _ => cases hw
end
end K46

/-! K3: shapes of values, and what a reading gives by them. -/
namespace K46
open PySem PySem.Spec PyProof.Rows L2 Evl
/-- what a value is, seen through the heap: a flat one, a tuple, a list -/
inductive Sh where
  | v (x : V)
  | t (ss : List Sh)
  | l (ss : List Sh)
mutual
def Is : Sh → V → Hp → Prop
  | .v w, x, _ => x = w
  | .t ss, x, H => ∃ p xs, x = .ref p ∧ H p = some (.tup xs) ∧ IsA ss xs H
  | .l ss, x, H => ∃ p xs, x = .ref p ∧ H p = some (.lst xs) ∧ IsA ss xs H
def IsA : List Sh → List V → Hp → Prop
  | [], xs, _ => xs = []
  | s :: ss, xs, H => ∃ x r, xs = x :: r ∧ Is s x H ∧ IsA ss r H
end
mutual
theorem Is.mono {H H' : Hp} (e : Ex H H') : ∀ {s : Sh} {x : V}, Is s x H → Is s x H'
  | .v w, x, h => by simpa only [Is] using h
  | .t ss, x, h => by
    simp only [Is] at h ⊢
    obtain ⟨p, xs, e1, e2, e3⟩ := h
    exact ⟨p, xs, e1, e p _ e2, IsA.mono e e3⟩
  | .l ss, x, h => by
    simp only [Is] at h ⊢
    obtain ⟨p, xs, e1, e2, e3⟩ := h
    exact ⟨p, xs, e1, e p _ e2, IsA.mono e e3⟩
theorem IsA.mono {H H' : Hp} (e : Ex H H') : ∀ {ss : List Sh} {xs : List V}, IsA ss xs H → IsA ss xs H'
  | [], xs, h => by simpa only [IsA] using h
  | s :: ss, xs, h => by
    simp only [IsA] at h ⊢
    obtain ⟨x, r, e1, e2, e3⟩ := h
    exact ⟨x, r, e1, Is.mono e e2, IsA.mono e e3⟩
end
theorem is_v {w x : V} {H : Hp} : Is (.v w) x H ↔ x = w := by simp only [Is]
theorem is_t {ss : List Sh} {x : V} {H : Hp} : Is (.t ss) x H ↔ ∃ p xs, x = .ref p ∧ H p = some (.tup xs) ∧ IsA ss xs H := by simp only [Is]
theorem is_l {ss : List Sh} {x : V} {H : Hp} : Is (.l ss) x H ↔ ∃ p xs, x = .ref p ∧ H p = some (.lst xs) ∧ IsA ss xs H := by simp only [Is]
theorem isA_nil {xs : List V} {H : Hp} : IsA [] xs H ↔ xs = [] := by simp only [IsA]
theorem isA_cons {s : Sh} {ss : List Sh} {xs : List V} {H : Hp} : IsA (s :: ss) xs H ↔ ∃ x r, xs = x :: r ∧ Is s x H ∧ IsA ss r H := by simp only [IsA]
theorem isA_len {H : Hp} : ∀ {ss : List Sh} {xs : List V}, IsA ss xs H → xs.length = ss.length
  | [], xs, h => by rw [isA_nil.mp h]; rfl
  | s :: ss, xs, h => by
    obtain ⟨x, r, rfl, _, h2⟩ := isA_cons.mp h
    rw [List.length_cons, isA_len h2]; rfl
theorem isA_get {H : Hp} : ∀ {ss : List Sh} {xs : List V} {i : Nat} {s : Sh}, IsA ss xs H → ss[i]? = some s → ∃ x, xs[i]? = some x ∧ Is s x H
  | [], _, _, _, _, e => by simp at e
  | s :: ss, xs, 0, s', h, e => by
    obtain ⟨x, r, rfl, h1, _⟩ := isA_cons.mp h
    have : s = s' := by simpa using e
    subst this
    exact ⟨x, rfl, h1⟩
  | s :: ss, xs, i + 1, s', h, e => by
    obtain ⟨x, r, rfl, _, h2⟩ := isA_cons.mp h
    obtain ⟨y, e1, e2⟩ := isA_get (i := i) h2 (by simpa using e)
    exact ⟨y, by simpa using e1, e2⟩
theorem isA_app {H : Hp} : ∀ {ss ts : List Sh} {xs ys : List V}, IsA ss xs H → IsA ts ys H → IsA (ss ++ ts) (xs ++ ys) H
  | [], _, xs, ys, h, h2 => by rw [isA_nil.mp h]; exact h2
  | s :: ss, ts, xs, ys, h, h2 => by
    obtain ⟨x, r, rfl, h1, h3⟩ := isA_cons.mp h
    exact isA_cons.mpr ⟨x, r ++ ys, rfl, h1, isA_app h3 h2⟩
theorem isA_drop {H : Hp} : ∀ {ss : List Sh} {xs : List V} (n : Nat), IsA ss xs H → IsA (ss.drop n) (xs.drop n) H
  | _, _, 0, h => h
  | [], xs, n + 1, h => by rw [isA_nil.mp h]; exact isA_nil.mpr rfl
  | s :: ss, xs, n + 1, h => by
    obtain ⟨x, r, rfl, _, h3⟩ := isA_cons.mp h
    exact isA_drop n h3
theorem isA_take {H : Hp} : ∀ {ss : List Sh} {xs : List V} (n : Nat), IsA ss xs H → IsA (ss.take n) (xs.take n) H
  | _, _, 0, h => isA_nil.mpr rfl
  | [], xs, n + 1, h => by rw [isA_nil.mp h]; exact isA_nil.mpr rfl
  | s :: ss, xs, n + 1, h => by
    obtain ⟨x, r, rfl, h1, h3⟩ := isA_cons.mp h
    exact isA_cons.mpr ⟨x, r.take n, rfl, h1, isA_take n h3⟩
/-- lists of whole numbers -/
def shI (n : Int) : Sh := .v (.int n)
def shs (ns : List Int) : List Sh := ns.map shI
def tI (ns : List Int) : Sh := .t (shs ns)
def lI (ns : List Int) : Sh := .l (shs ns)
theorem isA_shs {H : Hp} : ∀ {ns : List Int} {xs : List V}, IsA (shs ns) xs H ↔ xs = ns.map V.int
  | [], xs => isA_nil
  | n :: ns, xs => by
    show IsA (.v (.int n) :: shs ns) xs H ↔ _
    rw [isA_cons]
    constructor
    · rintro ⟨x, r, rfl, h1, h2⟩
      rw [is_v.mp h1, isA_shs.mp h2]; rfl
    · intro h
      exact ⟨.int n, ns.map V.int, h, is_v.mpr rfl, isA_shs.mpr rfl⟩
theorem is_tI {ns : List Int} {x : V} {H : Hp} : Is (tI ns) x H ↔ ∃ p, x = .ref p ∧ H p = some (.tup (ns.map V.int)) := by
  unfold tI
  rw [is_t]
  constructor
  · rintro ⟨p, xs, e1, e2, e3⟩
    rw [isA_shs] at e3
    subst e3
    exact ⟨p, e1, e2⟩
  · rintro ⟨p, e1, e2⟩
    exact ⟨p, _, e1, e2, isA_shs.mpr rfl⟩
theorem is_lI {ns : List Int} {x : V} {H : Hp} : Is (lI ns) x H ↔ ∃ p, x = .ref p ∧ H p = some (.lst (ns.map V.int)) := by
  unfold lI
  rw [is_l]
  constructor
  · rintro ⟨p, xs, e1, e2, e3⟩
    rw [isA_shs] at e3
    subst e3
    exact ⟨p, e1, e2⟩
  · rintro ⟨p, e1, e2⟩
    exact ⟨p, _, e1, e2, isA_shs.mpr rfl⟩

/-! ### readings by shapes -/
def EvS (te : TE) (σ : L2.St) (H : Hp) (s : Sh) : Prop := ∀ H1, Ex H H1 → ∀ Q : VK, (∀ v H2, Ex H1 H2 → Is s v H2 → Q v H2) → te σ H1 Q
def EvAS (ta : TA) (σ : L2.St) (H : Hp) (ss : List Sh) : Prop := ∀ H1, Ex H H1 → ∀ Q : List V → Hp → Prop, (∀ vs H2, Ex H1 H2 → IsA ss vs H2 → Q vs H2) → ta σ H1 Q
def RS (r : R2) (s1 s2 s3 : Sh) : Prop := ∀ x y H, Is s1 x H → Is s2 y H → ∀ Q : VK, (∀ v H2, Ex H H2 → Is s3 v H2 → Q v H2) → r x y H Q
def RUS (r : V → Hp → VK → Prop) (s1 s3 : Sh) : Prop := ∀ x H, Is s1 x H → ∀ Q : VK, (∀ v H2, Ex H H2 → Is s3 v H2 → Q v H2) → r x H Q
def RCS (r : List V → Hp → VK → Prop) (ss : List Sh) (s3 : Sh) : Prop := ∀ vs H, IsA ss vs H → ∀ Q : VK, (∀ v H2, Ex H H2 → Is s3 v H2 → Q v H2) → r vs H Q
def SpS (sp : Sp) (ss : List Sh) (s3 : Sh) : Prop := ∀ vs H, IsA ss vs H → ∀ Q : VK, (∀ v H2, Ex H H2 → Is s3 v H2 → Q v H2) → ∀ E : XK, sp vs H Q E
section
variable {K : PySem.W.Frag} {σ : L2.St} {H H' : Hp} {ta tb te tx : TE} {t u : TT} {x y z v : V} {r : R2} {s s1 s2 s3 : Sh} {ss : List Sh}
theorem EvS.mono (e : Ex H H') (h : EvS te σ H s) : EvS te σ H' s := fun H1 a Q q => h H1 (e.trans a) Q q
theorem EvAS.mono {ta : TA} (e : Ex H H') (h : EvAS ta σ H ss) : EvAS ta σ H' ss := fun H1 a Q q => h H1 (e.trans a) Q q
theorem es_ev (h : Ev te σ H v) : EvS te σ H (.v v) := fun H1 e Q q => h H1 e Q fun H2 e2 => q v H2 e2 (is_v.mpr rfl)
theorem ev_es (h : EvS te σ H (.v v)) : Ev te σ H v := fun H1 e Q q => h H1 e Q fun x H2 e2 i => by
  rw [is_v.mp i]
  exact q H2 e2
theorem es_var {i : Nat} (h : σ[i]? = some (some v)) (hs : Is s v H) : EvS (tVar i) σ H s := fun H1 e Q q => ⟨v, h, q v H1 (Ex.refl H1) (hs.mono e)⟩
theorem es_c : EvS (tC v) σ H (.v v) := es_ev ev_c
theorem es_op (ha : EvS ta σ H s1) (hb : EvS tb σ H s2) (hr : RS r s1 s2 s3) : EvS (tOp r ta tb) σ H s3 := fun H1 e Q q =>
  ha H1 e _ fun x H2 e2 i2 => hb H2 (e.trans e2) _ fun y H3 e3 i3 => hr x y H3 (i2.mono e3) i3 Q fun v H4 e4 i4 => q v H4 ((e2.trans e3).trans e4) i4
theorem es_un {r : V → Hp → VK → Prop} (ha : EvS ta σ H s1) (hr : RUS r s1 s3) : EvS (tUn r ta) σ H s3 := fun H1 e Q q =>
  ha H1 e _ fun x H2 e2 i2 => hr x H2 i2 Q fun v H4 e4 i4 => q v H4 (e2.trans e4) i4
theorem es_nil : EvAS tNil σ H [] := fun H1 _ _ q => q [] H1 (Ex.refl H1) (isA_nil.mpr rfl)
theorem es_cons {tr : TA} (h : EvS ta σ H s) (hr : EvAS tr σ H ss) : EvAS (tCons ta tr) σ H (s :: ss) := fun H1 e _ q =>
  h H1 e _ fun x H2 e2 i2 => hr H2 (e.trans e2) _ fun vs H3 e3 i3 => q _ H3 (e2.trans e3) (isA_cons.mpr ⟨x, vs, rfl, i2.mono e3, i3⟩)
theorem es_cb {r : List V → Hp → VK → Prop} {ta : TA} (h : EvAS ta σ H ss) (hr : RCS r ss s3) : EvS (tCB r ta) σ H s3 := fun H1 e Q q =>
  h H1 e _ fun vs H2 e2 i2 => hr vs H2 i2 Q fun v H3 e3 i3 => q v H3 (e2.trans e3) i3
theorem es_call {sp : Sp} {E : XK} {ta : TA} (h : EvAS ta σ H ss) (hs : SpS sp ss s3) : EvS (tCall sp [] E ta) σ H s3 := fun H1 e Q q =>
  h H1 e _ fun vs H2 e2 i2 => by
    show sp (vs ++ []) H2 Q E
    rw [List.append_nil]
    exact hs vs H2 i2 Q (fun v H3 e3 i3 => q v H3 (e2.trans e3) i3) E
theorem es_callS {sp : Sp} {E : L2.St → XK} {ta : TA} (h : EvAS ta σ H ss) (hs : SpS sp ss s3) : EvS (tCallS sp E ta) σ H s3 := fun H1 e Q q =>
  h H1 e _ fun vs H2 e2 i2 => hs vs H2 i2 Q (fun v H3 e3 i3 => q v H3 (e2.trans e3) i3) (E σ)
theorem es_tup {ta : TA} (h : EvAS ta σ H ss) (hl : ss.length ≤ 100000) : EvS (tTup ta) σ H (.t ss) := fun H1 e _ q =>
  h H1 e _ fun vs H2 e2 i2 => ⟨sz_of (by rw [isA_len i2]; exact hl), fun p hp => q _ _ (e2.trans (Ex.new hp)) (is_t.mpr ⟨p, vs, rfl, upd_same, i2.mono (Ex.new hp)⟩)⟩
theorem es_lst {ta : TA} (h : EvAS ta σ H ss) (hl : ss.length ≤ 100000) : EvS (tLst ta) σ H (.l ss) := fun H1 e _ q =>
  h H1 e _ fun vs H2 e2 i2 => ⟨sz_of (by rw [isA_len i2]; exact hl), fun p hp => q _ _ (e2.trans (Ex.new hp)) (is_l.mpr ⟨p, vs, rfl, upd_same, i2.mono (Ex.new hp)⟩)⟩
theorem es_is (h : EvS te σ H s) (e : s = s1) : EvS te σ H s1 := e ▸ h
theorem es_if {b : Bool} (h : EvT t σ H b) (h1 : b = true → EvS ta σ H s) (h2 : b = false → EvS tb σ H s) : EvS (tIf t ta tb) σ H s := fun H1 e Q q => h H1 e _ fun H2 e2 => by
  cases b with
  | true =>
    show ta σ H2 Q
    exact h1 rfl H2 (e.trans e2) Q fun v H3 e3 => q v H3 (e2.trans e3)
  | false =>
    show tb σ H2 Q
    exact h2 rfl H2 (e.trans e2) Q fun v H3 e3 => q v H3 (e2.trans e3)
theorem et_S {b : Bool} (h : EvS te σ H (.v (.bl b))) : EvT (tB te) σ H b := et_B (ev_es h)
theorem et_T {b : Bool} (h : EvS te σ H (.v (.bl b))) : EvT (tTest te) σ H b := et_test (ev_es h)
theorem es_and {a b : Bool} (h1 : EvS ta σ H (.v (.bl a))) (h2 : a = true → EvS tb σ H (.v (.bl b))) : EvS (tAndV ta tb) σ H (.v (.bl (a && b))) := es_ev (ev_andV (ev_es h1) fun e => ev_es (h2 e))
theorem es_not {a : Bool} (h1 : EvS ta σ H (.v (.bl a))) : EvS (tNotV ta) σ H (.v (.bl (!a))) := es_ev (ev_notV (ev_es h1))
theorem es_chain {r r' : R2} {tc : TE} {a b : Bool} (ha : EvS ta σ H s1) (hb : EvS tb σ H s2) (hr : RS r s1 s2 (.v (.bl a))) (hc : a = true → EvS tc σ H s3) (hr' : a = true → RS r' s2 s3 (.v (.bl b))) :
    EvS (tChain r r' ta tb tc) σ H (.v (.bl (a && b))) := fun H1 e Q q =>
  ha H1 e _ fun x H2 e2 i2 => hb H2 (e.trans e2) _ fun y H3 e3 i3 => hr x y H3 (i2.mono e3) i3 _ fun v H4 e4 i4 => ⟨a, is_v.mp i4, by
    cases a with
    | true =>
      show tc σ H4 fun w' H5 => r' y w' H5 Q
      exact hc rfl H4 (((e.trans e2).trans e3).trans e4) _ fun z H5 e5 i5 => hr' rfl y z H5 ((i3.mono e4).mono e5) i5 Q fun v H6 e6 i6 => q v H6 ((((e2.trans e3).trans e4).trans e5).trans e6) i6
    | false =>
      show Q (.bl false) H4
      exact q _ H4 ((e2.trans e3).trans e4) (is_v.mpr rfl)⟩
/-! statements -/
variable {D : Ends} {tu tw tz : TS}
theorem qs_asg {i : Nat} (h : EvS te σ H s) (k : ∀ v H1, Ex H H1 → Is s v H1 → tz D (σ.set i (some v)) H1) : tSeq (tAsg te (gName i)) tz D σ H := h H (Ex.refl H) _ fun v H1 e i => k v H1 e i
theorem ss_asg {i : Nat} (h : EvS te σ H s) (k : ∀ v H1, Ex H H1 → Is s v H1 → D.nx (σ.set i (some v)) H1) : tAsg te (gName i) D σ H := h H (Ex.refl H) _ fun v H1 e i => k v H1 e i
theorem ss_ret (h : EvS te σ H s) (k : ∀ v H1, Ex H H1 → Is s v H1 → D.rt v H1) : tRet te D σ H := h H (Ex.refl H) _ fun v H1 e i => k v H1 e i
theorem qs_par {i j : Nat} {ta : TA} (h : EvAS ta σ H [s1, s2]) (k : ∀ v w H1, Ex H H1 → Is s1 v H1 → Is s2 w H1 → tz D ((σ.set i (some v)).set j (some w)) H1) : tSeq (tPar i j ta) tz D σ H := h H (Ex.refl H) _ fun vs H1 e i2 => by
  obtain ⟨v, r1, rfl, i1, i3⟩ := isA_cons.mp i2
  obtain ⟨w, r2, rfl, i4, i5⟩ := isA_cons.mp i3
  rw [isA_nil.mp i5]
  exact ⟨v, w, rfl, k v w H1 e i1 i4⟩
theorem qs_drop (h : EvS te σ H s) (k : ∀ H1, Ex H H1 → tz D σ H1) : tSeq (tDrop te) tz D σ H := h H (Ex.refl H) _ fun v H1 e i => k H1 e

/-! ### operations by shapes -/
theorem rs_I0 {g : Int → Int → V} {i j : Int} : RS (rI0 g) (shI i) (shI j) (.v (g i j)) := fun x y H h1 h2 Q q => ⟨i, j, is_v.mp h1, is_v.mp h2, q _ H (Ex.refl H) (is_v.mpr rfl)⟩
theorem rs_I {C : Int → Int → Prop} {g : Int → Int → V} {i j : Int} (hc : C i j) : RS (rI C g) (shI i) (shI j) (.v (g i j)) := fun x y H h1 h2 Q q => ⟨i, j, is_v.mp h1, is_v.mp h2, hc, q _ H (Ex.refl H) (is_v.mpr rfl)⟩
theorem rus_neg {i : Int} : RUS (rU fun i => .int (-i)) (shI i) (shI (-i)) := fun x H h1 Q q => ⟨i, is_v.mp h1, q _ H (Ex.refl H) (is_v.mpr rfl)⟩
theorem rs_eq (h : scal x y = true) : RS rEq (.v x) (.v y) (.v (.bl (decide (x = y)))) := fun x' y' H h1 h2 Q q => by
  rw [is_v.mp h1, is_v.mp h2]
  exact ⟨h, q _ H (Ex.refl H) (is_v.mpr rfl)⟩
theorem rs_ne (h : scal x y = true) : RS rNe (.v x) (.v y) (.v (.bl (!decide (x = y)))) := fun x' y' H h1 h2 Q q => by
  rw [is_v.mp h1, is_v.mp h2]
  exact ⟨h, q _ H (Ex.refl H) (is_v.mpr rfl)⟩
theorem atI_is {ss : List Sh} {xs : List V} {i : Int} {s : Sh} (h : IsA ss xs H) (ha : atI ss i = some s) : ∃ x, atI xs i = some x ∧ Is s x H := by
  unfold atI at ha ⊢
  rw [isA_len h]
  cases e : ixN ss.length i with
  | none => rw [e] at ha; cases ha
  | some j =>
    rw [e] at ha
    exact isA_get h ha
theorem rs_ixT {ss : List Sh} {i : Int} (ha : atI ss i = some s) : RS (rIxT K) (.t ss) (shI i) s := fun x y H h1 h2 Q q => by
  obtain ⟨p, xs, rfl, e2, e3⟩ := is_t.mp h1
  obtain ⟨z, e4, e5⟩ := atI_is e3 ha
  exact ⟨p, xs, i, z, rfl, is_v.mp h2, SqT.of e2, e4, q _ H (Ex.refl H) e5⟩
theorem rs_ixL {ss : List Sh} {i : Int} (ha : atI ss i = some s) : RS (rIxL K) (.l ss) (shI i) s := fun x y H h1 h2 Q q => by
  obtain ⟨p, xs, rfl, e2, e3⟩ := is_l.mp h1
  obtain ⟨z, e4, e5⟩ := atI_is e3 ha
  exact ⟨p, xs, i, z, rfl, is_v.mp h2, SqL.of e2, e4, q _ H (Ex.refl H) e5⟩
/-- tuples and lists put together -/
theorem rs_catA {ss ts : List Sh} (hz : ss.length + ts.length ≤ 100000) : RS (rCatA K) (.t ss) (.t ts) (.t (ss ++ ts)) := fun x y H h1 h2 Q q => by
  obtain ⟨p, xs, rfl, e2, e3⟩ := is_t.mp h1
  obtain ⟨p', ys, rfl, f2, f3⟩ := is_t.mp h2
  refine ⟨p, p', xs, ys, rfl, rfl, SqT.of e2, SqT.of f2, sz_of (by rw [isA_len e3, isA_len f3]; exact hz), fun en => ?_, fun _ en => ?_, fun _ _ o ho => ?_⟩
  · subst en
    cases ss with
    | nil => exact q _ H (Ex.refl H) h2
    | cons s r => obtain ⟨_, _, z, _⟩ := isA_cons.mp e3; cases z
  · subst en
    cases ts with
    | nil => rw [List.append_nil] at q; exact q _ H (Ex.refl H) h1
    | cons s r => obtain ⟨_, _, z, _⟩ := isA_cons.mp f3; cases z
  · exact q _ _ (Ex.new ho) (is_t.mpr ⟨o, _, rfl, upd_same, (isA_app e3 f3).mono (Ex.new ho)⟩)
theorem rs_cat {ss ts : List Sh} (hz : ss.length + ts.length ≤ 100000) : RS rCat (.l ss) (.l ts) (.l (ss ++ ts)) := fun x y H h1 h2 Q q => by
  obtain ⟨p, xs, rfl, e2, e3⟩ := is_l.mp h1
  obtain ⟨p', ys, rfl, f2, f3⟩ := is_l.mp h2
  exact ⟨p, p', xs, ys, rfl, rfl, e2, f2, sz_of (by rw [isA_len e3, isA_len f3]; exact hz), fun o ho => q _ _ (Ex.new ho) (is_l.mpr ⟨o, _, rfl, upd_same, (isA_app e3 f3).mono (Ex.new ho)⟩)⟩
/-- x not in a tuple of ints -/
theorem inV_ints {n : Int} : ∀ {ns : List Int}, inV (.int n) (ns.map V.int) = decide (n ∈ ns)
  | [] => by simp [inV]
  | m :: ns => by
    have ih := inV_ints (n := n) (ns := ns)
    unfold inV at ih ⊢
    rw [List.map_cons, List.any_cons, ih]
    show ((m == n) || decide (n ∈ ns)) = decide (n ∈ m :: ns)
    by_cases e : m = n
    · subst e; simp
    · have e' : (m == n) = false := by simpa using e
      have e2 : ¬ n = m := fun z => e z.symm
      rw [e', Bool.false_or]
      simp [e2]
theorem flat_ints (ns : List Int) : (ns.map V.int).all flatV = true := by
  rw [List.all_map]
  exact List.all_eq_true.mpr fun _ _ => rfl
theorem rs_notIn {n : Int} {ns : List Int} : RS (rIn K true) (shI n) (tI ns) (.v (.bl (!decide (n ∈ ns)))) := fun x y H h1 h2 Q q => by
  obtain ⟨p, rfl, e⟩ := is_tI.mp h2
  have e1 := is_v.mp h1
  subst e1
  refine ⟨p, _, rfl, .inr (SqT.of e), rfl, flat_ints ns, ?_⟩
  rw [inV_ints]
  exact q _ H (Ex.refl H) (is_v.mpr rfl)
/-! len, list, tuple, all -/
theorem rcs_lenT {ss : List Sh} : RCS (fun xs H Q => ∃ p ys, xs = [.ref p] ∧ (SqL K H p ys ∨ SqT K H p ys) ∧ Q (.int ys.length) H) [.t ss] (shI ss.length) := fun vs H h Q q => by
  obtain ⟨x, r, rfl, h1, h2⟩ := isA_cons.mp h
  rw [isA_nil.mp h2]
  obtain ⟨p, xs, rfl, e2, e3⟩ := is_t.mp h1
  refine ⟨p, xs, rfl, .inr (SqT.of e2), ?_⟩
  rw [isA_len e3]
  exact q _ H (Ex.refl H) (is_v.mpr rfl)
theorem rcs_lenL {ss : List Sh} : RCS (fun xs H Q => ∃ p ys, xs = [.ref p] ∧ (SqL K H p ys ∨ SqT K H p ys) ∧ Q (.int ys.length) H) [.l ss] (shI ss.length) := fun vs H h Q q => by
  obtain ⟨x, r, rfl, h1, h2⟩ := isA_cons.mp h
  rw [isA_nil.mp h2]
  obtain ⟨p, xs, rfl, e2, e3⟩ := is_l.mp h1
  refine ⟨p, xs, rfl, .inl (SqL.of e2), ?_⟩
  rw [isA_len e3]
  exact q _ H (Ex.refl H) (is_v.mpr rfl)
theorem rcs_listT {ss : List Sh} : RCS (fun xs H Q => ∃ p ys, xs = [.ref p] ∧ (SqL K H p ys ∨ SqT K H p ys) ∧ ∀ l, H l = none → Q (.ref l) (upd H l (.lst ys))) [.t ss] (.l ss) := fun vs H h Q q => by
  obtain ⟨x, r, rfl, h1, h2⟩ := isA_cons.mp h
  rw [isA_nil.mp h2]
  obtain ⟨p, xs, rfl, e2, e3⟩ := is_t.mp h1
  exact ⟨p, xs, rfl, .inr (SqT.of e2), fun l hl => q _ _ (Ex.new hl) (is_l.mpr ⟨l, xs, rfl, upd_same, e3.mono (Ex.new hl)⟩)⟩
theorem rcs_tupL {ss : List Sh} : RCS (fun xs H Q => ∃ p ys, xs = [.ref p] ∧ ((SqL K H p ys ∧ ∀ l, H l = none → Q (.ref l) (upd H l (.tup ys))) ∨ (SqT K H p ys ∧ Q (.ref p) H))) [.l ss] (.t ss) := fun vs H h Q q => by
  obtain ⟨x, r, rfl, h1, h2⟩ := isA_cons.mp h
  rw [isA_nil.mp h2]
  obtain ⟨p, xs, rfl, e2, e3⟩ := is_l.mp h1
  exact ⟨p, xs, rfl, .inl ⟨SqL.of e2, fun l hl => q _ _ (Ex.new hl) (is_t.mpr ⟨l, xs, rfl, upd_same, e3.mono (Ex.new hl)⟩)⟩⟩
def shB (b : Bool) : Sh := .v (.bl b)
theorem isA_bls {H : Hp} : ∀ {bs : List Bool} {xs : List V}, IsA (bs.map shB) xs H → xs = bs.map V.bl
  | [], xs, h => isA_nil.mp h
  | b :: bs, xs, h => by
    obtain ⟨x, r, rfl, h1, h2⟩ := isA_cons.mp h
    rw [is_v.mp h1, isA_bls h2]; rfl
theorem rcs_all {bs : List Bool} : RCS (rAll K) [.l (bs.map shB)] (shB (bs.all id)) := fun vs H h Q q => by
  obtain ⟨x, r, rfl, h1, h2⟩ := isA_cons.mp h
  rw [isA_nil.mp h2]
  obtain ⟨p, xs, rfl, e2, e3⟩ := is_l.mp h1
  have e4 := isA_bls e3
  subst e4
  exact ⟨p, bs, rfl, SqL.of e2, q _ H (Ex.refl H) (is_v.mpr rfl)⟩
theorem rcs_isi {t c : String} {b : Bool} {s : Sh} (ht : ∀ x H, Is s x H → TyX K H x (.type t)) (hk : kitB t c = some b) : RCS (rIsi K) [s, .v (.ty c)] (shB b) := fun vs H h Q q => by
  obtain ⟨x, r, rfl, h1, h2⟩ := isA_cons.mp h
  obtain ⟨y, r2, rfl, h3, h4⟩ := isA_cons.mp h2
  rw [isA_nil.mp h4]
  have e := is_v.mp h3
  subst e
  exact ⟨x, .ty c, _, _, b, rfl, .ty c, ht x H h1, kit_ty hk, q _ H (Ex.refl H) (is_v.mpr rfl)⟩
theorem ty_int {n : Int} : ∀ x H, Is (shI n) x H → TyX K H x (.type "int") := fun x H h => by
  rw [is_v.mp h]; exact .base (.int n)
theorem ty_bl {b : Bool} : ∀ x H, Is (shB b) x H → TyX K H x (.type "bool") := fun x H h => by
  rw [is_v.mp h]; exact .base (.bl b)
theorem ty_non : ∀ x H, Is (.v .non) x H → TyX K H x (.type "NoneType") := fun x H h => by
  rw [is_v.mp h]; exact .base .non
theorem ty_t {ss : List Sh} : ∀ x H, Is (.t ss) x H → TyX K H x (.type "tuple") := fun x H h => by
  obtain ⟨p, xs, rfl, e, _⟩ := is_t.mp h
  exact .base (.tup e)
theorem ty_l {ss : List Sh} : ∀ x H, Is (.l ss) x H → TyX K H x (.type "list") := fun x H h => by
  obtain ⟨p, xs, rfl, e, _⟩ := is_l.mp h
  exact .base (.lst e)
end
end K46

/-! K4: comprehensions, slices, promises, equality, by shapes. -/
namespace K46
open PySem PySem.Spec PyProof.Rows L2 Evl
/-! ### promises by shapes -/
def ErrD : Option Addr → Option (List (Str × V)) → Hp → Prop
  | none, none, _ => True
  | some a, some fs, H => H a = some (.xd fs)
  | _, _, _ => False
def spP (F : List Sh → Sh → Prop) : Sp := fun vs H Q _ => ∃ ss s, F ss s ∧ IsA ss vs H ∧ ∀ v H2, Ex H H2 → Is s v H2 → Q v H2
def spF (F : List Sh → Sh → Prop) (G : List Sh → Value → Option (List (Str × V)) → Prop) : Sp := fun vs H Q E =>
  (∃ ss s, F ss s ∧ IsA ss vs H ∧ ∀ v H2, Ex H H2 → Is s v H2 → Q v H2) ∨ (∃ ss C fs, G ss C fs ∧ IsA ss vs H ∧ ∀ d H2, Ex H H2 → ErrD d fs H2 → E C d H2)
section
variable {F : List Sh → Sh → Prop} {G : List Sh → Value → Option (List (Str × V)) → Prop} {ss : List Sh} {s : Sh}
theorem sps_P (h : F ss s) : SpS (spP F) ss s := fun vs H i Q q E => ⟨ss, s, h, i, q⟩
theorem sps_F (h : F ss s) : SpS (spF F G) ss s := fun vs H i Q q E => .inl ⟨ss, s, h, i, q⟩
theorem spP_len {n : Nat} (h : ∀ ss s, F ss s → ss.length = n) : ∀ vs H Q E, spP F vs H Q E → vs.length = n := fun vs H Q E ⟨ss, s, h1, h2, _⟩ => by rw [isA_len h2, h ss s h1]
theorem spF_len {n : Nat} (h : ∀ ss s, F ss s → ss.length = n) (h' : ∀ ss C fs, G ss C fs → ss.length = n) : ∀ vs H Q E, spF F G vs H Q E → vs.length = n := fun vs H Q E h0 => by
  rcases h0 with ⟨ss, s, h1, h2, _⟩ | ⟨ss, C, fs, h1, h2, _⟩
  · rw [isA_len h2, h ss s h1]
  · rw [isA_len h2, h' ss C fs h1]
end
/-! ### tuples all the way down: a list that grows does not touch them -/
mutual
def tupS : Sh → Bool
  | .v _ => true
  | .t ss => tupA ss
  | .l _ => false
def tupA : List Sh → Bool
  | [] => true
  | s :: ss => tupS s && tupA ss
end
mutual
theorem Is.keep {H H' : Hp} (e : ∀ b xs, H b = some (.tup xs) → H' b = some (.tup xs)) : ∀ {s : Sh} {x : V}, tupS s = true → Is s x H → Is s x H'
  | .v w, x, _, h => is_v.mpr (is_v.mp h)
  | .t ss, x, hs, h => by
    obtain ⟨p, xs, e1, e2, e3⟩ := is_t.mp h
    exact is_t.mpr ⟨p, xs, e1, e p _ e2, IsA.keep e (by simpa only [tupS] using hs) e3⟩
  | .l ss, x, hs, h => by simp [tupS] at hs
theorem IsA.keep {H H' : Hp} (e : ∀ b xs, H b = some (.tup xs) → H' b = some (.tup xs)) : ∀ {ss : List Sh} {xs : List V}, tupA ss = true → IsA ss xs H → IsA ss xs H'
  | [], xs, _, h => isA_nil.mpr (isA_nil.mp h)
  | s :: ss, xs, hs, h => by
    have hs' : tupS s = true ∧ tupA ss = true := by simpa [tupA] using hs
    obtain ⟨x, r, e1, e2, e3⟩ := isA_cons.mp h
    exact isA_cons.mpr ⟨x, r, e1, Is.keep e hs'.1 e2, IsA.keep e hs'.2 e3⟩
end
theorem upd_keep {H : Hp} {D : Addr} {xs : List V} {o : HO} (h : H D = some (.lst xs)) : ∀ b ys, H b = some (.tup ys) → upd H D o b = some (.tup ys) := fun b ys e => by
  have hb : b ≠ D := fun z => by
    rw [z, h] at e
    cases e
  rw [upd_ne hb]
  exact e
theorem tupA_app : ∀ {ss ts : List Sh}, tupA ss = true → tupA ts = true → tupA (ss ++ ts) = true
  | [], _, _, h => h
  | s :: ss, ts, h, h2 => by
    have h' : tupS s = true ∧ tupA ss = true := by simpa [tupA] using h
    simp only [List.cons_append, tupA, h'.1, tupA_app h'.2 h2, Bool.and_self]
theorem tupA_shs : ∀ ns : List Int, tupA (shs ns) = true
  | [] => rfl
  | n :: ns => by
    show (tupS (.v (.int n)) && tupA (shs ns)) = true
    rw [tupA_shs ns]
    rfl
theorem tupS_tI (ns : List Int) : tupS (tI ns) = true := by
  unfold tI
  simp only [tupS]
  exact tupA_shs ns
/-! ### comprehensions -/
def givS (n : Nat) (f : Nat → Bool) (g : Nat → Sh) : List Sh := ((List.range n).filter f).map g
theorem givS_yes {n : Nat} {f : Nat → Bool} {g : Nat → Sh} (h : f n = true) : givS (n + 1) f g = givS n f g ++ [g n] := by
  unfold givS
  rw [List.range_succ, List.filter_append, List.map_append, List.filter_cons, if_pos h]
  rfl
theorem givS_no {n : Nat} {f : Nat → Bool} {g : Nat → Sh} (h : f n = false) : givS (n + 1) f g = givS n f g := by
  unfold givS
  rw [List.range_succ, List.filter_append, List.map_append, List.filter_cons, if_neg (by rw [h]; decide)]
  show _ ++ [] = _
  rw [List.append_nil]
theorem givS_len (n : Nat) (f : Nat → Bool) (g : Nat → Sh) : (givS n f g).length ≤ n := by
  unfold givS
  rw [List.length_map]
  have h := List.length_filter_le f (List.range n)
  rw [List.length_range] at h
  exact h
theorem givS_tup {n : Nat} {f : Nat → Bool} {g : Nat → Sh} (h : ∀ i, tupS (g i) = true) : tupA (givS n f g) = true := by
  induction n with
  | zero => rfl
  | succ n ih =>
    cases hf : f n with
    | true =>
      rw [givS_yes hf]
      refine tupA_app ih ?_
      simp only [tupA, h n, Bool.and_self]
    | false => rw [givS_no hf]; exact ih
theorem givS_all {ss : List Sh} {n : Nat} {g : Nat → Sh} {F : Sh → Sh} (hn : n = ss.length) (h : ∀ i s, ss[i]? = some s → g i = F s) : givS n (fun _ => true) g = ss.map F := by
  subst hn
  have e : (List.range ss.length).filter (fun _ => true) = List.range ss.length := List.filter_eq_self.mpr fun _ _ => rfl
  unfold givS
  rw [e]
  apply List.ext_getElem
  · simp
  · intro i h1 h2
    rw [List.getElem_map, List.getElem_map, List.getElem_range]
    exact h i _ (List.getElem?_eq_getElem (by simpa using h2))
def CwS (H : Hp) (f : Nat → Bool) (g : Nat → Sh) (Dl : Addr) (i : Nat) (H' : Hp) : Prop := H Dl = none ∧ Ex H H' ∧ ∃ acc, H' Dl = some (.lst acc) ∧ IsA (givS i f g) acc H'
section
variable {K : PySem.W.Frag} {σ : L2.St} {H H' : Hp} {ta tb te tx tl : TE} {t u : TT} {s s1 s2 s3 : Sh} {ss : List Sh}
theorem cwS_0 {f : Nat → Bool} {g : Nat → Sh} {Dl : Addr} (h : H Dl = none) : CwS H f g Dl 0 (upd H Dl (.lst [])) := ⟨h, Ex.new h, [], upd_same, isA_nil.mpr rfl⟩
theorem cwS_turn {f : Nat → Bool} {g : Nat → Sh} {Dl : Addr} {i : Nat} {σ2 : L2.St} (hg : ∀ i, tupS (g i) = true) (p : CwS H f g Dl i H') (hi : i < 50000) (ht : EvT t σ2 H (f i)) (he : f i = true → EvS te σ2 H (g i)) :
    t σ2 H' fun b H3 => if b = true then te σ2 H3 fun y H4 => ∃ acc, H4 Dl = some (.lst acc) ∧ acc.length < sizeLine ∧ CwS H f g Dl (i + 1) (upd H4 Dl (.lst (acc ++ [y]))) else CwS H f g Dl (i + 1) H3 := by
  obtain ⟨p1, p2, acc, p3, p4⟩ := p
  refine ht H' p2 _ fun H3 e3 => ?_
  cases hf : f i with
  | true =>
    show te σ2 H3 fun y H4 => ∃ acc, H4 Dl = some (.lst acc) ∧ acc.length < sizeLine ∧ CwS H f g Dl (i + 1) (upd H4 Dl (.lst (acc ++ [y])))
    refine he hf H3 (p2.trans e3) _ fun v H4 e4 i4 => ?_
    have hD : H4 Dl = some (.lst acc) := e4 Dl _ (e3 Dl _ p3)
    have hl := isA_len p4
    have hl2 := givS_len i f g
    refine ⟨acc, hD, sz_lt (by omega), p1, Ex.mut ((p2.trans e3).trans e4) p1, acc ++ [v], upd_same, ?_⟩
    rw [givS_yes hf]
    refine IsA.keep (upd_keep hD) ?_ (isA_app ((p4.mono e3).mono e4) (isA_cons.mpr ⟨v, [], rfl, i4, isA_nil.mpr rfl⟩))
    refine tupA_app (givS_tup hg) ?_
    simp only [tupA, hg i, Bool.and_self]
  | false =>
    show CwS H f g Dl (i + 1) H3
    refine ⟨p1, p2.trans e3, acc, e3 Dl _ p3, ?_⟩
    rw [givS_no hf]
    exact p4.mono e3
theorem cwS_end {f : Nat → Bool} {g : Nat → Sh} {Dl : Addr} {n : Nat} (p : CwS H f g Dl n H') : Ex H H' ∧ Is (.l (givS n f g)) (.ref Dl) H' := by
  obtain ⟨_, p2, acc, p3, p4⟩ := p
  exact ⟨p2, is_l.mpr ⟨Dl, acc, rfl, p3, p4⟩⟩
/-- [te for j in a tuple if t] -/
theorem es_lcT {j : Nat} {vs : List Nat} (f : Nat → Bool) (g : Nat → Sh) (hg : ∀ i, tupS (g i) = true) (h : EvS tl σ H (.t ss)) (hz : ss.length ≤ 40000) (hw : ∀ x, wipe ((wipe σ vs).set j (some x)) vs = wipe σ vs)
    (ht : ∀ (i : Nat) (s : Sh) (x : V) H1, ss[i]? = some s → Ex H H1 → Is s x H1 → EvT t ((wipe σ vs).set j (some x)) H1 (f i)) (he : ∀ (i : Nat) (s : Sh) (x : V) H1, ss[i]? = some s → Ex H H1 → Is s x H1 → f i = true → EvS te ((wipe σ vs).set j (some x)) H1 (g i)) :
    EvS (tLc (iTup K tl) (gName j) t te vs) σ H (.l (givS ss.length f g)) := fun H0 e Q q => h H0 e _ fun v H1 e1 i1 => by
  obtain ⟨a, xs, rfl, ea, hxs⟩ := is_t.mp i1
  have hl := isA_len hxs
  refine ⟨a, rfl, ⟨xs, SqT.of ea⟩, fun Dl hD => lc_tup (xs := xs) (CwS H1 f g Dl) (cwS_0 hD) (fun i H' _ p => SqT.of (p.2.1 a _ ea)) (fun i x H' hi p => ⟨hw x, ?_⟩) (fun H' p => ?_)⟩
  · have hlt : i < ss.length := by rw [← hl]; exact (List.getElem?_eq_some_iff.mp hi).1
    obtain ⟨y, e2, e3⟩ := isA_get hxs (List.getElem?_eq_getElem hlt)
    rw [hi] at e2
    cases e2
    exact cwS_turn hg p (by omega) (ht i _ x H1 (List.getElem?_eq_getElem hlt) (e.trans e1) e3) (fun hf => he i _ x H1 (List.getElem?_eq_getElem hlt) (e.trans e1) e3 hf)
  · rw [hl] at p
    have z := cwS_end p
    exact q _ H' (e1.trans z.1) z.2
/-- .. over a list -/
theorem es_lcL {j : Nat} {vs : List Nat} (f : Nat → Bool) (g : Nat → Sh) (hg : ∀ i, tupS (g i) = true) (h : EvS tl σ H (.l ss)) (hz : ss.length ≤ 40000) (hw : ∀ x, wipe ((wipe σ vs).set j (some x)) vs = wipe σ vs)
    (ht : ∀ (i : Nat) (s : Sh) (x : V) H1, ss[i]? = some s → Ex H H1 → Is s x H1 → EvT t ((wipe σ vs).set j (some x)) H1 (f i)) (he : ∀ (i : Nat) (s : Sh) (x : V) H1, ss[i]? = some s → Ex H H1 → Is s x H1 → f i = true → EvS te ((wipe σ vs).set j (some x)) H1 (g i)) :
    EvS (tLc (iList K tl) (gName j) t te vs) σ H (.l (givS ss.length f g)) := fun H0 e Q q => h H0 e _ fun v H1 e1 i1 => by
  obtain ⟨a, xs, rfl, ea, hxs⟩ := is_l.mp i1
  have hl := isA_len hxs
  refine ⟨a, rfl, ⟨xs, SqL.of ea⟩, fun Dl hD => lc_list (xs := xs) (CwS H1 f g Dl) (cwS_0 hD) (fun i H' _ p => SqL.of (p.2.1 a _ ea)) (fun i x H' hi p => ⟨hw x, ?_⟩) (fun H' p => ?_)⟩
  · have hlt : i < ss.length := by rw [← hl]; exact (List.getElem?_eq_some_iff.mp hi).1
    obtain ⟨y, e2, e3⟩ := isA_get hxs (List.getElem?_eq_getElem hlt)
    rw [hi] at e2
    cases e2
    exact cwS_turn hg p (by omega) (ht i _ x H1 (List.getElem?_eq_getElem hlt) (e.trans e1) e3) (fun hf => he i _ x H1 (List.getElem?_eq_getElem hlt) (e.trans e1) e3 hf)
  · rw [hl] at p
    have z := cwS_end p
    exact q _ H' (e1.trans z.1) z.2
theorem et_yes : EvT tYes σ H true := fun H1 _ _ q => q H1 (Ex.refl H1)
/-! ### slices of tuples -/
def cutS (ss : List Sh) (lo hi : Option Int) : List Sh := (ss.drop (HT.sIx ss.length 0 lo)).take (HT.sIx ss.length ss.length hi - HT.sIx ss.length 0 lo)
theorem eo_someS (h : EvS te σ H (shI i)) : EvO (tPart te) σ H (some i) := eo_some (ev_es h)
theorem es_slT {tlo thi : TO} {lo hi : Option Int} (h : EvS te σ H (.t ss)) (h1 : EvO tlo σ H lo) (h2 : EvO thi σ H hi) : EvS (tSl (rSlA K) te tlo thi) σ H (.t (cutS ss lo hi)) := fun H1 e Q q =>
  h H1 e _ fun v H2 e2 i2 => h1 H2 (e.trans e2) _ fun H3 e3 => h2 H3 ((e.trans e2).trans e3) _ fun H4 e4 => by
    obtain ⟨a, xs, rfl, ea, hxs⟩ := is_t.mp ((i2.mono e3).mono e4)
    have hl := isA_len hxs
    refine ⟨a, xs, rfl, SqT.of ea, fun w => ?_, fun _ p hp => ?_⟩
    · have e5 : cutS ss lo hi = ss := by
        unfold cutS
        rw [← hl, w.1, w.2, Nat.sub_zero, List.drop_zero, hl]
        exact List.take_length
      rw [e5] at q
      exact q _ H4 ((e2.trans e3).trans e4) (is_t.mpr ⟨a, xs, rfl, ea, hxs⟩)
    · refine q _ _ (((e2.trans e3).trans e4).trans (Ex.new hp)) (is_t.mpr ⟨p, _, rfl, upd_same, ?_⟩)
      have e6 : cutV xs lo hi = (xs.drop (HT.sIx ss.length 0 lo)).take (HT.sIx ss.length ss.length hi - HT.sIx ss.length 0 lo) := by
        unfold cutV
        rw [hl]
      rw [e6]
      exact IsA.mono (Ex.new hp) (isA_take _ (isA_drop _ hxs))
theorem cut_from (ss : List Sh) (k : Nat) : cutS ss (some (k : Int)) none = ss.drop k := by
  unfold cutS
  rw [HT.sIx_nat, HT.sIx_none]
  by_cases h : k ≤ ss.length
  · rw [Nat.min_eq_left h]
    exact List.take_of_length_le (by rw [List.length_drop]; exact Nat.le_refl _)
  · rw [Nat.min_eq_right (by omega), List.drop_eq_nil_of_le (Nat.le_refl _), List.drop_eq_nil_of_le (by omega)]
    exact List.take_nil
theorem cut_to (ss : List Sh) (k : Nat) : cutS ss none (some (k : Int)) = ss.take k := by
  unfold cutS
  rw [HT.sIx_nat, HT.sIx_none, Nat.sub_zero, List.drop_zero]
  by_cases h : k ≤ ss.length
  · rw [Nat.min_eq_left h]
  · rw [Nat.min_eq_right (by omega), List.take_length, List.take_of_length_le (by omega)]
/-! ### equality of data -/
mutual
def dat : Sh → PyData
  | .v (.bl b) => .bool b
  | .v (.int i) => .int i
  | .v (.str x) => .str x
  | .v _ => .none
  | .t ss => .tuple (datA ss)
  | .l ss => .list (datA ss)
def datA : List Sh → List PyData
  | [] => []
  | s :: ss => dat s :: datA ss
end
mutual
def isDat : Sh → Bool
  | .v x => flatV x
  | .t ss => isDatA ss
  | .l ss => isDatA ss
def isDatA : List Sh → Bool
  | [] => true
  | s :: ss => isDat s && isDatA ss
end
mutual
theorem dp_of : ∀ {s : Sh} {x : V}, isDat s = true → Is s x H → Dp K H x (dat s)
  | .v w, x, hs, h => by
    rw [is_v.mp h]
    simp only [isDat] at hs
    cases w with
    | non => exact .non
    | bl b => exact .bl b
    | int i => exact .int i
    | str z => exact .str z
    | byt _ => cases hs
    | flt _ => cases hs
    | ref _ => cases hs
    | ty _ => cases hs
  | .t ss, x, hs, h => by
    obtain ⟨p, xs, rfl, e2, e3⟩ := is_t.mp h
    simp only [dat]
    exact .tup (SqT.of e2) (dpA_of (by simpa only [isDat] using hs) e3)
  | .l ss, x, hs, h => by
    obtain ⟨p, xs, rfl, e2, e3⟩ := is_l.mp h
    simp only [dat]
    exact .lst (SqL.of e2) (dpA_of (by simpa only [isDat] using hs) e3)
theorem dpA_of : ∀ {ss : List Sh} {xs : List V}, isDatA ss = true → IsA ss xs H → DpAll K H xs (datA ss)
  | [], xs, _, h => by
    rw [isA_nil.mp h]
    simp only [datA]
    exact .nil
  | s :: ss, xs, hs, h => by
    have hs' : isDat s = true ∧ isDatA ss = true := by simpa [isDatA] using hs
    obtain ⟨x, r, rfl, e2, e3⟩ := isA_cons.mp h
    simp only [datA]
    exact .cons (dp_of hs'.1 e2) (dpA_of hs'.2 e3)
end
theorem rs_eqD {s s' : Sh} {b : Bool} (d1 : isDat s = true) (d2 : isDat s' = true) (h1 : SeqAt.shaped (dat s) = true) (h2 : SeqAt.shaped (dat s') = true) (hb : PyData.eqv (dat s) (dat s') = b) : RS (rEqD K) s s' (shB b) := fun x y H i1 i2 Q q =>
  ⟨_, _, dp_of d1 i1, dp_of d2 i2, h1, h2, by
    rw [hb]
    exact q _ H (Ex.refl H) (is_v.mpr rfl)⟩
theorem rs_neD {s s' : Sh} {b : Bool} (d1 : isDat s = true) (d2 : isDat s' = true) (h1 : SeqAt.shaped (dat s) = true) (h2 : SeqAt.shaped (dat s') = true) (hb : PyData.eqv (dat s) (dat s') = b) : RS (rNeD K) s s' (shB (!b)) := fun x y H i1 i2 Q q =>
  ⟨_, _, dp_of d1 i1, dp_of d2 i2, h1, h2, by
    rw [hb]
    exact q _ H (Ex.refl H) (is_v.mpr rfl)⟩
/-- a tuple of whole numbers, or None -/
def oI : Option (List Int) → Sh
  | none => .v .non
  | some ns => tI ns
theorem datA_shs : ∀ ns : List Int, datA (shs ns) = ns.map PyData.int
  | [] => rfl
  | n :: ns => by
    show dat (.v (.int n)) :: datA (shs ns) = _
    rw [datA_shs ns]
    rfl
theorem isDatA_shs : ∀ ns : List Int, isDatA (shs ns) = true
  | [] => rfl
  | n :: ns => by
    show (isDat (.v (.int n)) && isDatA (shs ns)) = true
    rw [isDatA_shs ns]
    rfl
theorem dat_tI (ns : List Int) : dat (tI ns) = .tuple (ns.map PyData.int) := by
  unfold tI
  simp only [dat, datA_shs]
theorem dat_lI (ns : List Int) : dat (lI ns) = .list (ns.map PyData.int) := by
  unfold lI
  simp only [dat, datA_shs]
theorem isDat_tI (ns : List Int) : isDat (tI ns) = true := by
  unfold tI
  simp only [isDat]
  exact isDatA_shs ns
theorem isDat_lI (ns : List Int) : isDat (lI ns) = true := by
  unfold lI
  simp only [isDat]
  exact isDatA_shs ns
theorem lay_ints : ∀ ns : List Int, PyData.canLayAll0 (ns.map PyData.int) = true ∧ PyData.depthAll (ns.map PyData.int) ≤ 1
  | [] => ⟨rfl, Nat.zero_le _⟩
  | n :: ns => by
    have ih := lay_ints ns
    refine ⟨?_, ?_⟩
    · rw [List.map_cons, PyData.canLayAll0, ih.1]; rfl
    · rw [List.map_cons, PyData.depthAll]
      have : PyData.depth (.int n) ≤ 1 := by rw [PyData.depth]; omega
      omega
theorem shaped_tI (ns : List Int) : SeqAt.shaped (dat (tI ns)) = true := by
  rw [dat_tI]
  have h := lay_ints ns
  unfold SeqAt.shaped
  rw [PyData.canLay0, h.1, PyData.depth, Bool.true_and, decide_eq_true_eq]
  omega
theorem shaped_lI (ns : List Int) : SeqAt.shaped (dat (lI ns)) = true := by
  rw [dat_lI]
  have h := lay_ints ns
  unfold SeqAt.shaped
  rw [PyData.canLay0, h.1, PyData.depth, Bool.true_and, decide_eq_true_eq]
  omega
theorem eqvA_ints : ∀ ns ms : List Int, PyData.eqvAll (ns.map PyData.int) (ms.map PyData.int) = decide (ns = ms)
  | [], [] => rfl
  | [], _ :: _ => rfl
  | _ :: _, [] => rfl
  | n :: ns, m :: ms => by
    rw [List.map_cons, List.map_cons, PyData.eqvAll, eqvA_ints ns ms, PyData.eqv]
    by_cases e : n = m
    · subst e
      by_cases e2 : ns = ms
      · subst e2; simp
      · simp [e2]
    · simp [e]
theorem eqv_oI : ∀ a b : Option (List Int), PyData.eqv (dat (oI a)) (dat (oI b)) = decide (a = b)
  | none, none => rfl
  | none, some ms => by
    show PyData.eqv (dat (.v .non)) (dat (tI ms)) = _
    rw [dat_tI]; rfl
  | some ns, none => by
    show PyData.eqv (dat (tI ns)) (dat (.v .non)) = _
    rw [dat_tI]; rfl
  | some ns, some ms => by
    show PyData.eqv (dat (tI ns)) (dat (tI ms)) = _
    rw [dat_tI, dat_tI, PyData.eqv, eqvA_ints]
    simp
theorem shaped_oI : ∀ a : Option (List Int), SeqAt.shaped (dat (oI a)) = true
  | none => by decide
  | some ns => shaped_tI ns
theorem isDat_oI : ∀ a : Option (List Int), isDat (oI a) = true
  | none => rfl
  | some ns => isDat_tI ns
theorem rs_eqO (a b : Option (List Int)) : RS (rEqD K) (oI a) (oI b) (shB (decide (a = b))) := rs_eqD (isDat_oI a) (isDat_oI b) (shaped_oI a) (shaped_oI b) (eqv_oI a b)
theorem rs_neO (a b : Option (List Int)) : RS (rNeD K) (oI a) (oI b) (shB (!decide (a = b))) := rs_neD (isDat_oI a) (isDat_oI b) (shaped_oI a) (shaped_oI b) (eqv_oI a b)
theorem rs_eqT (a b : List Int) : RS (rEqD K) (tI a) (tI b) (shB (decide (a = b))) := rs_eqD (isDat_tI a) (isDat_tI b) (shaped_tI a) (shaped_tI b) (by rw [dat_tI, dat_tI, PyData.eqv, eqvA_ints])
theorem rs_neT (a b : List Int) : RS (rNeD K) (tI a) (tI b) (shB (!decide (a = b))) := rs_neD (isDat_tI a) (isDat_tI b) (shaped_tI a) (shaped_tI b) (by rw [dat_tI, dat_tI, PyData.eqv, eqvA_ints])
theorem rs_eqL (a b : List Int) : RS (rEqD K) (lI a) (lI b) (shB (decide (a = b))) := rs_eqD (isDat_lI a) (isDat_lI b) (shaped_lI a) (shaped_lI b) (by rw [dat_lI, dat_lI, PyData.eqv, eqvA_ints])
theorem rs_neL (a b : List Int) : RS (rNeD K) (lI a) (lI b) (shB (!decide (a = b))) := rs_neD (isDat_lI a) (isDat_lI b) (shaped_lI a) (shaped_lI b) (by rw [dat_lI, dat_lI, PyData.eqv, eqvA_ints])
end
end K46

/-! K5: is_tuple_of, fits_crease, fits_folds, need_folds, fits_lot, need_lot. -/
namespace K46
open PySem PySem.Spec PyProof.Rows L2 Evl
/-- an element that is an int or a bool -/
def elemS : Sh → Bool
  | .v (.int _) => true
  | .v (.bl _) => true
  | _ => false
def inS (B : Int) : Sh → Bool
  | .v (.int n) => decide (-B ≤ n) && decide (n ≤ B)
  | _ => false
/-- what may be handed in: None, an int, a tuple, a list -/
def topOk : Sh → Bool
  | .v .non => true
  | .v (.int _) => true
  | .v _ => false
  | .t ss => ss.all elemS
  | .l _ => true
def tyOf : Sh → String
  | .v .non => "NoneType"
  | .v (.int _) => "int"
  | .v _ => "object"
  | .t _ => "tuple"
  | .l _ => "list"
def isTup : Sh → Bool
  | .t _ => true
  | _ => false
def lenIn (lo hi : Int) : Sh → Bool
  | .t ss => decide (lo ≤ (ss.length : Int)) && decide ((ss.length : Int) ≤ hi)
  | _ => false
def foldsB : Sh → Bool
  | .t ss => decide (ss.length ≤ 12) && ss.all (inS 1000000)
  | _ => false
def ltS : Sh → Sh → Bool
  | .v (.int a), .v (.int b) => decide (a < b)
  | _, _ => false
def adj : List Sh → Bool
  | a :: b :: r => ltS a b && adj (b :: r)
  | _ => true
def lotB : Sh → Bool
  | .t ss => decide (ss.length ≤ 256) && (ss.all (inS 100000) && adj ss)
  | _ => false
section
variable {P : Program} {w : World} {K : PySem.W.Frag} {mg : Str → Option Value} {base : Heap} {a : Ad}
theorem gc_int {x : Str} {n : Int} (h : ∃ t, mg x = some (.int n t)) : ∃ u, mg x = some u ∧ RelV (.int n) u := by
  obtain ⟨t, e⟩ := h
  exact ⟨_, e, t, rfl⟩
theorem sps_whole {v : V} {lo hi : Int} {b : Bool} (h : wholeV lo hi v = some b) : SpS spWhole [.v v, shI lo, shI hi] (shB b) := fun vs H i Q q E => by
  obtain ⟨x, r, rfl, i1, i2⟩ := isA_cons.mp i
  obtain ⟨y, r2, rfl, i3, i4⟩ := isA_cons.mp i2
  obtain ⟨z, r3, rfl, i5, i6⟩ := isA_cons.mp i4
  rw [isA_nil.mp i6]
  have e1 := is_v.mp i1
  have e2 := is_v.mp i3
  have e3 := is_v.mp i5
  subst e1 e2 e3
  exact ⟨x, lo, hi, b, rfl, h, q _ H (Ex.refl H) (is_v.mpr rfl)⟩
theorem sps_elem {s : Sh} {lo hi B : Int} (h : elemS s = true) (h1 : lo = -B) (h2 : hi = B) : SpS spWhole [s, shI lo, shI hi] (shB (inS B s)) := by
  subst h1 h2
  cases s with
  | v x =>
    cases x with
    | int n => exact sps_whole rfl
    | bl b => exact sps_whole rfl
    | non => cases h
    | str _ => cases h
    | byt _ => cases h
    | flt _ => cases h
    | ref _ => cases h
    | ty _ => cases h
  | t _ => cases h
  | l _ => cases h
theorem rcs_isiTup {s : Sh} (h : topOk s = true) : RCS (rIsi K) [s, .v (.ty "tuple")] (shB (isTup s)) := by
  cases s with
  | v x =>
    cases x with
    | non => exact rcs_isi (t := "NoneType") (b := false) ty_non (by decide +kernel)
    | int n => exact rcs_isi (t := "int") (b := false) ty_int (by decide +kernel)
    | bl b => cases h
    | str _ => cases h
    | byt _ => cases h
    | flt _ => cases h
    | ref _ => cases h
    | ty _ => cases h
  | t ss => exact rcs_isi (t := "tuple") (b := true) ty_t (by decide +kernel)
  | l ss => exact rcs_isi (t := "list") (b := false) ty_l (by decide +kernel)
/-! ### is_tuple_of -/
theorem scTupOf : FnScope ["value", "low", "high"] ["value", "low", "high"] (defScope sTupOf) := ⟨rfl, rfl, rfl, by decide +kernel, rfl, by decide +kernel, by decide +kernel⟩
def fTupOf (ss : List Sh) (s : Sh) : Prop := ∃ x lo hi, ss = [x, shI lo, shI hi] ∧ topOk x = true ∧ s = shB (lenIn lo hi x)
theorem ok_tupOf (T : Txt K mg a) : FnOk P w K mg base CX0 1 a.tupOf.a a.tupOf.fd ["value", "low", "high"] (spP fTupOf) := by
  refine T.tupOf.fn.ok scTupOf (spP_len fun ss s ⟨_, _, _, e, _⟩ => by rw [e]; rfl) (fun cdv A outer s H vs Q E hr h => ?_)
  obtain ⟨ss, s', ⟨x, lo, hi, rfl, hx, rfl⟩, hi', q⟩ := h
  obtain ⟨x1, r, rfl, i1, i2⟩ := isA_cons.mp hi'
  obtain ⟨x2, r2, rfl, i3, i4⟩ := isA_cons.mp i2
  obtain ⟨x3, r3, rfl, i5, i6⟩ := isA_cons.mp i4
  rw [isA_nil.mp i6]
  refine ⟨_, pss_one (ps_ret (pe_and (pe_callB call_isi (by rfl) T.bIsi boot_isinstance (pa_cons (pv 0) (pa_cons (pe_bltn (v := .ty "tuple") (by rfl) T.bTuple boot_tuple rfl) pa_nil)))
    (pe_one (pe_chain op_le op_le (pv 1) (pe_callB call_len_seq (by rfl) T.bLen boot_len (pa_cons (pv 0) pa_nil)) (pv 2))))), ?_⟩
  have hv : EvS (tVar 0) [some x1, some x2, some x3] H x := es_var rfl i1
  have main : EvS (tAndV (tCB (rIsi K) (tCons (tVar 0) (tCons (tC (.ty "tuple")) tNil))) (tChain (rI0 fun i j => .bl (decide (i ≤ j))) (rI0 fun i j => .bl (decide (i ≤ j))) (tVar 1)
      (tCB (fun xs H Q => ∃ p ys, xs = [.ref p] ∧ (SqL K H p ys ∨ SqT K H p ys) ∧ Q (.int ys.length) H) (tCons (tVar 0) tNil)) (tVar 2))) [some x1, some x2, some x3] H (shB (lenIn lo hi x)) := by
    cases x with
    | t ss =>
      refine es_is (es_and (a := true) (b := decide (lo ≤ (ss.length : Int)) && decide ((ss.length : Int) ≤ hi)) (es_cb (es_cons hv (es_cons es_c es_nil)) (rcs_isiTup hx)) fun _ => ?_) rfl
      exact es_chain (es_var rfl i3) (es_cb (es_cons hv es_nil) rcs_lenT) rs_I0 (fun _ => es_var rfl i5) (fun _ => rs_I0)
    | v y => exact es_is (es_and (a := false) (b := false) (es_cb (es_cons hv (es_cons es_c es_nil)) (rcs_isiTup hx)) fun z => by cases z) rfl
    | l ss => exact es_is (es_and (a := false) (b := false) (es_cb (es_cons hv (es_cons es_c es_nil)) (rcs_isiTup hx)) fun z => by cases z) rfl
  exact ss_ret main q
/-! ### fits_crease -/
theorem scCrease : FnScope ["value"] ["value"] (defScope sCrease) := ⟨rfl, rfl, rfl, by decide +kernel, rfl, by decide +kernel, by decide +kernel⟩
def fCrease (ss : List Sh) (s : Sh) : Prop := ∃ x, ss = [x] ∧ elemS x = true ∧ s = shB (inS 1000000 x)
theorem ok_crease (T : Txt K mg a) : FnOk P w K mg base CX0 2 a.crease.a a.crease.fd ["value"] (spP fCrease) := by
  have G := ok_whole (P := P) (w := w) (base := base) T
  refine T.crease.fn.ok scCrease (spP_len fun ss s ⟨_, e, _⟩ => by rw [e]; rfl) (fun cdv A outer s H vs Q E hr h => ?_)
  obtain ⟨ss, s', ⟨x, rfl, hx, rfl⟩, hi', q⟩ := h
  obtain ⟨x1, r, rfl, i1, i2⟩ := isA_cons.mp hi'
  rw [isA_nil.mp i2]
  refine ⟨_, pss_one (ps_ret (pe_call G hr (by rfl) T.whole.mg T.whole.fn.kp T.whole.bd .nil pass0 (pa_cons (pv 0) (pa_cons (pe_un un_neg (C8.pe_gc (v := .int 1000000) (by rfl) (gc_int T.cCrease))) (pa_cons (C8.pe_gc (v := .int 1000000) (by rfl) (gc_int T.cCrease)) pa_nil))))), ?_⟩
  exact ss_ret (es_call (es_cons (es_var rfl i1) (es_cons (es_un es_c rus_neg) (es_cons es_c es_nil))) (sps_elem hx rfl rfl)) q
/-! ### fits_folds -/
theorem scFoldsF : FnScope ["value", "crease"] ["value"] (defScope sFoldsF) := ⟨rfl, rfl, rfl, by decide +kernel, rfl, by decide +kernel, by decide +kernel⟩
def fFoldsF (ss : List Sh) (s : Sh) : Prop := ∃ x, ss = [x] ∧ topOk x = true ∧ s = shB (foldsB x)
theorem all_get {ss : List Sh} {p : Sh → Bool} (h : ss.all p = true) {i : Nat} {s : Sh} (e : ss[i]? = some s) : p s = true := List.all_eq_true.mp h s (List.mem_of_getElem? e)
theorem bs_all {ss : List Sh} (p : Sh → Bool) : ((ss.map p).all id) = ss.all p := by
  rw [List.all_map]; rfl
/-- all([p(x) for x in a tuple]) -/
theorem es_allT {σ : L2.St} {H : Hp} {tl te : TE} {ss : List Sh} {j : Nat} {vs : List Nat} {p : Sh → Bool} (h : EvS tl σ H (.t ss)) (hz : ss.length ≤ 40000) (hw : ∀ x, wipe ((wipe σ vs).set j (some x)) vs = wipe σ vs)
    (he : ∀ (i : Nat) (s : Sh) (x : V) H1, ss[i]? = some s → Ex H H1 → Is s x H1 → EvS te ((wipe σ vs).set j (some x)) H1 (shB (p s))) :
    EvS (tCB (rAll K) (tCons (tLc (iTup K tl) (gName j) tYes te vs) tNil)) σ H (shB (ss.all p)) := by
  have e1 := es_lcT (K := K) (t := tYes) (f := fun _ => true) (g := fun i => shB (p (ss.getD i (.v .non)))) (fun _ => rfl) h hz hw (fun _ _ _ _ _ _ _ => et_yes) (fun i s x H1 hi e hs _ => by
    have q := he i s x H1 hi e hs
    have e2 : ss.getD i (.v .non) = s := by rw [List.getD_eq_getElem?_getD, hi]; rfl
    rw [e2]
    exact q)
  have e3 : givS ss.length (fun _ => true) (fun i => shB (p (ss.getD i (.v .non)))) = (ss.map p).map shB := by
    rw [List.map_map]
    exact givS_all rfl fun i s hi => by
      have e2 : ss.getD i (.v .non) = s := by rw [List.getD_eq_getElem?_getD, hi]; rfl
      rw [e2]; rfl
  rw [e3] at e1
  exact es_is (es_cb (es_cons e1 es_nil) rcs_all) (by rw [bs_all])
theorem ok_foldsF (T : Txt K mg a) : FnOk P w K mg base CX0 3 a.foldsF.a a.foldsF.fd ["value"] (spP fFoldsF) := by
  have G1 := ok_tupOf (P := P) (w := w) (base := base) T
  have G2 := ok_crease (P := P) (w := w) (base := base) T
  refine T.foldsF.fn.ok scFoldsF (spP_len fun ss s ⟨_, e, _⟩ => by rw [e]; rfl) (fun cdv A outer s H vs Q E hr h => ?_)
  obtain ⟨ss, s', ⟨x, rfl, hx, rfl⟩, hi', q⟩ := h
  obtain ⟨x1, r, rfl, i1, i2⟩ := isA_cons.mp hi'
  rw [isA_nil.mp i2]
  refine ⟨_, pss_one (ps_ret (pe_and (pe_call G1 (hr.mono (by decide)) (by rfl) T.tupOf.mg T.tupOf.fn.kp T.tupOf.bd .nil pass0 (pa_cons (pv 0) (pa_cons pe_int (pa_cons (C8.pe_gc (v := .int 12) (by rfl) (gc_int T.cFOLDS)) pa_nil))))
    (pe_one (pe_callB (cr_all rfl) (by rfl) T.bAll boot_all (pa_cons
      (pe_lc (own := [("crease", 1)]) (g := gName 1) (tt := tYes) rfl scFoldsF.nd (pi_tup (pv 0)) (blkOk_by (N := ["value", "crease"]) (sc := defScope sFoldsF) (by decide +kernel)) (fun _ _ _ _ _ => pg_name (i := 1) scFoldsF.nd rfl (.inl rfl)) (fun _ _ _ _ _ => pts_nil)
        (fun _ _ _ _ _ => pe_call G2 hr (by rfl) T.crease.mg T.crease.fn.kp T.crease.bd .nil pass0 (pa_cons (pv 1) pa_nil))) pa_nil))))), ?_⟩
  refine ss_ret (s := shB (foldsB x)) ?_ q
  have hv : EvS (tVar 0) [some x1, none] H x := es_var rfl i1
  have h1 : EvS (tCall (spP fTupOf) [] E0 (tCons (tVar 0) (tCons (tC (.int 0)) (tCons (tC (.int 12)) tNil)))) [some x1, none] H (shB (lenIn 0 12 x)) := es_call (es_cons hv (es_cons es_c (es_cons es_c es_nil))) (sps_P ⟨x, 0, 12, rfl, hx, rfl⟩)
  cases x with
  | t ss =>
    have e0 : lenIn 0 12 (.t ss) = decide (ss.length ≤ 12) := by
      show (decide ((0 : Int) ≤ (ss.length : Int)) && decide ((ss.length : Int) ≤ 12)) = _
      by_cases h : ss.length ≤ 12
      · rw [decide_eq_true h, decide_eq_true (by omega), decide_eq_true (by omega)]; rfl
      · rw [decide_eq_false h, decide_eq_false (p := (ss.length : Int) ≤ 12) (by omega), Bool.and_false]
    rw [e0] at h1
    refine es_and h1 fun h => ?_
    have hl := of_decide_eq_true h
    exact es_allT hv (by omega) (fun x => rfl) (fun i s x H1 hi e hs => es_call (es_cons (es_var rfl hs) es_nil) (sps_P ⟨s, rfl, all_get hx hi, rfl⟩))
  | v y => exact es_is (es_and (a := false) (b := false) h1 fun z => by cases z) rfl
  | l ss => exact es_is (es_and (a := false) (b := false) h1 fun z => by cases z) rfl
/-! ### need_folds -/
theorem scNeedF : FnScope ["value"] ["value"] (defScope sNeedF) := ⟨rfl, rfl, rfl, by decide +kernel, rfl, by decide +kernel, by decide +kernel⟩
def fNeedF (ss : List Sh) (s : Sh) : Prop := ∃ x, ss = [x] ∧ topOk x = true ∧ foldsB x = true ∧ s = .v .non
def gNeedF (C : Addr) (ss : List Sh) (c : Value) (fs : Option (List (Str × V))) : Prop := ∃ x, ss = [x] ∧ topOk x = true ∧ foldsB x = false ∧ c = .ref C ∧ fs = none
theorem ok_needF (T : Txt K mg a) : FnOk P w K mg base (L2.CX P w) 4 a.needF.a a.needF.fd ["value"] (spF fNeedF (gNeedF a.cFolds)) := by
  have G1 := ok_foldsF (P := P) (w := w) (base := base) T
  refine T.needF.fn.okX scNeedF (spF_len (fun ss s ⟨_, e, _⟩ => by rw [e]; rfl) fun ss C fs ⟨_, e, _⟩ => by rw [e]; rfl) (fun cdv A outer s H vs Q E hr h => ?_)
  have term := fun (cdv : Value) (A : Around) (outer : List Env) (s : Shared) (H : Hp) (E : XK) (hr : Room 3 (A.deeper (envOfC "need_folds" (defScope sNeedF) s.heap.objs.size a.needF.a cdv))) =>
    (pss_one (ps_if (pt_not (pt_val (pe_call (X := cxOf (L2.CX P w) P w K mg base ["value"] "need_folds" (defScope sNeedF) a.needF.a cdv A outer s H E) G1 hr (by rfl) T.foldsF.mg T.foldsF.fn.kp T.foldsF.bd .nil pass0 (pa_cons (pv 0) pa_nil))))
      (pss_one (ps_raise rfl (takes_of rfl rfl rfl rfl) (pmk_own PySem.F.excBase_ValueError T.xFolds T.eFolds.mg T.eFolds.kC (raises_own T.eFolds.exC T.eFolds.tyC) (by exact rfl)))) pss_nil) : PSs _ (defBody sNeedF) _)
  refine ⟨_, term cdv A outer s H E hr, ?_⟩
  rcases h with ⟨ss, s', ⟨x, rfl, hx, hf, rfl⟩, hi', q⟩ | ⟨ss, C, fs, ⟨x, rfl, hx, hf, rfl, rfl⟩, hi', q⟩
  · obtain ⟨x1, r, rfl, i1, i2⟩ := isA_cons.mp hi'
    rw [isA_nil.mp i2]
    have h1 : EvT (tNot (tB (tCall (spP fFoldsF) [] E0 (tCons (tVar 0) tNil)))) [some x1] H (!foldsB x) := et_not (et_S (es_call (es_cons (es_var rfl i1) es_nil) (sps_P ⟨x, rfl, hx, rfl⟩)))
    rw [hf] at h1
    exact s_when h1 (fun z => by cases z) fun _ H1 e1 => q _ H1 e1 (is_v.mpr rfl)
  · obtain ⟨x1, r, rfl, i1, i2⟩ := isA_cons.mp hi'
    rw [isA_nil.mp i2]
    have h1 : EvT (tNot (tB (tCall (spP fFoldsF) [] E0 (tCons (tVar 0) tNil)))) [some x1] H (!foldsB x) := et_not (et_S (es_call (es_cons (es_var rfl i1) es_nil) (sps_P ⟨x, rfl, hx, rfl⟩)))
    rw [hf] at h1
    exact s_when h1 (fun _ H1 e1 => q none H1 e1 True.intro) fun z => by cases z
end
end K46

/-! K6: fits_lot, need_lot. -/
namespace K46
open PySem PySem.Spec PyProof.Rows L2 Evl
/-- the whole numbers of a tuple's elements -/
def unI : List Sh → List Int
  | .v (.int n) :: r => n :: unI r
  | _ => []
theorem unI_of {B : Int} : ∀ {ss : List Sh}, ss.all (inS B) = true → ss = shs (unI ss)
  | [], _ => rfl
  | s :: r, h => by
    have h' : inS B s = true ∧ r.all (inS B) = true := by simpa using h
    cases s with
    | v x =>
      cases x with
      | int n =>
        show Sh.v (.int n) :: r = Sh.v (.int n) :: shs (unI r)
        rw [← unI_of h'.2]
      | non => cases h'.1
      | bl _ => cases h'.1
      | str _ => cases h'.1
      | byt _ => cases h'.1
      | flt _ => cases h'.1
      | ref _ => cases h'.1
      | ty _ => cases h'.1
    | t _ => cases h'.1
    | l _ => cases h'.1
theorem adj_iff : ∀ {ns : List Int}, adj (shs ns) = true ↔ Asc ns
  | [] => by simp [adj, shs, Asc]
  | [n] => by simp [adj, shs, Asc]
  | n :: m :: r => by
    show (decide (n < m) && adj (shs (m :: r))) = true ↔ _
    rw [Bool.and_eq_true, decide_eq_true_eq, adj_iff (ns := m :: r)]
    constructor
    · rintro ⟨h1, h2⟩
      refine List.pairwise_cons.mpr ⟨fun k hk => ?_, h2⟩
      rcases List.mem_cons.mp hk with e | e
      · rw [e]; exact h1
      · exact Int.lt_trans h1 ((List.pairwise_cons.mp h2).1 k e)
    · intro h
      exact ⟨(List.pairwise_cons.mp h).1 m List.mem_cons_self, (List.pairwise_cons.mp h).2⟩
theorem adj_nums : ∀ ns : List Int, ((List.range (ns.length - 1)).all fun i => decide (ns.getD i 0 < ns.getD (i + 1) 0)) = adj (shs ns)
  | [] => rfl
  | [n] => rfl
  | n :: m :: r => by
    have ih := adj_nums (m :: r)
    show ((List.range (r.length + 1)).all fun i => decide ((n :: m :: r).getD i 0 < (n :: m :: r).getD (i + 1) 0)) = (decide (n < m) && adj (shs (m :: r)))
    rw [← ih, List.range_succ_eq_map, List.all_cons, List.all_map]
    rfl
section
variable {P : Program} {w : World} {K : PySem.W.Frag} {mg : Str → Option Value} {base : Heap} {a : Ad}
/-- [one < other for one, other in zip(t, t[1:])] -/
theorem es_zipLt {tl tl2 : TE} {H : Hp} {v0 v1 v2 v3 : Option V} {ns : List Int} (h : EvS tl [v0, v1, v2, v3] H (tI ns)) (h2 : EvS tl2 [v0, v1, v2, v3] H (tI (ns.drop 1))) (hz : ns.length ≤ 40000) :
    EvS (tLc (RZ.iZipA K (tCons tl (tCons tl2 tNil))) (gTup K 2 (gCons (gName 2) (gCons (gName 3) gNil))) tYes (tOp (rI0 fun i j => .bl (decide (i < j))) (tVar 2) (tVar 3)) [2, 3]) [v0, v1, v2, v3] H
      (.l (givS (ns.length - 1) (fun _ => true) (fun i => shB (decide (ns.getD i 0 < ns.getD (i + 1) 0))))) := fun H0 e Q q => h H0 e _ fun x H1 e1 i1 => h2 H1 (e.trans e1) _ fun y H2 e2 i2 => by
  obtain ⟨p, rfl, hp⟩ := is_tI.mp (i1.mono e2)
  obtain ⟨p2, rfl, hp2⟩ := is_tI.mp i2
  refine ⟨p, p2, _, _, rfl, .inr ⟨SqT.of hp, SqT.of hp2, fun Dl hD => ?_⟩⟩
  have hg : ∀ i : Nat, tupS (shB (decide (ns.getD i 0 < ns.getD (i + 1) 0))) = true := fun _ => rfl
  refine ⟨fun i m H' => m = (ns.length - 1) - i ∧ i ≤ ns.length - 1 ∧ CwS H2 (fun _ => true) (fun i => shB (decide (ns.getD i 0 < ns.getD (i + 1) 0))) Dl i H', ⟨ns.length - 1, by simp, Nat.zero_le _, cwS_0 hD⟩, ?_⟩
  rintro i m H' ⟨rfl, hi, pw⟩
  have q1 : SqT K H' p (ns.map V.int) := SqT.of (pw.2.1 p _ hp)
  have q2 : SqT K H' p2 ((ns.drop 1).map V.int) := SqT.of (pw.2.1 p2 _ hp2)
  by_cases hlt : i < ns.length - 1
  · have g1 : (ns.map V.int)[i]? = some (.int (ns.getD i 0)) := by
      rw [List.getElem?_map, List.getD_eq_getElem?_getD, List.getElem?_eq_getElem (show i < ns.length by omega)]
      rfl
    have g2 : ((ns.drop 1).map V.int)[i]? = some (.int (ns.getD (i + 1) 0)) := by
      rw [List.getElem?_map, List.getElem?_drop, Nat.add_comm 1 i, List.getD_eq_getElem?_getD, List.getElem?_eq_getElem (show i + 1 < ns.length by omega)]
      rfl
    refine .inr ⟨⟨_, _, _, _, q1, q2, g1, g2⟩, CwS H2 (fun _ => true) (fun i => shB (decide (ns.getD i 0 < ns.getD (i + 1) 0))) Dl (i + 1), fun H'' p' => ⟨(ns.length - 1) - (i + 1), by omega, rfl, hlt, p'⟩, fun v H'' hy => ?_⟩
    obtain ⟨T, x, y, rfl, hT, rfl, f1, f2⟩ := hy
    have ex : x = .int (ns.getD i 0) := Option.some.inj ((f1 _ q1).symm.trans g1)
    have ey : y = .int (ns.getD (i + 1) 0) := Option.some.inj ((f2 _ q2).symm.trans g2)
    subst ex ey
    refine ⟨T, _, rfl, SqT.of upd_same, rfl, _, _, rfl, ?_⟩
    refine ⟨_, _, rfl, ?_⟩
    refine ⟨rfl, rfl, ?_⟩
    have pw2 : CwS H2 (fun _ => true) (fun i => shB (decide (ns.getD i 0 < ns.getD (i + 1) 0))) Dl i (upd H' T (.tup [.int (ns.getD i 0), .int (ns.getD (i + 1) 0)])) := by
      obtain ⟨a1, a2, acc, a3, a4⟩ := pw
      exact ⟨a1, a2.trans (Ex.new hT), acc, Ex.new hT _ _ a3, a4.mono (Ex.new hT)⟩
    exact cwS_turn (t := tYes) hg pw2 (by omega) et_yes (fun _ => es_op (s1 := shI (ns.getD i 0)) (s2 := shI (ns.getD (i + 1) 0)) (es_var rfl (is_v.mpr rfl)) (es_var rfl (is_v.mpr rfl)) rs_I0)
  · have ei : i = ns.length - 1 := by omega
    subst ei
    refine .inl ⟨⟨_, _, q1, q2, .inr (by rw [List.length_map, List.length_drop]; omega)⟩, ?_⟩
    have z := cwS_end pw
    exact q _ H' ((e1.trans e2).trans z.1) z.2
/-! ### fits_lot -/
theorem scLotF : FnScope ["value", "place", "one", "other"] ["value"] (defScope sLotF) := ⟨rfl, rfl, rfl, by decide +kernel, rfl, by decide +kernel, by decide +kernel⟩
def fLotF (ss : List Sh) (s : Sh) : Prop := ∃ x, ss = [x] ∧ topOk x = true ∧ s = shB (lotB x)
theorem ok_lotF (T : Txt K mg a) : FnOk P w K mg base CX0 2 a.lotF.a a.lotF.fd ["value"] (spP fLotF) := by
  have G1 := ok_tupOf (P := P) (w := w) (base := base) T
  have G2 := ok_whole (P := P) (w := w) (base := base) T
  refine T.lotF.fn.ok scLotF (spP_len fun ss s ⟨_, e, _⟩ => by rw [e]; rfl) (fun cdv A outer s H vs Q E hr h => ?_)
  obtain ⟨ss, s', ⟨x, rfl, hx, rfl⟩, hi', q⟩ := h
  obtain ⟨x1, r, rfl, i1, i2⟩ := isA_cons.mp hi'
  rw [isA_nil.mp i2]
  refine ⟨_, pss_cons (ps_if (PW.pt (pw_or (pt_not (pt_val (pe_call G1 hr (by rfl) T.tupOf.mg T.tupOf.fn.kp T.tupOf.bd .nil pass0 (pa_cons (pv 0) (pa_cons pe_int (pa_cons (C8.pe_gc (v := .int 256) (by rfl) (gc_int T.cPLACES)) pa_nil))))))
      (pw_or1 (pt_not (pt_val (pe_callB (cr_all rfl) (by rfl) T.bAll boot_all (pa_cons
        (pe_lc (own := [("place", 1)]) (g := gName 1) (tt := tYes) rfl scLotF.nd (pi_tup (pv 0)) (blkOk_by (N := ["value", "place", "one", "other"]) (sc := defScope sLotF) (by decide +kernel)) (fun _ _ _ _ _ => pg_name (i := 1) scLotF.nd rfl (.inl rfl)) (fun _ _ _ _ _ => pts_nil)
          (fun _ _ _ _ _ => pe_call G2 hr (by rfl) T.whole.mg T.whole.fn.kp T.whole.bd .nil pass0 (pa_cons (pv 1) (pa_cons (pe_un un_neg (C8.pe_gc (v := .int 100000) (by rfl) (gc_int T.cFAR))) (pa_cons (C8.pe_gc (v := .int 100000) (by rfl) (gc_int T.cFAR)) pa_nil))))) pa_nil)))))))
      (pss_one (ps_ret pe_bl)) pss_nil)
    (pss_one (ps_ret (pe_callB (cr_all rfl) (by rfl) T.bAll boot_all (pa_cons
      (pe_lc (own := [("one", 2), ("other", 3)]) (g := gTup K 2 (gCons (gName 2) (gCons (gName 3) gNil))) (tt := tYes) rfl scLotF.nd
        (RZ.pi_zipA (by rfl) T.bZip (pa_cons (pv 0) (pa_cons (pe_slice sl_tupA (pv 0) (po_some pe_int) po_none) pa_nil))) (blkOk_by (N := ["value", "place", "one", "other"]) (sc := defScope sLotF) (by decide +kernel))
        (fun _ _ _ _ _ => pg_tup rfl (pgs_cons (pg_name (i := 2) scLotF.nd rfl (.inl rfl)) (pgs_cons (pg_name (i := 3) scLotF.nd rfl (.inl rfl)) pgs_nil))) (fun _ _ _ _ _ => pts_nil)
        (fun _ _ _ _ _ => pe_cmpR op_lt (pv 2) (pv 3) (nomark _))) pa_nil)))), ?_⟩
  have hv : EvS (tVar 0) [some x1, none, none, none] H x := es_var rfl i1
  have h1 : EvT (tNot (tB (tCall (spP fTupOf) [] E0 (tCons (tVar 0) (tCons (tC (.int 0)) (tCons (tC (.int 256)) tNil)))))) [some x1, none, none, none] H (!lenIn 0 256 x) := et_not (et_S (es_call (es_cons hv (es_cons es_c (es_cons es_c es_nil))) (sps_P ⟨x, 0, 256, rfl, hx, rfl⟩)))
  cases x with
  | v y => exact q_when (b := true) (et_is (et_or (b := false) h1 fun z => by cases z) rfl) (fun _ H1 e1 => q _ H1 e1 (is_v.mpr rfl)) fun z => by cases z
  | l ss => exact q_when (b := true) (et_is (et_or (b := false) h1 fun z => by cases z) rfl) (fun _ H1 e1 => q _ H1 e1 (is_v.mpr rfl)) fun z => by cases z
  | t ss =>
    have e0 : lenIn 0 256 (.t ss) = decide (ss.length ≤ 256) := by
      show (decide ((0 : Int) ≤ (ss.length : Int)) && decide ((ss.length : Int) ≤ 256)) = _
      by_cases h : ss.length ≤ 256
      · rw [decide_eq_true h, decide_eq_true (by omega), decide_eq_true (by omega)]; rfl
      · rw [decide_eq_false h, decide_eq_false (p := (ss.length : Int) ≤ 256) (by omega), Bool.and_false]
    rw [e0] at h1
    by_cases hl : ss.length ≤ 256
    · rw [decide_eq_true hl] at h1
      have h2 : EvT (tNot (tB (tCB (rAll K) (tCons (tLc (iTup K (tVar 0)) (gName 1) tYes (tCall spWhole [] E0 (tCons (tVar 1) (tCons (tUn (rU fun i => .int (-i)) (tC (.int 100000))) (tCons (tC (.int 100000)) tNil)))) [1]) tNil)))) [some x1, none, none, none] H (!ss.all (inS 100000)) :=
        et_not (et_S (es_allT hv (by omega) (fun x => rfl) (fun i s x H1 hi e hs => es_call (es_cons (es_var rfl hs) (es_cons (es_un es_c rus_neg) (es_cons es_c es_nil))) (sps_elem (all_get hx hi) rfl rfl))))
      refine q_when (et_or h1 fun _ => h2) (fun hb H1 e1 => ?_) fun hb H1 e1 => ?_
      · have e3 : ss.all (inS 100000) = false := by simpa using hb
        have e4 : lotB (.t ss) = false := by
          show (decide (ss.length ≤ 256) && (ss.all (inS 100000) && adj ss)) = false
          rw [e3, Bool.false_and, Bool.and_false]
        rw [e4] at q
        exact q _ H1 e1 (is_v.mpr rfl)
      · have e3 : ss.all (inS 100000) = true := by simpa using hb
        have e5 := unI_of e3
        generalize unI ss = ns at e5
        subst e5
        have hn : ns.length ≤ 256 := by
          have z : (shs ns).length = ns.length := by unfold shs; rw [List.length_map]
          omega
        have e4 : lotB (.t (shs ns)) = adj (shs ns) := by
          show (decide ((shs ns).length ≤ 256) && ((shs ns).all (inS 100000) && adj (shs ns))) = _
          rw [decide_eq_true hl, e3]; rfl
        have hv2 : EvS (tVar 0) [some x1, none, none, none] H1 (tI ns) := hv.mono e1
        have hd : EvS (tSl (rSlA K) (tVar 0) (tPart (tC (.int 1))) tNoPart) [some x1, none, none, none] H1 (tI (ns.drop 1)) := by
          have z := es_slT (K := K) hv2 (eo_someS (i := 1) es_c) eo_none
          rw [show cutS (shs ns) (some 1) none = (shs ns).drop 1 from cut_from (shs ns) 1] at z
          unfold tI shs
          unfold shs at z
          rw [List.map_drop]
          exact z
        have hzip := es_zipLt (K := K) hv2 hd (by omega)
        have e6 : givS (ns.length - 1) (fun _ => true) (fun i => shB (decide (ns.getD i 0 < ns.getD (i + 1) 0))) = ((List.range (ns.length - 1)).map fun i => decide (ns.getD i 0 < ns.getD (i + 1) 0)).map shB := by
          unfold givS
          rw [List.filter_eq_self.mpr fun _ _ => rfl, List.map_map]
          rfl
        rw [e6] at hzip
        refine ss_ret (es_cb (es_cons hzip es_nil) rcs_all) fun v H2 e2 i2 => ?_
        rw [e4] at q
        refine q v H2 (e1.trans e2) ?_
        rw [← adj_nums ns]
        rw [List.all_map] at i2
        exact i2
    · rw [decide_eq_false hl] at h1
      have e4 : lotB (.t ss) = false := by
        show (decide (ss.length ≤ 256) && (ss.all (inS 100000) && adj ss)) = false
        rw [decide_eq_false hl, Bool.false_and]
      rw [e4] at q
      exact q_when (b := true) (et_is (et_or (b := false) h1 fun z => by cases z) rfl) (fun _ H1 e1 => q _ H1 e1 (is_v.mpr rfl)) fun z => by cases z
/-! ### need_lot -/
theorem scNeedL : FnScope ["value"] ["value"] (defScope sNeedL) := ⟨rfl, rfl, rfl, by decide +kernel, rfl, by decide +kernel, by decide +kernel⟩
def fNeedL (ss : List Sh) (s : Sh) : Prop := ∃ x, ss = [x] ∧ topOk x = true ∧ lotB x = true ∧ s = .v .non
def gNeedL (C : Addr) (ss : List Sh) (c : Value) (fs : Option (List (Str × V))) : Prop := ∃ x, ss = [x] ∧ topOk x = true ∧ lotB x = false ∧ c = .ref C ∧ fs = none
theorem ok_needL (T : Txt K mg a) : FnOk P w K mg base (L2.CX P w) 3 a.needL.a a.needL.fd ["value"] (spF fNeedL (gNeedL a.cLot)) := by
  have G1 := ok_lotF (P := P) (w := w) (base := base) T
  refine T.needL.fn.okX scNeedL (spF_len (fun ss s ⟨_, e, _⟩ => by rw [e]; rfl) fun ss C fs ⟨_, e, _⟩ => by rw [e]; rfl) (fun cdv A outer s H vs Q E hr h => ?_)
  refine ⟨_, pss_one (ps_if (pt_not (pt_val (pe_call G1 hr (by rfl) T.lotF.mg T.lotF.fn.kp T.lotF.bd .nil pass0 (pa_cons (pv 0) pa_nil))))
      (pss_one (ps_raise rfl (takes_of rfl rfl rfl rfl) (pmk_own PySem.F.excBase_ValueError T.xLot T.eLot.mg T.eLot.kC (raises_own T.eLot.exC T.eLot.tyC) (by exact rfl)))) pss_nil), ?_⟩
  rcases h with ⟨ss, s', ⟨x, rfl, hx, hf, rfl⟩, hi', q⟩ | ⟨ss, C, fs, ⟨x, rfl, hx, hf, rfl, rfl⟩, hi', q⟩
  · obtain ⟨x1, r, rfl, i1, i2⟩ := isA_cons.mp hi'
    rw [isA_nil.mp i2]
    have h1 : EvT (tNot (tB (tCall (spP fLotF) [] E0 (tCons (tVar 0) tNil)))) [some x1] H (!lotB x) := et_not (et_S (es_call (es_cons (es_var rfl i1) es_nil) (sps_P ⟨x, rfl, hx, rfl⟩)))
    rw [hf] at h1
    exact s_when h1 (fun z => by cases z) fun _ H1 e1 => q _ H1 e1 (is_v.mpr rfl)
  · obtain ⟨x1, r, rfl, i1, i2⟩ := isA_cons.mp hi'
    rw [isA_nil.mp i2]
    have h1 : EvT (tNot (tB (tCall (spP fLotF) [] E0 (tCons (tVar 0) tNil)))) [some x1] H (!lotB x) := et_not (et_S (es_call (es_cons (es_var rfl i1) es_nil) (sps_P ⟨x, rfl, hx, rfl⟩)))
    rw [hf] at h1
    exact s_when h1 (fun _ H1 e1 => q none H1 e1 True.intro) fun z => by cases z
end
end K46

set_option maxHeartbeats 8000000
/-! K7: set(a list | a tuple of whole numbers), sorted of it. -/
namespace K46
open PySem PySem.Spec PyProof.Rows L2 Evl
/-- a set without members, as it is made -/
abbrev set0 (w : World) : Obj := { cls := .type "set", dict := none, data := .set #[] 0 (.fresh 0 0 (!w.params.followText "set-order")) }
section
variable {P : Program} {w : World} {A : Around} {E : Value → Shared → Prop} {s : Shared}
theorem set_of_list {l : Addr} {items : Array Value} (ns : List Int) {Q : Value → Shared → Prop} (calm : A.handled = none) (src : s.heap.IsList l items) (hin : IntsAre items.toList ns) (room : ns.length + 1 < scanBound)
    (fin : ∀ (h' : Heap) (tk c : Nat), SetR w h' s.heap.objs.size (fun j => decide (j ∈ ns)) c → c ≤ ns.length → (∀ b o, s.heap.get? b = some o → h'.get? b = some o) → Q (.ref s.heap.objs.size) { s with heap := h', toks := tk }) :
    wpAny (model P w) A (call (.type "set") [.ref l]) Q E s := by
  have size : items.size = ns.length := by rw [← IntsAre.length hin, Array.length_toList]
  have ⟨_, _, _⟩ := F.called_set.mro
  have f1 := F.called_set.made
  have f2 := F.called_set.sub
  have f3 := F.called_set.notType
  have f4 := F.called_set.canCreate
  have f5 := F.typeCall_set_1 (.ref l)
  refine wpAny_call (codeAny_of_tree ?_)
  show wpAny _ _ (callAny (.type "set") _) _ _ _
  refine wpAny_pure ⟨Code.quiet_builtin _ (by decide +kernel), codeAny_builtin F.entry_type_call ?_⟩
  rw [Around.under_plain (weight_type_call_type "set" [.ref l] []) rfl]
  repeat (any_goals (first | assumption | wp_step))
  refine codeAny_mono (code_set_led1 (.ref l) (E := E) (Q₁ := fun o s1 => o = .ref s.heap.objs.size ∧ s1 = { s with heap := s.heap.push (set0 w) }) ⟨rfl, rfl⟩) fun r s1 hr => ?_
  cases r with
  | error e => exact hr
  | ok fl =>
    cases fl with
    | next => exact hr.elim
    | brk => exact hr.elim
    | cont => exact hr.elim
    | ret obj =>
      obtain ⟨rfl, rfl⟩ := hr
      have at0 : (s.heap.push (set0 w)).get? s.heap.objs.size = some (set0 w) := Heap.get?_push_size _ rfl
      have ty0 : Shared.TypeIs { s with heap := s.heap.push (set0 w) } (.ref s.heap.objs.size) "set" := ⟨_, at0, rfl⟩
      have g1 := F.called_set.init.lookup
      have g2 := F.called_set.init.bind (.ref s.heap.objs.size)
      repeat (any_goals (first | assumption | wp_step))
      refine codeAny_mono (codeAny_call_builtin (R := wants (fun r s2 => r = .none ∧ ∃ h' tk c, s2 = { s with heap := h', toks := tk } ∧ SetR w h' s.heap.objs.size (fun j => decide (j ∈ ns)) c ∧ c ≤ ns.length ∧ (∀ b o, s.heap.get? b = some o → h'.get? b = some o)) E)
        F.called_set.init.plain F.entry_set_init (check_set_init_1 ty0 ?_)) fun r2 s2 hr2 => ?_
      · obtain ⟨⟨oc, od, odt, osl⟩, ho, hc, nl, hd⟩ := src
        simp only at hc hd
        subst hc hd
        have ho' : (s.heap.push (set0 w)).get? l = some { cls := .type "list", dict := od, data := .seq items nl, slots := osl } := Heap.get?_push_of_some _ ho
        have g3 := F.sub_list_set
        have g4 := F.sub_list_frozenset
        have g5 : (Value.type "list" == Value.type "dict") = false := by decide
        have src1 : (s.heap.push (set0 w)).IsList l items := ⟨_, ho', rfl, nl, rfl⟩
        unfold Builtin.«set.__init__» noKeywords Builtin.Frozenset.updateFrom
        generalize hPI : pyIter = PI
        wp_walk
        subst hPI
        refine wpAny_pyIter_list src1 (wpAny_bind (wpAny_runValue ?_))
        have ll : l < s.heap.objs.size := Heap.lt_size ho
        have c3 : A.in1.in1.in1.handled = none := by simp [calm]
        have sz1 : (s.heap.push (set0 w)).objs.size = s.heap.objs.size + 1 := Heap.size_push ..
        have nI : l ≠ (s.heap.push (set0 w)).objs.size := by rw [sz1]; exact Nat.ne_of_lt (Nat.lt_succ_of_lt ll)
        have nS : s.heap.objs.size ∉ [(s.heap.push (set0 w)).objs.size, l] := by
          rw [sz1]
          simp only [List.mem_cons, List.not_mem_nil, or_false, not_or]
          exact ⟨Nat.ne_of_lt (Nat.lt_succ_self _), Nat.ne_of_gt ll⟩
        have vals : ∀ (i : Nat) (v : Value), items[i]? = some v → ∃ k t, ns[i]? = some k ∧ v = .int k t := fun i v hv => by
          have hi : i < ns.length := by
            rw [← size]
            exact (Array.getElem?_eq_some_iff.mp hv).1
          have hv' : items.toList[i]? = some v := by rw [Array.getElem?_toList]; exact hv
          obtain ⟨t, e⟩ := PyProof.Rows.IntsAre.int_at hin i v hv'
          rw [List.getD_eq_getElem?_getD, List.getElem?_eq_getElem hi] at e
          exact ⟨_, t, List.getElem?_eq_getElem hi, e⟩
        refine set_update_ints ((Walks.list c3 _ l nI items).toS) s.heap.objs.size nS ns size room vals (items.size - 0) 0 _ (by omega) (Nat.zero_le _) ⟨⟨_, Heap.get?_push_size _ rfl, rfl, rfl⟩, src1.push _⟩ ⟨0, Nat.le_refl 0, setR_new_at (Heap.get?_push_of_some _ at0)⟩ ?_
        intro s' c' hm hc' hS'
        obtain ⟨h', g2', d', tk', os'⟩ := s'
        cases (show g2' = s.gens from hm.gens)
        cases (show d' = s.drawn from hm.drawn)
        cases (show os' = s.os from hm.os)
        show wpAny _ _ _ _ _ _
        refine wpAny_pure ?_
        show wpAny _ _ (ret Value.none) _ _ _
        rw [size] at hc'
        refine wpAny_pure ⟨rfl, h', tk', c', rfl, hS', hc', fun b o e => hm.heap b o ?_ (Heap.get?_push_of_some _ (Heap.get?_push_of_some _ e))⟩
        have lb : b < s.heap.objs.size := Heap.lt_size e
        simp only [List.mem_cons, List.not_mem_nil, or_false, not_or]
        refine ⟨Nat.ne_of_lt lb, ?_⟩
        rw [sz1]
        exact Nat.ne_of_lt (Nat.lt_succ_of_lt lb)
      · cases r2 with
        | error e => exact hr2
        | ok fl2 =>
          cases fl2 with
          | next => exact hr2.elim
          | brk => exact hr2.elim
          | cont => exact hr2.elim
          | ret r =>
            obtain ⟨rfl, h', tk, c', rfl, hS', hc', hk'⟩ := hr2
            repeat (any_goals (first | assumption | wp_step))
            exact fin _ _ _ hS' hc' hk'
end
/-! ### set(x), sorted(set) by readings -/
theorem sd_len : ∀ {l : List Int}, l.Nodup → (sd l).length = l.length
  | [], _ => rfl
  | x :: r, h => by
    have b := List.nodup_cons.mp h
    have key : ∀ {s : List Int}, x ∉ s → (insS x s).length = s.length + 1 := by
      intro s
      induction s with
      | nil => intro _; rfl
      | cons y s ih =>
        intro hn
        have hn' : x ≠ y ∧ x ∉ s := by simpa [List.mem_cons, not_or] using hn
        unfold insS
        split
        · rfl
        · rw [if_neg hn'.1, List.length_cons, ih hn'.2]; rfl
    show (insS x (sd r)).length = r.length + 1
    rw [key fun q => b.1 (mem_sd.mp q), sd_len b.2]
theorem setR_len {w : World} {h : Heap} {p : Addr} {ns : List Int} {c : Nat} (R : SetR w h p (fun j => decide (j ∈ ns)) c) : c = (sd ns).length := by
  obtain ⟨o, es, ep, t, ho, hex, hdt, g, nd, hm2, hb, hf, hn, hr, hl2⟩ := R
  have e : sd ns = sd (es.toList.map keyOf) := asc_ext (asc_sd _) (asc_sd _) fun k => by
    rw [mem_sd, mem_sd]
    have z : decide (k ∈ ns) = true ↔ k ∈ es.toList.map keyOf := hm2 k
    rw [decide_eq_true_eq] at z
    exact z
  rw [e, sd_len nd, List.length_map, Array.length_toList, hn]
theorem intsOf : ∀ {ns : List Int} {us : List Value}, Vals (ns.map V.int) us → PyProof.Rows.IntsAre us ns
  | [], _, .nil => .nil
  | n :: ns, _, .cons r t => by
    obtain ⟨k, rfl⟩ := r
    exact .cons n k (intsOf t)
def rSetOf (K : PySem.W.Frag) (w : World) : List V → Hp → VK → Prop := fun vs H Q => ∃ (l : Addr) (ns : List Int), vs = [V.ref l] ∧ (SqL K H l (ns.map V.int) ∨ SqT K H l (ns.map V.int)) ∧ ns.length ≤ 2000 ∧
  ∀ (p : Addr), H p = none → Q (.ref p) (upd H p (SetO w p (fun j => decide (j ∈ ns)) (sd ns).length))
theorem cr_setOf {X : Cx} (hc : X.calm = true) : CallR X (.type "set") (rSetOf X.K X.w) := by
  intro pins s σ H vs us Q I r h
  obtain ⟨l, ns, rfl, hq, hz, q⟩ := h
  rw [Vals.ref1 r]
  have fin : ∀ (h' : Heap) (tk c : Nat), SetR X.w h' s.heap.objs.size (fun j => decide (j ∈ ns)) c → c ≤ ns.length → (∀ b o, s.heap.get? b = some o → h'.get? b = some o) → EP X pins σ Q (.ref s.heap.objs.size) { s with heap := h', toks := tk } := fun h' tk c R hcn k => by
    have ec := setR_len R
    subst ec
    exact ⟨.ref s.heap.objs.size, _, I.laid (t' := tk) k (Nat.le_refl _) (setO_new R), rfl, q _ (I.hok.fresh (Nat.le_refl _))⟩
  rcases hq with hq | hq
  · obtain ⟨its, rv, pl, _⟩ := I.list hq
    exact set_of_list ns (I.ok.hd hc) pl.isList (by simpa using intsOf rv) (by unfold scanBound; omega) fin
  · obtain ⟨its, rv, pt, _⟩ := I.tuple hq
    exact call_set_tupI ns (I.ok.hd hc) (show s.heap.IsTuple l its.toArray from pt) (by simpa using intsOf rv) (by unfold scanBound; omega) fin
section
variable {K : PySem.W.Frag} {w : World} {σ : L2.St} {H : Hp} {te : TE}
/-- sorted(set(xs)), xs a list or a tuple of whole numbers, fewer than 64 unlike ones -/
theorem es_sortSet {ns : List Int} {b : Bool} (h : EvS te σ H (if b then lI ns else tI ns)) (hz : ns.length ≤ 2000) (h64 : (sd ns).length < 64) : EvS (tCB (rSortedSet w) (tCons (tCB (rSetOf K w) (tCons te tNil)) tNil)) σ H (lI (sd ns)) := fun H1 e Q q =>
  h H1 e _ fun v H2 e2 i2 => by
    have hq : ∃ l, v = .ref l ∧ (SqL K H2 l (ns.map V.int) ∨ SqT K H2 l (ns.map V.int)) := by
      cases b with
      | true =>
        obtain ⟨p, rfl, hp⟩ := is_lI.mp i2
        exact ⟨p, rfl, .inl (SqL.of hp)⟩
      | false =>
        obtain ⟨p, rfl, hp⟩ := is_tI.mp i2
        exact ⟨p, rfl, .inr (SqT.of hp)⟩
    obtain ⟨l, rfl, hl⟩ := hq
    refine ⟨l, ns, rfl, hl, hz, fun p hp => ⟨p, _, _, rfl, upd_same, h64, fun ms r up mem len hr => ?_⟩⟩
    have em : ms = sd ns := asc_ext up (asc_sd ns) fun k => by rw [mem k, decide_eq_true_eq, mem_sd]
    subst em
    exact q _ _ (e2.trans ((Ex.new hp).trans (Ex.new hr))) (is_lI.mpr ⟨r, rfl, upd_same⟩)
end
end K46

/-! K8: inked. -/
namespace K46
open PySem PySem.Spec PyProof.Rows L2 Evl
theorem shs_len (ns : List Int) : (shs ns).length = ns.length := List.length_map _
theorem shs_get {ns : List Int} {i : Nat} {s : Sh} (h : (shs ns)[i]? = some s) : s = shI (ns.getD i 0) ∧ i < ns.length := by
  have hl : i < ns.length := by
    have := (List.getElem?_eq_some_iff.mp h).1
    rw [shs_len] at this
    exact this
  unfold shs at h
  rw [List.getElem?_map, List.getElem?_eq_getElem hl] at h
  rw [List.getD_eq_getElem?_getD, List.getElem?_eq_getElem hl]
  exact ⟨(Option.some.inj h).symm, hl⟩
theorem givS_ints (ns : List Int) (F : Int → Int) : givS (shs ns).length (fun _ => true) (fun i => shI (F (ns.getD i 0))) = shs (ns.map F) := by
  have e := givS_all (ss := shs ns) (n := (shs ns).length) (g := fun i => shI (F (ns.getD i 0))) (F := fun s => match s with | .v (.int n) => shI (F n) | s => s) rfl fun i s hi => by
    rw [(shs_get hi).1]
    rfl
  rw [e]
  unfold shs
  rw [List.map_map, List.map_map]
  rfl
section
variable {P : Program} {w : World} {K : PySem.W.Frag} {mg : Str → Option Value} {base : Heap} {a : Ad}
theorem scInked : FnScope ["lot", "folds", "places", "crease", "place"] ["lot", "folds"] (defScope sInked) := ⟨rfl, rfl, rfl, by decide +kernel, rfl, by decide +kernel, by decide +kernel⟩
def fInked (ss : List Sh) (s : Sh) : Prop := ∃ ns fs, ss = [tI ns, tI fs] ∧ s = lI (inkM ns fs) ∧ ns.length ≤ 900 ∧ (fs = [] ∨ (inkM ns fs).length < 64)
theorem ok_inked (T : Txt K mg a) : FnOk P w K mg base CX0 1 a.inked.a a.inked.fd ["lot", "folds"] (spP fInked) := by
  refine T.inked.fn.ok scInked (spP_len fun ss s ⟨_, _, e, _⟩ => by rw [e]; rfl) (fun cdv A outer s H vs Q E hr h => ?_)
  obtain ⟨ss, s', ⟨ns, fs, rfl, rfl, hn, hb⟩, hi', q⟩ := h
  obtain ⟨x1, r, rfl, i1, i2⟩ := isA_cons.mp hi'
  obtain ⟨x2, r2, rfl, i3, i4⟩ := isA_cons.mp i2
  rw [isA_nil.mp i4]
  refine ⟨_, pss_cons (ps_set (i := 2) scInked.nd rfl (.inl rfl) (pe_callTy call_list_of (by rfl) T.bList boot_list (pa_cons (pv 0) pa_nil)))
    (pss_cons (ps_for PassesOwn.never rfl (pi_tup (pv 1)) (pg_name (i := 3) scInked.nd rfl (.inr rfl))
      (pss_one (ps_set (i := 2) scInked.nd rfl (.inl rfl) (pe_callB (cr_sortedSet rfl) (by rfl) T.bSorted boot_sorted (pa_cons (pe_callTy (cr_setOf rfl) (by rfl) T.bSet boot_set (pa_cons
        (pe_op op_cat (pv 2) (pe_lc (own := [("place", 4)]) (g := gName 4) (tt := tYes) rfl scInked.nd (pi_list (pv 2)) (blkOk_by (N := ["lot", "folds", "places", "crease", "place"]) (sc := defScope sInked) (by decide +kernel))
          (fun _ _ _ _ _ => pg_name (i := 4) scInked.nd rfl (.inl rfl)) (fun _ _ _ _ _ => pts_nil) (fun _ _ _ _ _ => pe_op op_sub (pv 3) (pv 4)))) pa_nil)) pa_nil)))))
    (pss_one (ps_ret (pv 2)))), ?_⟩
  refine qs_asg (s := lI ns) (es_cb (es_cons (es_var rfl i1) es_nil) rcs_listT) fun v H1 e1 iv => ?_
  obtain ⟨p, rfl, hp⟩ := is_tI.mp (i3.mono e1)
  refine q_forT (xs := fs.map V.int) (ev_var rfl) (SqT.of hp) (fun i σ' H' => ∃ pl c3, σ' = [some x1, some (.ref p), some pl, c3, none] ∧ Ex H1 H' ∧ Is (lI (inkM ns (fs.take i))) pl H') (fun H2 e2 => ⟨v, none, rfl, e2, iv.mono e2⟩)
    (fun i σ' H' _ ⟨_, _, _, e2, _⟩ => SqT.of (e2 _ _ hp)) (fun i x σ' H' hx hP => ?_) fun σ' H' hP => ?_
  · obtain ⟨pl, c3, rfl, e2, il⟩ := hP
    obtain ⟨c, hc, rfl⟩ : ∃ c, fs[i]? = some c ∧ x = V.int c := by
      rw [List.getElem?_map] at hx
      cases h : fs[i]? with
      | none => rw [h] at hx; cases hx
      | some c => rw [h] at hx; exact ⟨c, rfl, (Option.some.inj hx).symm⟩
    generalize hm : inkM ns (fs.take i) = ms at il
    have hfs : fs ≠ [] := fun z => by rw [z] at hc; simp at hc
    have hb' : (inkM ns fs).length < 64 := hb.resolve_left hfs
    have hstep : foldStep ms c = inkM ns (fs.take (i + 1)) := by rw [inkM_take_succ hc, hm]
    have h64 : (sd (ms ++ ms.map (fun p => c - p))).length < 64 := by
      show (foldStep ms c).length < 64
      refine Nat.lt_of_le_of_lt ?_ hb'
      have a1 : Asc (inkM ns (fs.take (i + 1))) := by rw [← hstep]; exact asc_sd _
      have a2 : Asc (inkM ns fs) := by
        have e : inkM ns fs = inkM (inkM ns (fs.take (i + 1))) (fs.drop (i + 1)) := by rw [← inkM_append, List.take_append_drop]
        rw [e]
        exact asc_inkM a1
      rw [hstep]
      exact asc_len a1 a2 (inkM_take_sub ns fs (i + 1))
    have hms : ms.length ≤ 900 := by
      by_cases hi0 : i = 0
      · subst hi0
        rw [← hm]
        exact hn
      · have a1 : Asc ms := by
          obtain ⟨j, rfl⟩ : ∃ j, i = j + 1 := ⟨i - 1, by omega⟩
          have hj : j < fs.length := by have := (List.getElem?_eq_some_iff.mp hc).1; omega
          rw [← hm, inkM_take_succ (List.getElem?_eq_getElem hj)]
          exact asc_sd _
        have a2 : ms.length ≤ (sd (ms ++ ms.map (fun p => c - p))).length := asc_len a1 (asc_sd _) fun k hk => mem_sd.mpr (List.mem_append_left _ hk)
        omega
    have hcomp : EvS (tLc (iList K (tVar 2)) (gName 4) tYes (tOp (rI0 fun i j => .int (i - j)) (tVar 3) (tVar 4)) [4]) [some x1, some (.ref p), some pl, some (.int c), none] H' (lI (ms.map fun p => c - p)) := by
      have z := es_lcL (K := K) (t := tYes) (te := tOp (rI0 fun i j => .int (i - j)) (tVar 3) (tVar 4)) (tl := tVar 2) (σ := [some x1, some (.ref p), some pl, some (.int c), none]) (H := H') (ss := shs ms) (j := 4) (vs := [4]) (fun _ => true) (fun i => shI (c - ms.getD i 0)) (fun _ => rfl) (es_var rfl il) (by rw [shs_len]; omega) (fun x => rfl) (fun _ _ _ _ _ _ _ => et_yes)
        (fun i s x H2 hi e hs _ => by
          rw [(shs_get hi).1] at hs
          exact es_op (s1 := shI c) (s2 := shI (ms.getD i 0)) (es_var rfl (is_v.mpr rfl)) (es_var rfl hs) rs_I0)
      rw [givS_ints ms (fun p => c - p)] at z
      exact z
    have hcat : EvS (tOp rCat (tVar 2) (tLc (iList K (tVar 2)) (gName 4) tYes (tOp (rI0 fun i j => .int (i - j)) (tVar 3) (tVar 4)) [4])) [some x1, some (.ref p), some pl, some (.int c), none] H' (lI (ms ++ ms.map fun p => c - p)) := by
      have z := es_op (es_var (i := 2) (σ := [some x1, some (.ref p), some pl, some (.int c), none]) rfl il) hcomp (rs_cat (ss := shs ms) (ts := shs (ms.map fun p => c - p)) (by rw [shs_len, shs_len, List.length_map]; omega))
      unfold lI
      unfold shs at z ⊢
      rw [List.map_append]
      exact z
    refine ss_asg (es_sortSet (b := true) hcat (by rw [List.length_append, List.length_map]; omega) h64) fun v2 H2 e3 iv2 => ?_
    refine ⟨v2, some (.int c), rfl, e2.trans e3, ?_⟩
    rw [← hstep]
    exact iv2
  · obtain ⟨pl, c3, rfl, e2, il⟩ := hP
    rw [List.length_map, List.take_length] at il
    exact ss_ret (es_var rfl il) fun v2 H2 e3 i5 => q v2 H2 ((e1.trans e2).trans e3) i5
end
end K46

/-! K9: dicts from whole numbers to True; greatest_in. -/
namespace K46
open PySem PySem.Spec PyProof.Rows L2 Evl
def tk (ks : List Int) : List (Key × V) := ks.map fun k => (Sum.inl k, V.bl true)
theorem any_tk (n : Int) : ∀ ks : List Int, ((tk ks).any fun kv => decide (kv.1 = Sum.inl n)) = decide (n ∈ ks)
  | [] => by simp [tk]
  | k :: ks => by
    have ih := any_tk n ks
    unfold tk at ih ⊢
    rw [List.map_cons, List.any_cons, ih, key_ll]
    by_cases e : k = n
    · subst e; simp
    · have e2 : (k == n) = false := by simpa using e
      have e3 : ¬ n = k := fun z => e z.symm
      rw [e2, Bool.false_or]
      simp [e3]
theorem valV_tk (n : Int) (ks : List Int) : (valV (tk ks) (Sum.inl n : Key)).isSome = decide (n ∈ ks) := by
  rw [← valV_any, any_tk]
theorem putK_tk (n : Int) (ks : List Int) : putK (tk ks) (Sum.inl n : Key) (V.bl true) = tk (if n ∈ ks then ks else ks ++ [n]) := by
  unfold putK
  rw [any_tk]
  by_cases h : n ∈ ks
  · rw [decide_eq_true h, if_pos rfl, if_pos h]
    unfold tk
    rw [List.map_map]
    refine List.map_congr_left fun k _ => ?_
    show (if (Sum.inl k : Key) = Sum.inl n then ((Sum.inl k : Key), V.bl true) else (Sum.inl k, V.bl true)) = _
    split <;> rfl
  · rw [decide_eq_false h, if_neg (by decide), if_neg h]
    unfold tk
    rw [List.map_append]
    rfl
theorem mergeK_tk : ∀ (bs as : List Int), (as ++ bs).Nodup → mergeK (tk as) (tk bs) = tk (as ++ bs)
  | [], as, _ => by rw [List.append_nil]; rfl
  | b :: bs, as, h => by
    have hb : b ∉ as := fun z => (List.nodup_append.mp h).2.2 b z b List.mem_cons_self rfl
    show mergeK (putK (tk as) (Sum.inl b) (V.bl true)) (tk bs) = _
    rw [putK_tk, if_neg hb, mergeK_tk bs (as ++ [b]) (by rw [List.append_assoc]; exact h), List.append_assoc]
    rfl
theorem mergeK_nil {ks : List Int} (h : ks.Nodup) : mergeK [] (tk ks) = tk ks := mergeK_tk ks [] (by simpa using h)
theorem tk_len (ks : List Int) : (tk ks).length = ks.length := List.length_map _
/-- the reading of dict(a list of pairs) -/
def rDictP (K : PySem.W.Frag) : List V → Hp → VK → Prop := fun xs H Q => ∃ (a : Addr) (ps : List Addr) (kvs : List (Key × V)), xs = [.ref a] ∧ SqL K H a (ps.map V.ref) ∧ Paired (fun p kv => SqT K H p [kV kv.1, kv.2]) ps kvs ∧ ∀ p, H p = none → Q (.ref p) (upd H p (.dK (mergeK [] kvs)))
theorem cr_dictP {X : Cx} (hc : X.calm = true) : CallR X (.type "dict") (rDictP X.K) := call_dictP hc
def pairS (k : Int) : Sh := .t [shI k, shB true]
theorem pairs_at {K : PySem.W.Frag} {H : Hp} : ∀ {ks : List Int} {xs : List V}, IsA (ks.map pairS) xs H → ∃ ps : List Addr, xs = ps.map V.ref ∧ Paired (fun (p : Addr) (kv : Key × V) => SqT K H p [kV kv.1, kv.2]) ps (tk ks)
  | [], xs, h => ⟨[], isA_nil.mp h, .nil⟩
  | k :: ks, xs, h => by
    obtain ⟨x, r, rfl, h1, h2⟩ := isA_cons.mp h
    obtain ⟨ps, rfl, h3⟩ := pairs_at (K := K) h2
    obtain ⟨p, ys, rfl, e1, e2⟩ := is_t.mp h1
    obtain ⟨y1, r1, rfl, e3, e4⟩ := isA_cons.mp e2
    obtain ⟨y2, r2, rfl, e5, e6⟩ := isA_cons.mp e4
    rw [isA_nil.mp e6] at e1
    have z1 := is_v.mp e3
    have z2 := is_v.mp e5
    subst z1 z2
    exact ⟨p :: ps, rfl, .cons (SqT.of e1) h3⟩
theorem givS_filter (ns : List Int) (f : Int → Bool) : givS (shs ns).length (fun i => f (ns.getD i 0)) (fun i => shI (ns.getD i 0)) = shs (ns.filter f) := by
  have key : ∀ (ms : List Int) (j : Nat), ns = ms.take 0 ++ ns → True := fun _ _ _ => trivial
  have e : ∀ l : List Nat, (l.filter (fun i => f (ns.getD i 0))).map (fun i => shI (ns.getD i 0)) = ((l.map fun i => ns.getD i 0).filter f).map shI := by
    intro l
    induction l with
    | nil => rfl
    | cons i l ih =>
      rw [List.map_cons, List.filter_cons, List.filter_cons]
      split
      · rw [List.map_cons, List.map_cons, ih]
      · exact ih
  unfold givS shs
  rw [e, List.length_map]
  congr 2
  apply List.ext_getElem
  · simp
  · intro i h1 h2
    rw [List.getElem_map, List.getElem_range, List.getD_eq_getElem?_getD, List.getElem?_eq_getElem h2]
    rfl
section
variable {K : PySem.W.Frag} {σ : L2.St} {H H' : Hp} {ta tb te tx tl : TE} {tz : TS} {D : Ends} {s : Sh} {ss : List Sh}
theorem qs_dict {i : Nat} {ks : List Int} (h : EvS te σ H (.l (ks.map pairS))) (nd : ks.Nodup) (k : ∀ p H1, H p = none → Ex H H1 → H1 p = some (.dK (tk ks)) → tz D (σ.set i (some (.ref p))) H1) :
    tSeq (tAsg (tCB (rDictP K) (tCons te tNil)) (gName i)) tz D σ H := h H (Ex.refl H) _ fun v H1 e1 i1 => by
  obtain ⟨a, xs, rfl, ea, hxs⟩ := is_l.mp i1
  obtain ⟨ps, rfl, hp⟩ := pairs_at (K := K) hxs
  refine ⟨a, ps, tk ks, rfl, SqL.of ea, hp, fun p np => ?_⟩
  rw [mergeK_nil nd]
  exact k p _ (fresh_back e1 np) (e1.trans (Ex.new np)) upd_same
theorem es_din {ks : List Int} {n : Int} {i : Nat} {d : Addr} (h : EvS ta σ H (shI n)) (hs : σ[i]? = some (some (.ref d))) (hd : H d = some (.dK (tk ks))) : EvS (tDIn ta (tVar i)) σ H (shB (decide (n ∈ ks))) := fun H1 e Q q => h H1 e _ fun v H2 e2 i2 => by
  have z := is_v.mp i2
  subst z
  have hd2 : H2 d = some (.dK (tk ks)) := e2 d _ (e d _ hd)
  refine ⟨.ref d, hs, d, _, rfl, DGet.k (k := Sum.inl n) hd2, ?_⟩
  rw [valV_tk]
  exact q _ H2 e2 (is_v.mpr rfl)
/-- all([p(x) for x in a list]) -/
theorem es_allL {j : Nat} {vs : List Nat} {p : Sh → Bool} (h : EvS tl σ H (.l ss)) (hz : ss.length ≤ 40000) (hw : ∀ x, wipe ((wipe σ vs).set j (some x)) vs = wipe σ vs)
    (he : ∀ (i : Nat) (s : Sh) (x : V) H1, ss[i]? = some s → Ex H H1 → Is s x H1 → EvS te ((wipe σ vs).set j (some x)) H1 (shB (p s))) :
    EvS (tCB (rAll K) (tCons (tLc (iList K tl) (gName j) tYes te vs) tNil)) σ H (shB (ss.all p)) := by
  have e1 := es_lcL (K := K) (t := tYes) (f := fun _ => true) (g := fun i => shB (p (ss.getD i (.v .non)))) (fun _ => rfl) h hz hw (fun _ _ _ _ _ _ _ => et_yes) (fun i s x H1 hi e hs _ => by
    have q := he i s x H1 hi e hs
    have e2 : ss.getD i (.v .non) = s := by rw [List.getD_eq_getElem?_getD, hi]; rfl
    rw [e2]
    exact q)
  have e3 : givS ss.length (fun _ => true) (fun i => shB (p (ss.getD i (.v .non)))) = (ss.map p).map shB := by
    rw [List.map_map]
    exact givS_all rfl fun i s hi => by
      have e2 : ss.getD i (.v .non) = s := by rw [List.getD_eq_getElem?_getD, hi]; rfl
      rw [e2]; rfl
  rw [e3] at e1
  exact es_is (es_cb (es_cons e1 es_nil) rcs_all) (by rw [bs_all])
end
/-- the scope of a comprehension that a def's body returns in a call -/
def retLcScope : List Stmt → Scope
  | [_, .Return (some (.Call _ [.ListComp _ _ sc _] _ _)) _] => sc
  | _ => { kind := .function, names := [], isGenerator := false, isCoroutine := false }
section
variable {P : Program} {w : World} {K : PySem.W.Frag} {mg : Str → Option Value} {base : Heap} {a : Ad}
theorem scGreatIn : FnScope ["lot", "folds", "places", "place", "there"] ["lot", "folds"] (defScope sGreatIn) := ⟨rfl, rfl, rfl, by decide +kernel, rfl, by decide +kernel, by decide +kernel⟩
def fGreatIn (ss : List Sh) (s : Sh) : Prop := ∃ ns fs, ss = [tI ns, tI fs] ∧ s = tI (gM ns fs) ∧ ns.length ≤ 300 ∧ Asc ns ∧ ∀ p ∈ ns, (inkM [p] fs).length < 64
theorem ok_greatIn (T : Txt K mg a) : FnOk P w K mg base CX0 2 a.greatIn.a a.greatIn.fd ["lot", "folds"] (spP fGreatIn) := by
  have G := ok_inked (P := P) (w := w) (base := base) T
  refine T.greatIn.fn.ok scGreatIn (spP_len fun ss s ⟨_, _, e, _⟩ => by rw [e]; rfl) (fun cdv A outer s H vs Q E hr h => ?_)
  obtain ⟨ss, s', ⟨ns, fs, rfl, rfl, hn, hasc, h64⟩, hi', q⟩ := h
  obtain ⟨x1, r, rfl, i1, i2⟩ := isA_cons.mp hi'
  obtain ⟨x2, r2, rfl, i3, i4⟩ := isA_cons.mp i2
  rw [isA_nil.mp i4]
  have hu := hu_of hr
  refine ⟨_, pss_cons (ps_set (i := 2) scGreatIn.nd rfl (.inr rfl) (pe_callTy (cr_dictP rfl) (by rfl) T.bDict boot_dict (pa_cons
      (pe_lc (own := [("place", 3)]) (g := gName 3) (tt := tYes) rfl scGreatIn.nd (pi_tup (pv 0)) (blkOk_by (N := ["lot", "folds", "places", "place", "there"]) (sc := defScope sGreatIn) (by decide +kernel)) (fun _ _ _ _ _ => pg_name (i := 3) scGreatIn.nd rfl (.inl rfl)) (fun _ _ _ _ _ => pts_nil)
        (fun _ _ _ _ _ => pe_tup (pa_cons (pv 3) (pa_cons pe_bl pa_nil)))) pa_nil)))
    (pss_one (ps_ret (pe_callTy call_tuple_of (by rfl) T.bTuple boot_tuple (pa_cons
      (pe_lc (own := [("place", 3)]) (g := gName 3) (tt := tB (tCB (rAll K) (tCons (tLc (iList K (tCall (spP fInked) [] E0 (tCons (tTup (tCons (tVar 3) tNil)) (tCons (tVar 1) tNil)))) (gName 4) tYes (tDIn (tVar 4) (tVar 2)) [4]) tNil))) rfl scGreatIn.nd (pi_tup (pv 0)) (blkOk_by (N := ["lot", "folds", "places", "place", "there"]) (sc := defScope sGreatIn) (by decide +kernel)) (fun _ _ _ _ _ => pg_name (i := 3) scGreatIn.nd rfl (.inl rfl))
        (fun _ _ _ _ _ => by
          refine pts_one (pt_val (pe_callB (cr_all rfl) (by rfl) T.bAll boot_all (pa_cons ?_ pa_nil)))
          refine pe_lc (own := [("there", 4)]) (g := gName 4) (tt := tYes) rfl scGreatIn.nd (pi_list ?_) (blkOk_by (N := ["lot", "folds", "places", "place", "there"]) (sc := relS (retLcScope (defBody sGreatIn)) (defScope sGreatIn)) (by decide +kernel)) (fun _ _ _ _ _ => pg_name (i := 4) scGreatIn.nd rfl (.inl rfl)) (fun _ _ _ _ _ => pts_nil) (fun _ _ _ _ _ => ?_)
          · exact pe_call G hr (by rfl) T.inked.mg T.inked.fn.kp T.inked.bd .nil pass0 (pa_cons (pe_tup (pa_cons (pv 3) pa_nil)) (pa_cons (pv 1) pa_nil))
          · exact pe_cmp (pc_din hu (pv 4) (pv 2)) (by rfl))
        (fun _ _ _ _ _ => pv 3)) pa_nil)))), ?_⟩
  have hd : EvS (tLc (iTup K (tVar 0)) (gName 3) tYes (tTup (tCons (tVar 3) (tCons (tC (.bl true)) tNil))) [3]) [some x1, some x2, none, none, none] H (.l (ns.map pairS)) := by
    have z := es_lcT (K := K) (t := tYes) (te := tTup (tCons (tVar 3) (tCons (tC (.bl true)) tNil))) (tl := tVar 0) (σ := [some x1, some x2, none, none, none]) (H := H) (ss := shs ns) (j := 3) (vs := [3]) (fun _ => true) (fun i => pairS (ns.getD i 0)) (fun _ => rfl) (es_var rfl i1) (by rw [shs_len]; omega) (fun x => rfl) (fun _ _ _ _ _ _ _ => et_yes)
      (fun i s x H2 hi e hs _ => by
        rw [(shs_get hi).1] at hs
        exact es_tup (es_cons (es_var rfl hs) (es_cons es_c es_nil)) (by show 2 ≤ 100000; decide))
    have e : givS (shs ns).length (fun _ => true) (fun i => pairS (ns.getD i 0)) = ns.map pairS := by
      have e1 := givS_all (ss := shs ns) (n := (shs ns).length) (g := fun i => pairS (ns.getD i 0)) (F := fun s => match s with | .v (.int n) => pairS n | s => s) rfl fun i s hi => by
        rw [(shs_get hi).1]
        rfl
      rw [e1]
      unfold shs
      rw [List.map_map]
      rfl
    rw [e] at z
    exact z
  refine qs_dict hd (asc_nodup hasc) fun d H1 nd e1 hd1 => ?_
  have main : EvS (tLc (iTup K (tVar 0)) (gName 3) (tB (tCB (rAll K) (tCons (tLc (iList K (tCall (spP fInked) [] E0 (tCons (tTup (tCons (tVar 3) tNil)) (tCons (tVar 1) tNil)))) (gName 4) tYes (tDIn (tVar 4) (tVar 2)) [4]) tNil))) (tVar 3) [3]) [some x1, some x2, some (.ref d), none, none] H1 (.l (shs (gM ns fs))) := by
    have z := es_lcT (K := K) (t := tB (tCB (rAll K) (tCons (tLc (iList K (tCall (spP fInked) [] E0 (tCons (tTup (tCons (tVar 3) tNil)) (tCons (tVar 1) tNil)))) (gName 4) tYes (tDIn (tVar 4) (tVar 2)) [4]) tNil))) (te := tVar 3) (tl := tVar 0) (σ := [some x1, some x2, some (.ref d), none, none]) (H := H1) (ss := shs ns) (j := 3) (vs := [3]) (fun i => okAt ns fs (ns.getD i 0)) (fun i => shI (ns.getD i 0)) (fun _ => rfl) (es_var rfl (i1.mono e1)) (by rw [shs_len]; omega) (fun x => rfl)
      (fun i s x H2 hi e hs => by
        obtain ⟨e2, hlt⟩ := shs_get hi
        rw [e2] at hs
        have hmem : ns.getD i 0 ∈ ns := getD_mem hlt
        generalize ns.getD i 0 = p at hs hmem
        have hink : EvS (tCall (spP fInked) [] E0 (tCons (tTup (tCons (tVar 3) tNil)) (tCons (tVar 1) tNil))) [some x1, some x2, some (.ref d), some x, none] H2 (lI (inkM [p] fs)) :=
          es_call (ss := [tI [p], tI fs]) (es_cons (es_tup (ss := [shI p]) (es_cons (es_var rfl hs) es_nil) (by show 1 ≤ 100000; decide)) (es_cons (es_var rfl (i3.mono (e1.trans e))) es_nil)) (sps_P ⟨[p], fs, rfl, rfl, by show 1 ≤ 900; decide, .inr (h64 p hmem)⟩)
        have hall := es_allL (K := K) (te := tDIn (tVar 4) (tVar 2)) (j := 4) (vs := [4]) (p := fun s => match s with | .v (.int n) => decide (n ∈ ns) | _ => false) hink (by rw [shs_len]; have := h64 p hmem; omega) (fun x => rfl) (fun i s y H3 hi e3 hs3 => by
          obtain ⟨e4, _⟩ := shs_get hi
          rw [e4] at hs3 ⊢
          exact es_din (es_var rfl hs3) rfl (e3 d _ (e d _ hd1)))
        have e5 : ((shs (inkM [p] fs)).all fun s => match s with | .v (.int n) => decide (n ∈ ns) | _ => false) = okAt ns fs p := by
          unfold shs okAt
          rw [List.all_map]
          rfl
        rw [e5] at hall
        exact et_S hall)
      (fun i s x H2 hi e hs _ => by
        rw [(shs_get hi).1] at hs
        exact es_var rfl hs)
    rw [givS_filter ns (okAt ns fs)] at z
    exact z
  exact ss_ret (es_cb (es_cons main es_nil) rcs_tupL) fun v H2 e2 i5 => q v H2 (e1.trans e2) i5
end
end K46

/-! K10: comprehensions with two clauses or a pair as target; lots_with. -/
namespace K46
open PySem PySem.Spec PyProof.Rows L2 Evl
theorem ea_1 {ta : TA} {σ : L2.St} {H : Hp} {x : V} (h : EvAS ta σ H [.v x]) : EvA ta σ H [x] := fun H1 e Q q => h H1 e _ fun vs H2 e2 i => by
  obtain ⟨y, r, rfl, i1, i2⟩ := isA_cons.mp i
  rw [isA_nil.mp i2, is_v.mp i1]
  exact q H2 e2
def Acc (H : Hp) (Dl : Addr) (out : List Sh) (H' : Hp) : Prop := H Dl = none ∧ Ex H H' ∧ ∃ acc, H' Dl = some (.lst acc) ∧ IsA out acc H'
section
variable {K : PySem.W.Frag} {σ σ2 : L2.St} {H H' : Hp} {ta tb te tx tl : TE} {t u : TT} {s s1 s2 s3 : Sh} {ss out : List Sh}
theorem acc_0 {Dl : Addr} (h : H Dl = none) : Acc H Dl [] (upd H Dl (.lst [])) := ⟨h, Ex.new h, [], upd_same, isA_nil.mpr rfl⟩
theorem acc_push {Dl : Addr} (p : Acc H Dl out H') (hz : out.length ≤ 50000) (ho : tupA out = true) (hs : tupS s = true) (he : EvS te σ2 H s) : te σ2 H' fun y H4 => ∃ acc, H4 Dl = some (.lst acc) ∧ acc.length < sizeLine ∧ Acc H Dl (out ++ [s]) (upd H4 Dl (.lst (acc ++ [y]))) := by
  obtain ⟨p1, p2, acc, p3, p4⟩ := p
  refine he H' p2 _ fun v H4 e4 i4 => ?_
  have hD : H4 Dl = some (.lst acc) := e4 Dl _ p3
  have hl := isA_len p4
  refine ⟨acc, hD, sz_lt (by omega), p1, Ex.mut (p2.trans e4) p1, acc ++ [v], upd_same, ?_⟩
  refine IsA.keep (upd_keep hD) (tupA_app ho ?_) (isA_app (p4.mono e4) (isA_cons.mpr ⟨v, [], rfl, i4, isA_nil.mpr rfl⟩))
  simp only [tupA, hs, Bool.and_self]
theorem acc_end {Dl : Addr} (p : Acc H Dl out H') : Ex H H' ∧ Is (.l out) (.ref Dl) H' := by
  obtain ⟨_, p2, acc, p3, p4⟩ := p
  exact ⟨p2, is_l.mpr ⟨Dl, acc, rfl, p3, p4⟩⟩
theorem tupA_map {α : Type} {f : α → Sh} (h : ∀ x, tupS (f x) = true) : ∀ l : List α, tupA (l.map f) = true
  | [] => rfl
  | x :: l => by
    show (tupS (f x) && tupA (l.map f)) = true
    rw [h x, tupA_map h l]
    rfl
theorem tupA_take : ∀ {ss : List Sh} (n : Nat), tupA ss = true → tupA (ss.take n) = true
  | _, 0, _ => rfl
  | [], _ + 1, _ => rfl
  | s :: ss, n + 1, h => by
    have h' : tupS s = true ∧ tupA ss = true := by simpa [tupA] using h
    show (tupS s && tupA (ss.take n)) = true
    rw [h'.1, tupA_take n h'.2]
    rfl
theorem tupA_flat {α : Type} {F : α → List Sh} (h : ∀ x, tupA (F x) = true) : ∀ l : List α, tupA (l.flatMap F) = true
  | [] => rfl
  | x :: l => by rw [List.flatMap_cons]; exact tupA_app (h x) (tupA_flat h l)
/-- one clause over a list, any target -/
theorem es_lcLg {g : TG} {vs : List Nat} (f : Nat → Bool) (gS : Nat → Sh) (hg : ∀ i, tupS (gS i) = true) (h : EvS tl σ H (.l ss)) (hz : ss.length ≤ 40000)
    (ht : ∀ (i : Nat) (s : Sh) (x : V) H1, ss[i]? = some s → Ex H H1 → Is s x H1 → ∃ σ2, (∀ H' Q, Ex H1 H' → Q σ2 H' → g x (wipe σ vs) H' Q) ∧ wipe σ2 vs = wipe σ vs ∧ EvT t σ2 H1 (f i) ∧ (f i = true → EvS te σ2 H1 (gS i))) :
    EvS (tLc (iList K tl) g t te vs) σ H (.l (givS ss.length f gS)) := fun H0 e Q q => h H0 e _ fun v H1 e1 i1 => by
  obtain ⟨a, xs, rfl, ea, hxs⟩ := is_l.mp i1
  have hl := isA_len hxs
  refine ⟨a, rfl, ⟨xs, SqL.of ea⟩, fun Dl hD => lc_list (xs := xs) (CwS H1 f gS Dl) (cwS_0 hD) (fun i H' _ p => SqL.of (p.2.1 a _ ea)) (fun i x H' hi p => ?_) (fun H' p => ?_)⟩
  · have hlt : i < ss.length := by rw [← hl]; exact (List.getElem?_eq_some_iff.mp hi).1
    obtain ⟨y, e2, e3⟩ := isA_get hxs (List.getElem?_eq_getElem hlt)
    rw [hi] at e2
    cases e2
    obtain ⟨σ2, g1, g2, g3, g4⟩ := ht i _ x H1 (List.getElem?_eq_getElem hlt) (e.trans e1) e3
    exact g1 H' _ p.2.1 ⟨g2, cwS_turn hg p (by omega) g3 g4⟩
  · rw [hl] at p
    have z := cwS_end p
    exact q _ H' (e1.trans z.1) z.2
/-- [te for g in a list for j in range(lo, hi)] -/
theorem es_lc2L {g : TG} {vs : List Nat} {j : Nat} {ta tb : TE} (G : Nat → List Sh) (hG : ∀ i, tupA (G i) = true) (h : EvS tl σ H (.l ss)) (hz : ((List.range ss.length).flatMap G).length ≤ 40000)
    (ht : ∀ (i : Nat) (s : Sh) (x : V) H1, ss[i]? = some s → Ex H H1 → Is s x H1 → ∃ σ2, ∃ lo hi : Int, (∀ H' Q, Ex H1 H' → Q σ2 H' → g x (wipe σ vs) H' Q) ∧ wipe σ2 vs = wipe σ vs ∧ EvS ta σ2 H1 (shI lo) ∧ EvS tb σ2 H1 (shI hi) ∧ 0 ≤ lo ∧ lo ≤ 100000 ∧ 0 ≤ hi ∧ hi ≤ 100000 ∧ (G i).length = (hi - lo).toNat ∧
      ∀ (k : Nat) (s : Sh), (G i)[k]? = some s → wipe ((wipe σ2 [j]).set j (some (.int (lo + k)))) [j] = wipe σ2 [j] ∧ EvS te ((wipe σ2 [j]).set j (some (.int (lo + k)))) H1 s) :
    EvS (tLc2 (iList K tl) g tYes (iRng2 (tCons ta (tCons tb tNil))) (gName j) tYes te vs [j]) σ H (.l ((List.range ss.length).flatMap G)) := fun H0 e Q q => h H0 e _ fun v H1 e1 i1 => by
  obtain ⟨a, xs, rfl, ea, hxs⟩ := is_l.mp i1
  have hl := isA_len hxs
  have hlen : ∀ i, i ≤ ss.length → ((List.range i).flatMap G).length ≤ ((List.range ss.length).flatMap G).length := fun i hi => by
    obtain ⟨d, hd⟩ := Nat.exists_eq_add_of_le hi
    rw [hd, List.range_add, List.flatMap_append, List.length_append]
    omega
  refine ⟨a, rfl, ⟨xs, SqL.of ea⟩, fun Dl hD => ⟨fun i m H' => m = xs.length - i ∧ i ≤ xs.length ∧ Acc H1 Dl ((List.range i).flatMap G) H', ⟨xs.length, by simp, Nat.zero_le _, acc_0 hD⟩, ?_⟩⟩
  rintro i m H' ⟨rfl, hi, p⟩
  by_cases hlt : i < xs.length
  · refine .inr ⟨⟨xs, xs[i], SqL.of (p.2.1 a _ ea), by simp [hlt]⟩, fun H' => Acc H1 Dl ((List.range (i + 1)).flatMap G) H', fun H'' p' => ⟨xs.length - (i + 1), by omega, rfl, hlt, p'⟩, fun x H'' y => ?_⟩
    obtain ⟨ey, y⟩ := y
    subst ey
    have hx : xs[i]? = some x := y xs (SqL.of (p.2.1 a _ ea))
    have hlt2 : i < ss.length := by omega
    obtain ⟨y2, e2, e3⟩ := isA_get hxs (List.getElem?_eq_getElem hlt2)
    rw [hx] at e2
    cases e2
    obtain ⟨σ2, lo, hiB, g1, g2, g3, g4, b1, b2, b3, b4, g5, g6⟩ := ht i _ x H1 (List.getElem?_eq_getElem hlt2) (e.trans e1) e3
    refine g1 _ _ p.2.1 ⟨g2, ?_⟩
    refine (show ∀ A B : Prop, A → (if true = true then A else B) from fun A B h => by rw [if_pos rfl]; exact h) _ (Acc H1 Dl ((List.range (i + 1)).flatMap G) H'') ?_
    rw [if_pos rfl]
    refine g3 _ p.2.1 _ fun v1 H3 e4 i4 => g4 H3 (p.2.1.trans e4) _ fun v2 H4 e5 i5 => ?_
    refine ⟨lo, hiB, by rw [is_v.mp i4, is_v.mp i5], ⟨by omega, by omega, by omega, by omega⟩, ?_⟩
    have p4 : Acc H1 Dl ((List.range i).flatMap G ++ (G i).take 0) H4 := by
      obtain ⟨q1, q2, acc, q3, q4⟩ := p
      exact ⟨q1, (q2.trans e4).trans e5, acc, e5 _ _ (e4 _ _ q3), by rw [List.take_zero, List.append_nil]; exact (q4.mono e4).mono e5⟩
    refine ⟨fun k m H' => m = (G i).length - k ∧ k ≤ (G i).length ∧ Acc H1 Dl ((List.range i).flatMap G ++ (G i).take k) H', ⟨(G i).length, by simp, Nat.zero_le _, p4⟩, ?_⟩
    rintro k m H5 ⟨rfl, hk, p5⟩
    have hb := hlen (i + 1) (by omega)
    rw [List.range_succ, List.flatMap_append] at hb
    have e6 : [i].flatMap G = G i := by simp
    rw [e6, List.length_append] at hb
    by_cases hkl : k < (G i).length
    · refine .inr ⟨by show k < (hiB - lo).toNat; omega, fun H' => Acc H1 Dl ((List.range i).flatMap G ++ (G i).take (k + 1)) H', fun H6 p6 => ⟨(G i).length - (k + 1), by omega, rfl, hkl, p6⟩, fun x6 H6 y6 => ?_⟩
      obtain ⟨z1, z2⟩ := y6
      subst z1 z2
      obtain ⟨w1, w2⟩ := g6 k _ (List.getElem?_eq_getElem hkl)
      refine ⟨w1, ?_⟩
      show te _ H6 _
      have z := acc_push (te := te) p5 (by rw [List.length_append, List.length_take]; omega) (tupA_app (tupA_flat hG _) (tupA_take _ (hG i))) (s := (G i)[k]) ?_ w2
      · rw [List.append_assoc, List.take_append_getElem hkl] at z
        exact z
      · have h1 : ∀ {ss : List Sh} (k : Nat) (h : k < ss.length), tupA ss = true → tupS ss[k] = true := by
          intro ss
          induction ss with
          | nil => intro k h; simp at h
          | cons s ss ih =>
            intro k h h2
            have h' : tupS s = true ∧ tupA ss = true := by simpa [tupA] using h2
            cases k with
            | zero => exact h'.1
            | succ k => exact ih k (by simpa using h) h'.2
        exact h1 k hkl (hG i)
    · have ek : k = (G i).length := by omega
      subst ek
      refine .inl ⟨by show (hiB - lo).toNat ≤ _; omega, ?_⟩
      show Acc H1 Dl _ _
      rw [List.take_length] at p5
      rw [List.range_succ, List.flatMap_append, e6]
      exact p5
  · have ei : i = xs.length := by omega
    refine .inl ⟨⟨xs, SqL.of (p.2.1 a _ ea), by omega⟩, ?_⟩
    rw [ei, hl] at p
    have z := acc_end p
    exact q _ _ (e1.trans z.1) z.2
end
section
variable {P : Program} {w : World} {K : PySem.W.Frag} {mg : Str → Option Value} {base : Heap} {a : Ad}
def sfS (q : List Int × Nat) : Sh := .t [tI q.1, shI q.2]
def fLots (ss : List Sh) (s : Sh) : Prop := ∃ (ps : List Int) (m : Nat), ss = [tI ps, shI m] ∧ s = .l ((lotsM ps m).map tI) ∧ ps.length ≤ 8 ∧ m ≤ 8 ∧ Asc ps
theorem scLots : FnScope ["places", "many", "line", "turn", "some", "first", "at"] ["places", "many"] (defScope sLotsW) := ⟨rfl, rfl, rfl, by decide +kernel, rfl, by decide +kernel, by decide +kernel⟩
theorem sf_get {ls : List (List Int × Nat)} {i : Nat} {s : Sh} (h : (ls.map sfS)[i]? = some s) : ∃ q, ls[i]? = some q ∧ s = sfS q := by
  rw [List.getElem?_map] at h
  cases e : ls[i]? with
  | none => rw [e] at h; cases h
  | some q => rw [e] at h; exact ⟨q, rfl, (Option.some.inj h).symm⟩
theorem tupS_sf (q : List Int × Nat) : tupS (sfS q) = true := by
  unfold sfS
  simp only [tupS, tupA, tupS_tI]
  rfl
theorem shs_atI {ns : List Int} {i : Nat} (h : i < ns.length) : atI (shs ns) (i : Int) = some (shI (ns.getD i 0)) := by
  unfold atI
  have e : ixN (shs ns).length (i : Int) = some i := by
    rw [shs_len]
    unfold ixN
    rw [if_pos (by omega), if_pos (by omega)]
    rfl
  rw [e]
  show (shs ns)[i]? = _
  unfold shs
  rw [List.getElem?_map, List.getElem?_eq_getElem h, List.getD_eq_getElem?_getD, List.getElem?_eq_getElem h]
  rfl
theorem ok_lots (T : Txt K mg a) : FnOk P w K mg base CX0 1 a.lotsW.a a.lotsW.fd ["places", "many"] (spP fLots) := by
  refine T.lotsW.fn.ok scLots (spP_len fun ss s ⟨_, _, e, _⟩ => by rw [e]; rfl) (fun cdv A outer s H vs Q E hr h => ?_)
  obtain ⟨ss, s', ⟨ps, m, rfl, rfl, hn, hm, hasc⟩, hi', q⟩ := h
  obtain ⟨x1, r, rfl, i1, i2⟩ := isA_cons.mp hi'
  obtain ⟨x2, r2, rfl, i3, i4⟩ := isA_cons.mp i2
  rw [isA_nil.mp i4]
  have ex2 := is_v.mp i3
  subst ex2
  refine ⟨_, pss_cons (ps_set (i := 2) scLots.nd rfl (.inl rfl) (pe_lst (pa_cons (pe_tup (pa_cons (pe_tup pa_nil) (pa_cons pe_int pa_nil))) pa_nil)))
    (pss_cons (ps_for PassesOwn.never rfl (pi_range1 (by rfl) T.bRange (pa_cons (pv 1) pa_nil)) (pg_name (i := 3) scLots.nd rfl (.inl rfl))
      (pss_one (ps_setLc2 (i := 2) (own := [("some", 4), ("first", 5), ("at", 6)]) (vs1 := [6]) (g := gTup K 2 (gCons (gName 4) (gCons (gName 5) gNil))) (tt := tYes) (wi1 := iRng2 (tCons (tVar 5) (tCons (tCB (fun xs H Q => ∃ p ys, xs = [.ref p] ∧ (SqL K H p ys ∨ SqT K H p ys) ∧ Q (.int ys.length) H) (tCons (tVar 0) tNil)) tNil))) (g1 := gName 6) (tt1 := tYes)
          (te := tTup (tCons (tOp (rCatA K) (tVar 4) (tTup (tCons (tOp (rIxT K) (tVar 0) (tVar 6)) tNil))) (tCons (tOp (rI0 fun i j => .int (i + j)) (tVar 6) (tC (.int 1))) tNil)))
          rfl scLots.nd rfl rfl (sw_true rfl rfl rfl (by decide +kernel)) (pi_list (pv 2)) (blkOk_by (N := ["places", "many", "line", "turn", "some", "first", "at"]) (sc := defScope sLotsW) (by decide +kernel)) (by decide)
          (fun _ _ _ _ _ => pg_tup rfl (pgs_cons (pg_name (i := 4) scLots.nd rfl (.inl rfl)) (pgs_cons (pg_name (i := 5) scLots.nd rfl (.inl rfl)) pgs_nil))) (fun _ _ _ _ _ => pts_nil)
          (fun _ _ _ _ _ => pi_range2 (by rfl) T.bRange (pa_cons (pv 5) (pa_cons (pe_callB call_len_seq (by rfl) T.bLen boot_len (pa_cons (pv 0) pa_nil)) pa_nil)))
          (fun _ _ _ _ _ => pg_name (i := 6) scLots.nd rfl (.inl rfl)) (fun _ _ _ _ _ => pts_nil)
          (fun _ _ _ _ _ => pe_tup (pa_cons (pe_op op_catA (pv 4) (pe_tup (pa_cons (pe_ix ix_tup (pv 0) (pv 6) (by intro _ _; rfl)) pa_nil))) (pa_cons (pe_op op_add (pv 6) pe_int) pa_nil))))))
    (pss_one (ps_ret (pe_lc (own := [("some", 4), ("first", 5)]) (g := gTup K 2 (gCons (gName 4) (gCons (gName 5) gNil))) (tt := tYes) (te := tVar 4) rfl scLots.nd (pi_list (pv 2)) (blkOk_by (N := ["places", "many", "line", "turn", "some", "first", "at"]) (sc := defScope sLotsW) (by decide +kernel))
      (fun _ _ _ _ _ => pg_tup rfl (pgs_cons (pg_name (i := 4) scLots.nd rfl (.inl rfl)) (pgs_cons (pg_name (i := 5) scLots.nd rfl (.inl rfl)) pgs_nil))) (fun _ _ _ _ _ => pts_nil) (fun _ _ _ _ _ => pv 4))))), ?_⟩
  refine qs_asg (s := .l ((progLine ps 0).map sfS)) (es_lst (es_cons (es_tup (es_cons (es_tup es_nil (by decide)) (es_cons es_c es_nil)) (by decide)) es_nil) (by show 1 ≤ 100000; decide)) fun v H1 e1 iv => ?_
  have hpair : ∀ {σ : L2.St} {q : List Int × Nat} {x : V} {H1 : Hp}, Is (sfS q) x H1 → ∃ y, Is (tI q.1) y H1 ∧ ∀ H' Q, Ex H1 H' → Q ((σ.set 4 (some y)).set 5 (some (.int q.2))) H' → gTup K 2 (gCons (gName 4) (gCons (gName 5) gNil)) x σ H' Q := by
    intro σ q x H1 i
    obtain ⟨p, xs, rfl, ep, hxs⟩ := is_t.mp i
    obtain ⟨y, r, rfl, j1, j2⟩ := isA_cons.mp hxs
    obtain ⟨z, r2, rfl, j3, j4⟩ := isA_cons.mp j2
    have e1 := isA_nil.mp j4
    subst e1
    have e2 := is_v.mp j3
    subst e2
    exact ⟨y, j1, fun H' Q e k => ⟨p, _, rfl, SqT.of (e _ _ ep), rfl, y, _, rfl, _, _, rfl, rfl, k⟩⟩
  refine q_forR1 (n := m) (ea_1 (es_cons (es_var rfl (is_v.mpr rfl)) es_nil)) (by omega) (fun i σ' H' => ∃ pl c3, σ' = [some x1, some (.int m), some pl, c3, none, none, none] ∧ Ex H1 H' ∧ Is (.l ((progLine ps i).map sfS)) pl H') (fun H2 e2 => ⟨v, none, rfl, e2, iv.mono e2⟩) (fun i σ' H' hi hP => ?_) fun σ' H' hP => ?_
  · obtain ⟨pl, c3, rfl, e2, il⟩ := hP
    have e3 : ((List.range ((progLine ps i).map sfS).length).flatMap fun k => (pstep ps ((progLine ps i).getD k ([], 0))).map sfS) = (progLine ps (i + 1)).map sfS := by
      show _ = ((progLine ps i).flatMap (pstep ps)).map sfS
      rw [List.map_flatMap, List.length_map]
      have : ∀ l : List (List Int × Nat), (List.range l.length).flatMap (fun k => (pstep ps (l.getD k ([], 0))).map sfS) = l.flatMap fun a => (pstep ps a).map sfS := by
        intro l
        rw [← List.flatMap_map (fun k => l.getD k ([], 0)) (fun a => (pstep ps a).map sfS)]
        congr 1
        apply List.ext_getElem
        · simp
        · intro j h1 h2
          rw [List.getElem_map, List.getElem_range, List.getD_eq_getElem?_getD, List.getElem?_eq_getElem h2]
          rfl
      exact this _
    have hlen : (progLine ps (i + 1)).length ≤ 256 := by
      have h1 := len_line hasc (i + 1)
      have h2 : 2 ^ ps.length ≤ 2 ^ 8 := Nat.pow_le_pow_right (by decide) hn
      omega
    have main := es_lc2L (K := K) (g := gTup K 2 (gCons (gName 4) (gCons (gName 5) gNil))) (ta := tVar 5) (tb := tCB (fun xs H Q => ∃ p ys, xs = [.ref p] ∧ (SqL K H p ys ∨ SqT K H p ys) ∧ Q (.int ys.length) H) (tCons (tVar 0) tNil)) (j := 6) (vs := [4, 5, 6]) (te := tTup (tCons (tOp (rCatA K) (tVar 4) (tTup (tCons (tOp (rIxT K) (tVar 0) (tVar 6)) tNil))) (tCons (tOp (rI0 fun i j => .int (i + j)) (tVar 6) (tC (.int 1))) tNil)))
      (tl := tVar 2) (σ := [some x1, some (.int m), some pl, some (.int i), none, none, none]) (H := H') (ss := (progLine ps i).map sfS) (fun k => (pstep ps ((progLine ps i).getD k ([], 0))).map sfS) (fun k => tupA_map tupS_sf _) (es_var rfl il) (by rw [e3, List.length_map]; omega) (fun k s x H3 hk e hs => by
        obtain ⟨q0, hq, rfl⟩ := sf_get hk
        have hg := good_line hasc i q0 (List.mem_of_getElem? hq)
        obtain ⟨y, iy, hy⟩ := hpair (σ := wipe [some x1, some (.int m), some pl, some (.int i), none, none, none] [4, 5, 6]) hs
        have eq0 : (progLine ps i).getD k ([], 0) = q0 := by rw [List.getD_eq_getElem?_getD, hq]; rfl
        have hle := hg.le
        have hql := hg.len
        refine ⟨_, (q0.2 : Int), (ps.length : Int), hy, rfl, es_var rfl (is_v.mpr rfl), es_is (es_cb (es_cons (es_var rfl (i1.mono ((e1.trans e2).trans e))) es_nil) rcs_lenT) (by rw [shs_len]), by omega, by omega, by omega, by omega, ?_, ?_⟩
        · rw [eq0, List.length_map]
          unfold pstep
          rw [List.length_map, List.length_range']
          omega
        · intro n s hn2
          rw [eq0] at hn2
          obtain ⟨q1, hq1, rfl⟩ := sf_get hn2
          unfold pstep at hq1
          rw [List.getElem?_map] at hq1
          cases hr' : (List.range' q0.2 (ps.length - q0.2))[n]? with
          | none => rw [hr'] at hq1; cases hq1
          | some a' =>
            rw [hr'] at hq1
            have hq2 := Option.some.inj hq1
            have hl2 := (List.getElem?_eq_some_iff.mp hr').1
            rw [List.length_range'] at hl2
            rw [List.getElem?_range' hl2] at hr'
            have ea : a' = q0.2 + n := by have := Option.some.inj hr'; omega
            subst hq2
            refine ⟨rfl, ?_⟩
            have ez : (q0.2 : Int) + (n : Int) = ((a' : Nat) : Int) := by rw [ea]; omega
            rw [ez]
            have hal : a' < ps.length := by omega
            refine es_tup (es_cons (es_is (es_op (es_var (s := tI q0.1) rfl iy) (es_tup (es_cons (es_op (es_var (s := tI ps) rfl (i1.mono ((e1.trans e2).trans e))) (es_var (s := shI a') rfl (is_v.mpr rfl)) (rs_ixT (shs_atI hal))) es_nil) (by show 1 ≤ 100000; decide)) (rs_catA (by rw [shs_len, hql]; show i + 1 ≤ 100000; omega))) ?_) (es_cons (es_is (es_op (s1 := shI a') (s2 := shI 1) (es_var rfl (is_v.mpr rfl)) es_c rs_I0) ?_) es_nil)) (by show 2 ≤ 100000; decide)
            · unfold tI shs
              rw [List.map_append]
              rfl
            · rfl)
    rw [e3] at main
    exact ss_asg main fun v2 H2 e3 iv2 => ⟨v2, _, rfl, e2.trans e3, iv2⟩
  · obtain ⟨pl, c3, rfl, e2, il⟩ := hP
    have em : (m : Int).toNat = m := by omega
    rw [em] at il
    have z := es_lcLg (K := K) (g := gTup K 2 (gCons (gName 4) (gCons (gName 5) gNil))) (t := tYes) (te := tVar 4) (vs := [4, 5]) (tl := tVar 2) (σ := [some x1, some (.int m), some pl, c3, none, none, none]) (H := H') (ss := (progLine ps m).map sfS) (fun _ => true) (fun k => tI ((progLine ps m).getD k ([], 0)).1) (fun _ => tupS_tI _) (es_var rfl il) (by
        have h1 := len_line hasc m
        have h2 : 2 ^ ps.length ≤ 2 ^ 8 := Nat.pow_le_pow_right (by decide) hn
        rw [List.length_map]
        omega) (fun k s x H3 hk e hs => by
        obtain ⟨q0, hq, rfl⟩ := sf_get hk
        obtain ⟨y, iy, hy⟩ := hpair (σ := wipe [some x1, some (.int m), some pl, c3, none, none, none] [4, 5]) hs
        have eq0 : (progLine ps m).getD k ([], 0) = q0 := by rw [List.getD_eq_getElem?_getD, hq]; rfl
        exact ⟨_, hy, rfl, et_yes, fun _ => by rw [eq0]; exact es_var rfl iy⟩)
    have e4 : givS ((progLine ps m).map sfS).length (fun _ => true) (fun k => tI ((progLine ps m).getD k ([], 0)).1) = (lotsM ps m).map tI := by
      have e5 := givS_all (ss := (progLine ps m).map sfS) (n := ((progLine ps m).map sfS).length) (g := fun k => tI ((progLine ps m).getD k ([], 0)).1) (F := fun s => match s with | .t [x, _] => x | s => s) rfl fun k s hk => by
        obtain ⟨q0, hq, rfl⟩ := sf_get hk
        rw [List.getD_eq_getElem?_getD, hq]
        rfl
      rw [e5]
      unfold lotsM
      rw [List.map_map, List.map_map]
      rfl
    rw [e4] at z
    exact ss_ret z fun v2 H2 e3 i5 => q v2 H2 ((e1.trans e2).trans e3) i5
end
end K46

/-! KI: TooMany.__init__: super().__init__('too many'); self.limit = limit. -/
namespace K46
open PySem PySem.Spec PyProof.Rows L2
open PySem.W (kxs_mw)
/-! ### ValueError.__init__ bound to an exception, called -/
section
variable {prog : Program} {w : World} {A : Around} {E : Value → Shared → Prop} {h : Heap} {g : Array GenState} {d : Drawn} {t : Nat} {os : OsState}
variable {nm q : Str} {C N : Addr} {bs bm : List Value} {hdct : Bool} {sn : List Str} {sub : List Value} {ab : Bool} {col : Option Bool} {dd : Option Addr} {k0 k1 k2 k3 k5 : Option Value}
theorem call_mwV {u e t0 : Addr} {rest : List Value} {Q : Value → Shared → Prop}
    (hC : h.get? C = some (excClassObj nm q C N bs bm hdct sn sub ab col dd k0 k1 k2 k3 k5 "ValueError.__new__")) (he : h.get? e = some (HandSPX.excO C t0)) (hu : h.get? u = some (kxs_mw "ValueError.__init__" e)) (hrest : rest.length ≤ sizeLine)
    (hq : ∀ h' t1, (∀ b o, b ≠ e → h.get? b = some o → h'.get? b = some o) → h'.get? e = some (HandSPX.excO C t1) → Q .none ⟨h', g, d, t, os⟩) :
    wpAny (model prog w) A (call (.ref u) rest) Q E ⟨h, g, d, t, os⟩ := by
  refine wpAny_call (codeAny_of_tree ?_)
  show wpAny _ A.in1 (callAny (.ref u) ⟨rest, []⟩) _ _ _
  simp only [callAny]
  refine wpAny_bind (wpAny_load hu ?_)
  simp only [kxs_mw, show (Value.type "method-wrapper" == Value.type "method" || Value.type "method-wrapper" == Value.type "builtin_function_or_method" || Value.type "method-wrapper" == Value.type "method-wrapper") = true by decide, if_true]
  refine W.KFB.if_so (by decide) ?_
  refine wpAny_bind (W.check_bound_init F.excBase_ValueError.toExcCallFacts hC he rfl ?_)
  refine wpAny_bind (wpAny_pure (wpAny_pure ?_))
  refine ⟨Code.quiet_builtin _ (by decide +kernel), codeAny_builtin F.excBase_ValueError.initEntry ?_⟩
  rw [Around.under_plainId F.excBase_ValueError.init.plain _]
  wp_walk
  refine hq _ h.objs.size (fun b o hb ho => ?_) ?_
  · rw [Heap.get?_update_other _ _ (Ne.symm hb)]
    exact Heap.get?_push_of_some _ ho
  · rw [Heap.get?_update_self _ (Heap.get?_push_of_some _ he) rfl]
    rfl
end
structure InitT (P : Program) (K : PySem.W.Frag) (C : Addr) (d : Df) : Prop where
  ex : ∃ (cc cda : Addr) (oc : Value) (od : Option Addr) (kV doc pm : Value) (an : Option Addr) (ct : Value) (osl : Array (Option Value)),
    d.fd = PySem.W.fnX "__init__" "TooMany.__init__" (defArgs sInit) (defBody sInit) (defScope sInit) [("__class__", cc)] .none kV doc pm an (.ref cda) ct ∧ K.lookup d.a = some ⟨oc, od, .func d.fd, osl⟩ ∧ PySem.W.codeIn K (.ref cda) "TooMany.__init__" = true ∧
    (∃ cl cld csl, K.lookup cc = some ⟨cl, cld, .cell (some (.ref C)), csl⟩) ∧ ∃ ccl cdd vs ccs file tf, K.lookup cda = some ⟨ccl, cdd, .fields vs, ccs⟩ ∧ vs[2]? = some (.str file tf) ∧ ((P.main.file : Str) == file) = true
  oex : OexC K C
  sup : PySem.W.ks_superIn K C C "__init__" = some (some (.builtin "ValueError.__init__"))
  subVE : PySem.W.subIn K (.ref C) (.type "ValueError") = some true
  mroC : PySem.W.mroIn K C (.ref C) = some true
  nL : PySem.W.findIn K (.ref C) "limit" = some none
  opq : PySem.W.nsIn K cStatics "thirdparty.any" = some none
  htop : (P.main.scope.names.lookup ("super" : Str)).isSome = false
  fI : PySem.W.findIn K (.ref C) "__init__" = some (some (.ref d.a))
  tI : PySem.W.typeIn K (.ref d.a) = some (.type "function")
abbrev iArg : Expr := .Constant (.str "too many") 0 ⟨9, 25, 9, 35⟩
abbrev iSt1 : Stmt := .Expr (.Call (.Attribute (.Call (.Name "super" ⟨9, 8, 9, 13⟩) [] [] ⟨9, 8, 9, 15⟩) "__init__" ⟨9, 8, 9, 24⟩) [iArg] [] ⟨9, 8, 9, 36⟩) ⟨9, 8, 9, 36⟩
abbrev iSt2 : Stmt := .Assign [.Attribute (.Name "self" ⟨10, 8, 10, 12⟩) "limit" ⟨10, 8, 10, 18⟩] (.Name "limit" ⟨10, 21, 10, 26⟩) ⟨10, 8, 10, 26⟩
theorem body_init : defBody sInit = [iSt1, iSt2] := rfl
theorem scInit : NdefX.NScope ["self", "limit", "__class__"] ["self", "limit"] ["__class__"] (defScope sInit) := NdefX.nscope_by (by decide +kernel)
/-- TooMany.__init__(e, v) -/
def spInit (C : Addr) : Sp := fun vs H Q _ => ∃ (e : Addr) (v : V), vs = [.ref e, v] ∧ H e = some (exo e C none) ∧ ∀ dx, H dx = none → dx ≠ e → Q .non (upd (upd H dx (exd dx [("limit", v)])) e (exo e C (some dx)))
section
variable {P : Program} {w : World} {K : PySem.W.Frag} {mg : Str → Option Value} {base : Heap}
theorem ok_init {C : Addr} {d : Df} (T : InitT P K C d) (hS : mg "super" = none) : FnOk P w K mg base CX0 1 d.a d.fd ["self", "limit"] (spInit C) := by
  obtain ⟨cc, cda, oc, od, kV, doc, pm, an, ct, osl, hfd, lk, hcd, ⟨cl, cld, csl, hcell⟩, ccl, cdd, cvs, ccs, file, tf, hcode, hvs, hfile⟩ := T.ex
  refine ⟨fun vs H Q E ⟨_, _, e, _⟩ => by rw [e]; rfl, fun A outer s H args us vs Q E hr e0 hb r hsp => ?_⟩
  obtain ⟨e, v, rfl, he, hq⟩ := hsp
  have KX : K.In s.heap := e0.mod.kin.keeps fun b o e => (e0.bs b o e).1
  have lim : s.heap.NoLimit := e0.mod.nolimit.keeps fun b o e => (e0.bs b o e).1
  have hus : us.length = 2 := by rw [← r.length]; rfl
  rw [hfd] at lk hb
  let F : NdefX.NF := ⟨"__init__", "TooMany.__init__", defArgs sInit, defBody sInit, defScope sInit, [("__class__", cc)], cda⟩
  refine codeAny_call_function hr.depth (KX _ _ lk) rfl rfl rfl rfl (PySem.W.codeRec_of KX hcd) (hb _ _ _ _ ?_)
  refine wpAny_newFunctionEnv scInit.nocell (fun ⟨n, _⟩ hy => scInit.par n (List.of_mem_zip hy).1) (fun h₁ hns hsb => ⟨lim.fresh _ hsb, ?_⟩) rfl
  show codeAny _ _ (.func F.body (NdefX.envF F d.a s.heap.objs.size)) _ _
  refine PySem.ks_codeAny_funcAt ?_
  have kp : ∀ b o, s.heap.get? b = some o → h₁.get? b = some o := fun b o e => hsb.extBut b o (Nat.ne_of_lt (Heap.lt_size e)) (Heap.get?_push_of_some _ e)
  have hcb : base.get? cc = some ⟨cl, cld, .cell (some (.ref C)), csl⟩ := e0.mod.kin _ _ hcell
  have CA : NdefX.CellsAt F.cl ["__class__"] [none] s.heap H := by
    have key : ∀ y c, ([("__class__", cc)] : List (Str × Addr)).lookup y = some c → y = "__class__" ∧ c = cc := fun y c e => by
      have e' := PySem.mem_of_lookup e
      have e2 : (y, c) = (("__class__" : Str), cc) := by simpa using e'
      exact ⟨congrArg Prod.fst e2, congrArg Prod.snd e2⟩
    refine ⟨rfl, fun y c e => ?_, fun x y c e1 e2 => by rw [(key x c e1).1, (key y c e2).1], fun i y e => ?_⟩
    · rw [(key y c e).2]
      exact ⟨(e0.bs _ _ hcb).2, _, _, (e0.bs _ _ hcb).1, rfl⟩
    · cases i with
      | zero =>
        have : ("__class__" : Str) = y := by simpa using e
        subst this
        exact ⟨cc, rfl, fun v z => by simp at z⟩
      | succ i => simp at e
  have I : Inv (NdefX.ncx CX0 P w K mg base ["self", "limit", "__class__"] F d.a A outer s H E) [] (NdefX.startF ["self", "limit", "__class__"] [.ref e, v] [none]) H { s with heap := h₁, toks := s.toks + (["self", "limit"].zip us).length } := NdefX.inv_startN scInit hr.hd e0 rfl r CA hns kp
  obtain ⟨u1, us1, rfl⟩ : ∃ u1 us1, us = u1 :: us1 := by
    cases us with
    | nil => cases hus
    | cons a b => exact ⟨a, b, rfl⟩
  obtain ⟨u2, us2, rfl⟩ : ∃ u2 us2, us1 = u2 :: us2 := by
    cases us1 with
    | nil => cases hus
    | cons a b => exact ⟨a, b, rfl⟩
  obtain rfl : us2 = [] := by
    cases us2 with
    | nil => rfl
    | cons a b => cases hus
  have ru : RelV (V.ref e) u1 := by cases r with | cons a b => exact a
  obtain rfl : u1 = Value.ref e := ru
  have hnself : (fun y : Str => (((["self", "limit"] : List Str).zip [Value.ref e, u2]).reverse.lookup y)) "self" = some (.ref e) := rfl
  generalize (s.toks + ((["self", "limit"] : List Str).zip [Value.ref e, u2]).length) = tk at I ⊢
  show _root_.PySem.wpAt _ _ (.func F.body (NdefX.envF F d.a s.heap.objs.size)) (execs F.body (NdefX.envF F d.a s.heap.objs.size)) _ _ _
  show _root_.PySem.wpAt _ _ _ (execs [iSt1, iSt2] (NdefX.envF F d.a s.heap.objs.size)) _ _ _
  refine ks_wpAt_execs_cons (ks_wpAt_Expr_any (ks_wpAt_MethodCall ?_))
  have bk : ∀ b o, base.get? b = some o → h₁.get? b = some o := I.bk
  have K1 : K.In h₁ := I.kIn
  obtain ⟨nm, q, N, bs, bm, sn, sub, ab, col, dd, k0, k1, k2, k3, k5, hC, hbm⟩ := T.oex.cls
  have hcl : PySem.W.clsIn K C = some { name := nm, bases := bs, mro := .ref C :: bm, ns := N, qualname := q, hasDict := true, slotNames := sn, subclasses := sub, abstract := ab, collection := col, hasDel := false } := by unfold PySem.W.clsIn; rw [hC] <;> rfl
  obtain ⟨t1, ho⟩ := exo_at I.hok he
  obtain ⟨hp, g, dr, tk0, os⟩ := s
  refine ks_wpAt_super_base (hks := rfl) (hkc := rfl) (hat := rfl) (hfu := rfl) (hf := K1 _ _ lk) (hfd := rfl) (hp := rfl) (hco := rfl) (hcc := K1 _ _ hcode) (hoc := rfl) (hvs := hvs) (hfile := hfile) (htop := T.htop) ?_
  obtain ⟨mb, hb1, hb2⟩ := e0.mod.blt
  refine PySem.W.ks_loadName_global rfl rfl (PySem.Calls.loadGlobal_builtin (env := NdefX.envF F d.a hp.objs.size) (e0.mod.glob.keeps bk) hS (hb1.keeps bk) ((hb2 _ (by decide)).trans Boot.«super») ⟨rfl, ?_⟩)
  refine wpAny_loadName_free rfl rfl rfl ⟨_, K1 _ _ hcell, rfl⟩ ?_
  refine wpAny_loadName_local rfl rfl hns hnself ?_
  have hD1 := K1 _ _ hC
  refine ks_wpAny_isType_cls hD1 rfl ⟨rfl, ?_⟩
  refine ks_wpAny_call_super hD1 rfl ho rfl (fun c z => by cases z) (PySem.W.looks_mroIn K1 T.mroC) (fun h2 e2 kk2 => ?_)
  have I2 := I.kept (t' := tk) kk2
  have hsz : h₁.objs.size < h2.objs.size := Heap.lt_size e2
  have K2 : K.In h2 := I2.kIn
  have hsup := T.sup
  unfold PySem.W.ks_superIn at hsup
  rw [hcl] at hsup
  have hne : e ≠ C := fun z => by
    rw [z] at ho
    rw [hD1] at ho
    cases ho
  have hI : PySem.W.Looks (model P w) h2 (isInstance (.ref e) (.type "ValueError")) true := (PySem.W.InstAt.type (x := e) (ox := _) (C := C) (od := none) ⟨kk2 _ _ ho, rfl, rfl, trivial⟩).andThen (PySem.W.looks_subIn K2 T.subVE)
  refine PySem.W.kxs_getMethod PySem.W.kxs_ValueError e2 (PySem.W.looks_opaque K2 T.opq) (l₀ := .ref C :: bm) (fun A Q E s k q => wpAny_bind ((PySem.W.looks_clsIn K2 hcl) A _ E s k (wpAny_pure q))) rfl K2 hsup hI hne rfl ?_
  have kk3 : ∀ b o, h2.get? b = some o → (h2.push (kxs_mw "ValueError.__init__" e)).get? b = some o := fun b o z => Heap.get?_push_of_some _ z
  have hu : (h2.push (kxs_mw "ValueError.__init__" e)).get? h2.objs.size = some (kxs_mw "ValueError.__init__" e) := Heap.get?_push_at rfl rfl
  have I3 := I2.kept (t' := tk + 1) kk3
  have fz := I2.fpOk (H' := H) (Nat.le_refl _) (I2.hok.fresh (Nat.le_refl _))
  have I3p := I3.pins_of (pins' := [(h2.objs.size, kxs_mw "ValueError.__init__" e)]) fun p hp => by
    have ep : p = (h2.objs.size, kxs_mw "ValueError.__init__" e) := by simpa using hp
    subst ep
    exact ⟨hu, fz.1, fz.2.1, fz.2.2.1, fun v z => by cases z⟩
  show wpAny _ _ (callWith ⟨9, 8, 9, 36⟩ (.ref h2.objs.size) [] (backTo ⟨9, 8, 9, 36⟩ (starEach [iArg] (NdefX.envF F d.a hp.objs.size))) []) _ _ _
  have ha : PA (NdefX.ncx CX0 P w K mg base ["self", "limit", "__class__"] F d.a A outer ⟨hp, g, dr, tk0, os⟩ H E) [iArg] (tCons (tC (.str "too many")) tNil) := pa_cons pe_str pa_nil
  refine PySem.W.kxs_callWith (i := "ValueError.__init__") (u := h2.objs.size) (x := e) rfl ?_
  refine PySem.Calls.evalArgs_plain ?_
  refine thn (ha.run ⟨9, 8, 9, 36⟩ _ _ _ H (fun vs H1 => vs = [.str "too many"] ∧ H1 = H) I3p ⟨rfl, rfl⟩) fun vs s4 ⟨vs', H4, I4, rv, ev, eH⟩ => ?_
  subst ev eH
  have hu4 := (I4.pin _ (List.mem_append_right _ (List.mem_singleton.mpr rfl))).1
  refine ⟨hu4, ?_⟩
  obtain ⟨t4, ho4⟩ := exo_at I4.hok he
  have hl4 : vs.length ≤ sizeLine := by
    rw [← rv.length, sizeLine_eq]
    decide
  have hC4 := I4.kIn _ _ hC
  obtain ⟨h4, g4, dr4, tk4, os4⟩ := s4
  refine call_mwV hC4 ho4 hu4 hl4 fun h5 t5 k5' e5 => ?_
  have J := I4.write (t' := tk4) (x := e) (e := e) (o := exo e C none) (by rw [he]; exact True.intro) (.inl rfl) k5' ⟨_, e5⟩ (exo_ok e5)
  have eu : upd H4 e (exo e C none) = H4 := by
    funext b
    by_cases hb : b = e
    · rw [hb, upd_same, he]
    · rw [upd_ne hb]
  rw [eu] at J
  have J2 := J.unpinned (pins := []) 
  show _root_.PySem.wpAt _ _ _ (execs [iSt2] _) _ _ _
  refine wpAt_of_wpAny ?_
  have hst : PSs (NdefX.ncx CX0 P w K mg base ["self", "limit", "__class__"] F d.a A outer ⟨hp, g, dr, tk0, os⟩ H4 E) [iSt2] (tOst K "limit" (tVar 0) (tVar 1)) := pss_one (ps_ost (pv 0) (pv 1))
  refine wpAny_mono (hst.run [] _ _ H4 { nx := fun _ H' => Q .non H', rt := Q } J2 ⟨_, rfl, _, rfl, e, C, rfl, T.oex, T.nL, .inl ⟨he, fun dx n ne => hq dx n ne⟩⟩) (fun fl s' hs => ?_) fun e s' hs => hs
  have fin : ∀ {σ' : L2.St} {H' : Hp} {v : V} {u : Value}, Inv (NdefX.ncx CX0 P w K mg base ["self", "limit", "__class__"] F d.a A outer ⟨hp, g, dr, tk0, os⟩ H4 E) [] σ' H' s' → L2.RelV v u → Q v H' → CE outer P w H4 ⟨hp, g, dr, tk0, os⟩ Q u s' :=
    fun {σ' H' v u} J rv q => ⟨v, H', J.os, J.bare, J.base, J.hok, rv, q⟩
  cases fl with
  | ret u =>
    obtain ⟨v, σ', H', J, rv, q⟩ := hs
    exact fin J rv q
  | next =>
    obtain ⟨σ', H', J, q⟩ := hs
    exact fin (v := V.non) (u := Value.none) J rfl q
  | brk =>
    obtain ⟨_, _, _, q⟩ := hs
    exact False.elim q
  | cont =>
    obtain ⟨_, _, _, q⟩ := hs
    exact False.elim q
end
end K46

/-! K11: inked_by, greatest_lot, comes_of_some. -/
namespace K46
open PySem PySem.Spec PyProof.Rows L2 Evl
/-- a lot and folds in the small -/
structure GoodIn (ns fs : List Int) : Prop where
  asc : Asc ns
  far : ∀ k ∈ ns, -100000 ≤ k ∧ k ≤ 100000
  len : ns.length < 64
  flen : fs.length ≤ 3
  ffar : ∀ k ∈ fs, -1000000 ≤ k ∧ k ≤ 1000000
theorem all_shs {B : Int} : ∀ {ns : List Int}, (∀ k ∈ ns, -B ≤ k ∧ k ≤ B) → (shs ns).all (inS B) = true
  | [], _ => rfl
  | n :: ns, h => by
    have h1 := h n List.mem_cons_self
    show (inS B (shI n) && (shs ns).all (inS B)) = true
    rw [all_shs fun k hk => h k (List.mem_cons_of_mem _ hk), Bool.and_true]
    show (decide (-B ≤ n) && decide (n ≤ B)) = true
    rw [decide_eq_true h1.1, decide_eq_true h1.2]
    rfl
theorem elem_shs : ∀ ns : List Int, (shs ns).all elemS = true
  | [] => rfl
  | n :: ns => elem_shs ns
theorem topOk_tI (ns : List Int) : topOk (tI ns) = true := elem_shs ns
theorem lotB_tI {ns : List Int} (h1 : Asc ns) (h2 : ∀ k ∈ ns, -100000 ≤ k ∧ k ≤ 100000) (h3 : ns.length ≤ 256) : lotB (tI ns) = true := by
  show (decide ((shs ns).length ≤ 256) && ((shs ns).all (inS 100000) && adj (shs ns))) = true
  rw [shs_len, decide_eq_true h3, all_shs h2, adj_iff.mpr h1]
  rfl
theorem foldsB_tI {fs : List Int} (h2 : ∀ k ∈ fs, -1000000 ≤ k ∧ k ≤ 1000000) (h3 : fs.length ≤ 12) : foldsB (tI fs) = true := by
  show (decide ((shs fs).length ≤ 12) && (shs fs).all (inS 1000000)) = true
  rw [shs_len, decide_eq_true h3, all_shs h2]
  rfl
theorem GoodIn.lot {ns fs : List Int} (g : GoodIn ns fs) : lotB (tI ns) = true := lotB_tI g.asc g.far (by have := g.len; omega)
theorem GoodIn.folds {ns fs : List Int} (g : GoodIn ns fs) : foldsB (tI fs) = true := foldsB_tI g.ffar (by have := g.flen; omega)
theorem pow8 {n : Nat} (h : n ≤ 3) : 2 ^ n ≤ 8 := Nat.pow_le_pow_right (n := 2) (by decide) h
theorem GoodIn.one {ns fs : List Int} (g : GoodIn ns fs) (p : Int) : (inkM [p] fs).length < 64 := by
  have h := len_inkM fs [p]
  have h2 := pow8 g.flen
  rw [List.length_singleton, Nat.one_mul] at h
  omega
theorem GoodIn.great {ns fs : List Int} (g : GoodIn ns fs) : fGreatIn [tI ns, tI fs] (tI (gM ns fs)) := ⟨ns, fs, rfl, rfl, by have := g.len; omega, g.asc, fun p _ => g.one p⟩
/-- neither a lot nor folds -/
def gBad (cL cF : Addr) (ss : List Sh) (C : Value) (fs : Option (List (Str × V))) : Prop :=
  (∃ x y, ss = [x, y] ∧ topOk x = true ∧ lotB x = false ∧ C = .ref cL ∧ fs = none) ∨ (∃ x y, ss = [x, y] ∧ topOk x = true ∧ lotB x = true ∧ topOk y = true ∧ foldsB y = false ∧ C = .ref cF ∧ fs = none)
section
variable {K : PySem.W.Frag} {σ : L2.St} {H H' : Hp} {D : Ends} {tz : TS} {s : Sh} {ss : List Sh} {F : List Sh → Sh → Prop} {G : List Sh → Value → Option (List (Str × V)) → Prop} {C : Value} {fs : Option (List (Str × V))} {E : XK} {ta : TA}
theorem xs_drop (h : EvAS ta σ H ss) (hg : G ss C fs) (k : ∀ d H1, Ex H H1 → ErrD d fs H1 → E C d H1) : tSeq (tDrop (tCall (spF F G) [] E ta)) tz D σ H := h H (Ex.refl H) _ fun vs H1 e1 i1 => by
  show spF F G (vs ++ []) H1 _ E
  rw [List.append_nil]
  exact .inr ⟨ss, C, fs, hg, i1, fun d H2 e2 q => k d H2 (e1.trans e2) q⟩
end
section
variable {P : Program} {w : World} {K : PySem.W.Frag} {mg : Str → Option Value} {base : Heap} {a : Ad}
/-- need_lot(lot); need_folds(folds) -/
theorem q_needs {x y : Sh} {E : XK} {σ : L2.St} {H : Hp} {tz : TS} {D : Ends} {cL cF : Addr} (h0 : EvS (tVar 0) σ H x) (h1 : EvS (tVar 1) σ H y) (ox : topOk x = true) (oy : topOk y = true) (lx : lotB x = true) (fy : foldsB y = true)
    (k : ∀ H1, Ex H H1 → tz D σ H1) : tSeq (tDrop (tCall (spF fNeedL (gNeedL cL)) [] E (tCons (tVar 0) tNil))) (tSeq (tDrop (tCall (spF fNeedF (gNeedF cF)) [] E (tCons (tVar 1) tNil))) tz) D σ H :=
  qs_drop (es_call (es_cons h0 es_nil) (sps_F ⟨x, rfl, ox, lx, rfl⟩)) fun H1 e1 => qs_drop (es_call (es_cons (h1.mono e1) es_nil) (sps_F ⟨y, rfl, oy, fy, rfl⟩)) fun H2 e2 => k H2 (e1.trans e2)
theorem q_bad {ss : List Sh} {C : Value} {fs : Option (List (Str × V))} {E : XK} {H : Hp} {tz : TS} {D : Ends} {cL cF : Addr} {vs : List V} {rest : List (Option V)} (h : gBad cL cF ss C fs) (hi : IsA ss vs H) (k : ∀ d H1, Ex H H1 → ErrD d fs H1 → E C d H1) :
    tSeq (tDrop (tCall (spF fNeedL (gNeedL cL)) [] E (tCons (tVar 0) tNil))) (tSeq (tDrop (tCall (spF fNeedF (gNeedF cF)) [] E (tCons (tVar 1) tNil))) tz) D (vs.map some ++ rest) H := by
  rcases h with ⟨x, y, rfl, ox, lx, rfl, rfl⟩ | ⟨x, y, rfl, ox, lx, oy, fy, rfl, rfl⟩
  · obtain ⟨x1, r, rfl, i1, i2⟩ := isA_cons.mp hi
    exact xs_drop (es_cons (es_var rfl i1) es_nil) ⟨x, rfl, ox, lx, rfl, rfl⟩ k
  · obtain ⟨x1, r, rfl, i1, i2⟩ := isA_cons.mp hi
    obtain ⟨x2, r2, rfl, i3, i4⟩ := isA_cons.mp i2
    exact qs_drop (es_call (es_cons (es_var rfl i1) es_nil) (sps_F ⟨x, rfl, ox, lx, rfl⟩)) fun H1 e1 => xs_drop (es_cons (es_var rfl (i3.mono e1)) es_nil) ⟨y, rfl, oy, fy, rfl, rfl⟩ fun d H2 e2 => k d H2 (e1.trans e2)
theorem gBad_len {cL cF : Addr} : ∀ ss C fs, gBad cL cF ss C fs → ss.length = 2 := fun ss C fs h => by
  rcases h with ⟨x, y, rfl, _⟩ | ⟨x, y, rfl, _⟩ <;> rfl
/-! ### greatest_lot -/
theorem scGreatL : FnScope ["lot", "folds"] ["lot", "folds"] (defScope sGreatL) := ⟨rfl, rfl, rfl, by decide +kernel, rfl, by decide +kernel, by decide +kernel⟩
def fGreat (ss : List Sh) (s : Sh) : Prop := ∃ ns fs, ss = [tI ns, tI fs] ∧ s = tI (gM ns fs) ∧ GoodIn ns fs
theorem ok_greatL (T : Txt K mg a) : FnOk P w K mg base (L2.CX P w) 5 a.greatL.a a.greatL.fd ["lot", "folds"] (spF fGreat (gBad a.cLot a.cFolds)) := by
  have GL := ok_needL (P := P) (w := w) (base := base) T
  have GF := ok_needF (P := P) (w := w) (base := base) T
  have GI := ok_greatIn (P := P) (w := w) (base := base) T
  refine T.greatL.fn.okX scGreatL (spF_len (fun ss s ⟨_, _, e, _⟩ => by rw [e]; rfl) gBad_len) (fun cdv A outer s H vs Q E hr h => ?_)
  refine ⟨_, pss_cons (ps_expr (pe_call GL (hr.mono (by decide)) (by rfl) T.needL.mg T.needL.fn.kp T.needL.bd .nil (passes_call (takes_of rfl rfl rfl rfl) (fun _ _ _ _ h => h)) (pa_cons (pv 0) pa_nil)))
    (pss_cons (ps_expr (pe_call GF hr (by rfl) T.needF.mg T.needF.fn.kp T.needF.bd .nil (passes_call (takes_of rfl rfl rfl rfl) (fun _ _ _ _ h => h)) (pa_cons (pv 1) pa_nil)))
    (pss_one (ps_ret (pe_call GI (hr.mono (by decide)) (by rfl) T.greatIn.mg T.greatIn.fn.kp T.greatIn.bd .nil pass0 (pa_cons (pv 0) (pa_cons (pv 1) pa_nil)))))), ?_⟩
  rcases h with ⟨ss, s', ⟨ns, fs, rfl, rfl, g⟩, hi', q⟩ | ⟨ss, C, fs, hb, hi', q⟩
  · obtain ⟨x1, r, rfl, i1, i2⟩ := isA_cons.mp hi'
    obtain ⟨x2, r2, rfl, i3, i4⟩ := isA_cons.mp i2
    rw [isA_nil.mp i4]
    exact q_needs (es_var rfl i1) (es_var rfl i3) (topOk_tI _) (topOk_tI _) g.lot g.folds fun H1 e1 =>
      ss_ret (es_call (es_cons (es_var rfl (i1.mono e1)) (es_cons (es_var rfl (i3.mono e1)) es_nil)) (sps_P g.great)) fun v H2 e2 i5 => q v H2 (e1.trans e2) i5
  · exact q_bad hb hi' q
/-! ### comes_of_some -/
theorem scComes : FnScope ["lot", "folds"] ["lot", "folds"] (defScope sComes) := ⟨rfl, rfl, rfl, by decide +kernel, rfl, by decide +kernel, by decide +kernel⟩
def fComes (ss : List Sh) (s : Sh) : Prop := ∃ ns fs, ss = [tI ns, tI fs] ∧ s = shB (decide (inkM (gM ns fs) fs = ns)) ∧ GoodIn ns fs
theorem gM_len (ns fs : List Int) : (gM ns fs).length ≤ ns.length := List.length_filter_le _ _
theorem GoodIn.inkG {ns fs : List Int} (g : GoodIn ns fs) : fInked [tI (gM ns fs), tI fs] (lI (inkM (gM ns fs) fs)) :=
  ⟨_, _, rfl, rfl, by have := g.len; have := gM_len ns fs; omega, .inr (Nat.lt_of_le_of_lt (ink_gM_len g.asc) g.len)⟩
theorem ok_comes (T : Txt K mg a) : FnOk P w K mg base (L2.CX P w) 5 a.comes.a a.comes.fd ["lot", "folds"] (spF fComes (gBad a.cLot a.cFolds)) := by
  have GL := ok_needL (P := P) (w := w) (base := base) T
  have GF := ok_needF (P := P) (w := w) (base := base) T
  have GI := ok_greatIn (P := P) (w := w) (base := base) T
  have GK := ok_inked (P := P) (w := w) (base := base) T
  refine T.comes.fn.okX scComes (spF_len (fun ss s ⟨_, _, e, _⟩ => by rw [e]; rfl) gBad_len) (fun cdv A outer s H vs Q E hr h => ?_)
  have hu := hu_of hr
  refine ⟨_, pss_cons (ps_expr (pe_call GL (hr.mono (by decide)) (by rfl) T.needL.mg T.needL.fn.kp T.needL.bd .nil (passes_call (takes_of rfl rfl rfl rfl) (fun _ _ _ _ h => h)) (pa_cons (pv 0) pa_nil)))
    (pss_cons (ps_expr (pe_call GF hr (by rfl) T.needF.mg T.needF.fn.kp T.needF.bd .nil (passes_call (takes_of rfl rfl rfl rfl) (fun _ _ _ _ h => h)) (pa_cons (pv 1) pa_nil)))
    (pss_one (ps_ret (pe_cmpR (op_eqD hr.units) (pe_call GK (hr.mono (by decide)) (by rfl) T.inked.mg T.inked.fn.kp T.inked.bd .nil pass0 (pa_cons (pe_call GI (hr.mono (by decide)) (by rfl) T.greatIn.mg T.greatIn.fn.kp T.greatIn.bd .nil pass0 (pa_cons (pv 0) (pa_cons (pv 1) pa_nil))) (pa_cons (pv 1) pa_nil)))
      (pe_callTy call_list_of (by rfl) T.bList boot_list (pa_cons (pv 0) pa_nil)) (nomark _))))), ?_⟩
  rcases h with ⟨ss, s', ⟨ns, fs, rfl, rfl, g⟩, hi', q⟩ | ⟨ss, C, fs, hb, hi', q⟩
  · obtain ⟨x1, r, rfl, i1, i2⟩ := isA_cons.mp hi'
    obtain ⟨x2, r2, rfl, i3, i4⟩ := isA_cons.mp i2
    rw [isA_nil.mp i4]
    exact q_needs (es_var rfl i1) (es_var rfl i3) (topOk_tI _) (topOk_tI _) g.lot g.folds fun H1 e1 =>
      ss_ret (es_op (es_call (es_cons (es_call (es_cons (es_var rfl (i1.mono e1)) (es_cons (es_var rfl (i3.mono e1)) es_nil)) (sps_P g.great)) (es_cons (es_var rfl (i3.mono e1)) es_nil)) (sps_P g.inkG))
        (es_cb (es_cons (es_var rfl (i1.mono e1)) es_nil) rcs_listT) (rs_eqL _ _)) fun v H2 e2 i5 => q v H2 (e1.trans e2) i5
  · exact q_bad hb hi' q
/-! ### inked_by, where it answers -/
theorem scInkedBy : FnScope ["lot", "folds", "found"] ["lot", "folds"] (defScope sInkedBy) := ⟨rfl, rfl, rfl, by decide +kernel, rfl, by decide +kernel, by decide +kernel⟩
def fInkedBy (ss : List Sh) (s : Sh) : Prop := ∃ ns fs, ss = [tI ns, tI fs] ∧ s = tI (inkM ns fs) ∧ GoodIn ns fs ∧ (inkM ns fs).length < 64
theorem ok_inkedBy (T : Txt K mg a) (TI : InitT P K a.cMany a.init) (bI : Binds K a.init.fd ["self", "limit"] []) : FnOk P w K mg base (L2.CX P w) 5 a.inkedBy.a a.inkedBy.fd ["lot", "folds"] (spF fInkedBy fun _ _ _ => False) := by
  have GL := ok_needL (P := P) (w := w) (base := base) T
  have GF := ok_needF (P := P) (w := w) (base := base) T
  have GK := ok_inked (P := P) (w := w) (base := base) T
  have G0 := ok_init (P := P) (w := w) (base := base) (mg := mg) TI T.bSuper
  refine T.inkedBy.fn.okX scInkedBy (spF_len (fun ss s ⟨_, _, e, _⟩ => by rw [e]; rfl) fun _ _ _ z => z.elim) (fun cdv A outer s H vs Q E hr h => ?_)
  refine ⟨_, pss_cons (ps_expr (pe_call GL (hr.mono (by decide)) (by rfl) T.needL.mg T.needL.fn.kp T.needL.bd .nil (passes_call (takes_of rfl rfl rfl rfl) (fun _ _ _ _ h => h)) (pa_cons (pv 0) pa_nil)))
    (pss_cons (ps_expr (pe_call GF hr (by rfl) T.needF.mg T.needF.fn.kp T.needF.bd .nil (passes_call (takes_of rfl rfl rfl rfl) (fun _ _ _ _ h => h)) (pa_cons (pv 1) pa_nil)))
    (pss_cons (ps_set (i := 2) scInkedBy.nd rfl (.inl rfl) (pe_call GK (hr.mono (by decide)) (by rfl) T.inked.mg T.inked.fn.kp T.inked.bd .nil pass0 (pa_cons (pv 0) (pa_cons (pv 1) pa_nil))))
    (pss_cons (ps_if (pt_cmpR op_gt (pe_callB call_len_seq (by rfl) T.bLen boot_len (pa_cons (pv 2) pa_nil)) (C8.pe_gc (v := .int 10000) (by rfl) (gc_int T.cMOST)) (nomark _))
      (pss_one (ps_raise rfl (takes_of rfl rfl rfl rfl) (pmk_oex TI.oex TI.fI TI.tI G0 (hr.mono (by decide)) bI .nil pass0 (by exact rfl) T.eMany.mg (pa_cons (C8.pe_gc (v := .int 10000) (by rfl) (gc_int T.cMOST)) pa_nil)))) pss_nil)
    (pss_one (ps_ret (pe_callTy call_tuple_of (by rfl) T.bTuple boot_tuple (pa_cons (pv 2) pa_nil))))))), ?_⟩
  rcases h with ⟨ss, s', ⟨ns, fs, rfl, rfl, g, hl⟩, hi', q⟩ | ⟨ss, C, fs, hb, hi', q⟩
  · obtain ⟨x1, r, rfl, i1, i2⟩ := isA_cons.mp hi'
    obtain ⟨x2, r2, rfl, i3, i4⟩ := isA_cons.mp i2
    rw [isA_nil.mp i4]
    refine q_needs (es_var rfl i1) (es_var rfl i3) (topOk_tI _) (topOk_tI _) g.lot g.folds fun H1 e1 => ?_
    refine qs_asg (es_call (es_cons (es_var rfl (i1.mono e1)) (es_cons (es_var rfl (i3.mono e1)) es_nil)) (sps_P ⟨ns, fs, rfl, rfl, by have := g.len; omega, .inr hl⟩)) fun v H2 e2 iv => ?_
    have hc := et_T (es_op (r := rI0 fun i j => .bl (decide (j < i))) (es_is (es_cb (es_cons (es_var (i := 2) (σ := [some x1, some x2, some v]) rfl iv) es_nil) (rcs_lenL (K := K))) (by rw [shs_len])) (es_c (v := .int 10000)) (rs_I0 (i := ((inkM ns fs).length : Int)) (j := 10000)))
    exact q_when hc (fun z => absurd (of_decide_eq_true z) (by omega)) fun _ H3 e3 =>
      ss_ret (es_cb (es_cons (es_var rfl (iv.mono e3)) es_nil) rcs_tupL) fun v H4 e4 i5 => q v H4 (((e1.trans e2).trans e3).trans e4) i5
  · exact hb.elim
end
end K46

/-! K12: fewest_before. -/
namespace K46
open PySem PySem.Spec PyProof.Rows L2 Evl
section
variable {K : PySem.W.Frag} {σ : L2.St} {H H' : Hp} {D : Ends} {tl te : TE} {tu tz : TS} {g : TG} {s : Sh} {ss : List Sh}
/-- for g in a new list -/
theorem s_forS (h : EvS tl σ H (.l ss)) (k : ∀ a xs H1, Ex H H1 → H1 a = some (.lst xs) → IsA ss xs H1 → ∃ Pv : Nat → L2.St → Hp → Prop, Pv 0 σ H1 ∧ (∀ i σ' H', Pv i σ' H' → Ex H1 H') ∧
    (∀ (i : Nat) (x : V) (s : Sh) σ' H', ss[i]? = some s → Is s x H' → Pv i σ' H' → g x σ' H' fun σ2 H2 => tu { D with nx := Pv (i + 1), ct := Pv (i + 1), bk := D.nx } σ2 H2) ∧ ∀ σ' H', Pv ss.length σ' H' → D.nx σ' H') : tFor (iList K tl) g tu D σ H :=
  h H (Ex.refl H) _ fun v H1 e1 i1 => by
    obtain ⟨a, xs, rfl, ea, hxs⟩ := is_l.mp i1
    obtain ⟨Pv, p0, pe, ps, pd⟩ := k a xs H1 e1 ea hxs
    have hl := isA_len hxs
    refine ⟨a, rfl, ⟨xs, SqL.of ea⟩, for_list (xs := xs) Pv p0 (fun i σ' H' _ p => SqL.of (pe i σ' H' p a _ ea)) (fun i x σ' H' hi p => ?_) (fun σ' H' p => pd σ' H' (by rw [← hl]; exact p))⟩
    have hlt : i < ss.length := by rw [← hl]; exact (List.getElem?_eq_some_iff.mp hi).1
    obtain ⟨y, e2, e3⟩ := isA_get hxs (List.getElem?_eq_getElem hlt)
    rw [hi] at e2
    cases e2
    exact ps i x _ σ' H' (List.getElem?_eq_getElem hlt) (e3.mono (pe i σ' H' p)) p
/-- for g in a tuple -/
theorem s_forST (h : EvS tl σ H (.t ss)) (k : ∀ a xs H1, Ex H H1 → H1 a = some (.tup xs) → IsA ss xs H1 → ∃ Pv : Nat → L2.St → Hp → Prop, Pv 0 σ H1 ∧ (∀ i σ' H', Pv i σ' H' → H' a = some (.tup xs)) ∧
    (∀ (i : Nat) (x : V) (s : Sh) σ' H', ss[i]? = some s → Is s x H1 → Pv i σ' H' → g x σ' H' fun σ2 H2 => tu { D with nx := Pv (i + 1), ct := Pv (i + 1), bk := D.nx } σ2 H2) ∧ ∀ σ' H', Pv ss.length σ' H' → D.nx σ' H') : tFor (iTup K tl) g tu D σ H :=
  h H (Ex.refl H) _ fun v H1 e1 i1 => by
    obtain ⟨a, xs, rfl, ea, hxs⟩ := is_t.mp i1
    obtain ⟨Pv, p0, pe, ps, pd⟩ := k a xs H1 e1 ea hxs
    have hl := isA_len hxs
    refine ⟨a, rfl, ⟨xs, SqT.of ea⟩, for_tup (xs := xs) Pv p0 (fun i σ' H' _ p => SqT.of (pe i σ' H' p)) (fun i x σ' H' hi p => ?_) (fun σ' H' p => pd σ' H' (by rw [← hl]; exact p))⟩
    have hlt : i < ss.length := by rw [← hl]; exact (List.getElem?_eq_some_iff.mp hi).1
    obtain ⟨y, e2, e3⟩ := isA_get hxs (List.getElem?_eq_getElem hlt)
    rw [hi] at e2
    cases e2
    exact ps i x _ σ' H' (List.getElem?_eq_getElem hlt) e3 p
theorem del_keep {H : Hp} {a b : Addr} (h : b ≠ a) : del H a b = H b := del_ne h
/-- TooMany(n), let go -/
theorem xs_mkO {C : Addr} {n : Int} {Q : XK} (q : ∀ d H1, Ex H H1 → ErrD d (some [(("limit" : Str), V.int n)]) H1 → Q (.ref C) d H1) : tMkO C (spInit C) [] (tCons (tC (.int n)) tNil) σ H Q := by
  refine ⟨by show 1 ≤ 1000; decide, fun a ha => ⟨a, .int n, rfl, upd_same, fun dx hdx hne => ?_⟩⟩
  rw [upd_ne hne] at hdx
  refine ⟨rfl, dx, [("limit", .int n)], upd_same, by rw [upd_ne hne]; exact upd_same, hdx, q (some dx) _ (fun b o hb => ?_) upd_same⟩
  have h1 : b ≠ dx := ne_of_none hb hdx
  have h2 : b ≠ a := ne_of_none hb ha
  rw [upd_ne h1, del_ne h2, upd_ne h2, upd_ne h1, upd_ne h2]
  exact hb
end
section
variable {P : Program} {w : World} {K : PySem.W.Frag} {mg : Str → Option Value} {base : Heap} {a : Ad}
theorem scFewest : FnScope ["lot", "folds", "places", "many", "some"] ["lot", "folds"] (defScope sFewest) := ⟨rfl, rfl, rfl, by decide +kernel, rfl, by decide +kernel, by decide +kernel⟩
def fFew (ss : List Sh) (s : Sh) : Prop := ∃ ns fs, ss = [tI ns, tI fs] ∧ s = oI (fewM ns fs (gM ns fs)) ∧ GoodIn ns fs ∧ (gM ns fs).length ≤ 8
def gFew (cL cF cM : Addr) (ss : List Sh) (C : Value) (fs' : Option (List (Str × V))) : Prop := gBad cL cF ss C fs' ∨ ∃ ns fs, ss = [tI ns, tI fs] ∧ GoodIn ns fs ∧ 14 < (gM ns fs).length ∧ C = .ref cM ∧ fs' = some [(("limit" : Str), V.int 14)]
theorem gFew_len {cL cF cM : Addr} : ∀ ss C fs, gFew cL cF cM ss C fs → ss.length = 2 := fun ss C fs h => by
  rcases h with h | ⟨_, _, e, _⟩
  · exact gBad_len ss C fs h
  · rw [e]; rfl
theorem ok_fewest (T : Txt K mg a) (TI : InitT P K a.cMany a.init) (bI : Binds K a.init.fd ["self", "limit"] []) : FnOk P w K mg base (L2.CX P w) 5 a.fewest.a a.fewest.fd ["lot", "folds"] (spF fFew (gFew a.cLot a.cFolds a.cMany)) := by
  have GL := ok_needL (P := P) (w := w) (base := base) T
  have GF := ok_needF (P := P) (w := w) (base := base) T
  have GK := ok_inked (P := P) (w := w) (base := base) T
  have GI := ok_greatIn (P := P) (w := w) (base := base) T
  have GW := ok_lots (P := P) (w := w) (base := base) T
  have G0 := ok_init (P := P) (w := w) (base := base) (mg := mg) TI T.bSuper
  refine T.fewest.fn.okX scFewest (spF_len (fun ss s ⟨_, _, e, _⟩ => by rw [e]; rfl) gFew_len) (fun cdv A outer s H vs Q E hr h => ?_)
  have hp : PassesOwn (model P w) (cxOf (L2.CX P w) P w K mg base ["lot", "folds", "places", "many", "some"] "fewest_before" (defScope sFewest) a.fewest.a cdv A outer s H E).A (cxOf (L2.CX P w) P w K mg base ["lot", "folds", "places", "many", "some"] "fewest_before" (defScope sFewest) a.fewest.a cdv A outer s H E).env (cxOf (L2.CX P w) P w K mg base ["lot", "folds", "places", "many", "some"] "fewest_before" (defScope sFewest) a.fewest.a cdv A outer s H E).xe := passes_of rfl
  refine ⟨_, pss_cons (ps_expr (pe_call GL (hr.mono (by decide)) (by rfl) T.needL.mg T.needL.fn.kp T.needL.bd .nil (passes_call (takes_of rfl rfl rfl rfl) (fun _ _ _ _ h => h)) (pa_cons (pv 0) pa_nil)))
    (pss_cons (ps_expr (pe_call GF hr (by rfl) T.needF.mg T.needF.fn.kp T.needF.bd .nil (passes_call (takes_of rfl rfl rfl rfl) (fun _ _ _ _ h => h)) (pa_cons (pv 1) pa_nil)))
    (pss_cons (ps_set (i := 2) scFewest.nd rfl (.inl rfl) (pe_call GI (hr.mono (by decide)) (by rfl) T.greatIn.mg T.greatIn.fn.kp T.greatIn.bd .nil pass0 (pa_cons (pv 0) (pa_cons (pv 1) pa_nil))))
    (pss_cons (ps_if (pt_cmpR op_gt (pe_callB call_len_seq (by rfl) T.bLen boot_len (pa_cons (pv 2) pa_nil)) (C8.pe_gc (v := .int 14) (by rfl) (gc_int T.cP14)) (nomark _))
      (pss_one (ps_raise rfl (takes_of rfl rfl rfl rfl) (pmk_oex TI.oex TI.fI TI.tI G0 (hr.mono (by decide)) bI .nil pass0 (by exact rfl) T.eMany.mg (pa_cons (C8.pe_gc (v := .int 14) (by rfl) (gc_int T.cP14)) pa_nil)))) pss_nil)
    (pss_cons (ps_for hp rfl (pi_range1 (by rfl) T.bRange (pa_cons (pe_op op_add (pe_callB call_len_seq (by rfl) T.bLen boot_len (pa_cons (pv 2) pa_nil)) pe_int) pa_nil)) (pg_name (i := 3) scFewest.nd rfl (.inl rfl))
      (pss_one (ps_for hp rfl (pi_list (pe_call GW (hr.mono (by decide)) (by rfl) T.lotsW.mg T.lotsW.fn.kp T.lotsW.bd .nil pass0 (pa_cons (pv 2) (pa_cons (pv 3) pa_nil)))) (pg_name (i := 4) scFewest.nd rfl (.inl rfl))
        (pss_one (ps_if (pt_cmpR (op_eqD hr.units) (pe_call GK (hr.mono (by decide)) (by rfl) T.inked.mg T.inked.fn.kp T.inked.bd .nil pass0 (pa_cons (pv 4) (pa_cons (pv 1) pa_nil))) (pe_callTy call_list_of (by rfl) T.bList boot_list (pa_cons (pv 0) pa_nil)) (nomark _))
          (pss_one (ps_ret (pv 4))) pss_nil)))))
    (pss_one (ps_ret pe_non)))))), ?_⟩
  have pre : ∀ {ns fs : List Int} {x1 x2 : V} {tz : TS} {D : Ends}, GoodIn ns fs → Is (tI ns) x1 H → Is (tI fs) x2 H → (∀ v H1, Ex H H1 → Is (tI (gM ns fs)) v H1 → tz D [some x1, some x2, some v, none, none] H1) →
      tSeq (tDrop (tCall (spF fNeedL (gNeedL a.cLot)) [] E (tCons (tVar 0) tNil))) (tSeq (tDrop (tCall (spF fNeedF (gNeedF a.cFolds)) [] E (tCons (tVar 1) tNil))) (tSeq (tAsg (tCall (spP fGreatIn) [] E0 (tCons (tVar 0) (tCons (tVar 1) tNil))) (gName 2)) tz)) D [some x1, some x2, none, none, none] H := by
    intro ns fs x1 x2 tz D g i1 i3 k
    refine q_needs (es_var rfl i1) (es_var rfl i3) (topOk_tI _) (topOk_tI _) g.lot g.folds fun H1 e1 => ?_
    exact qs_asg (es_call (es_cons (es_var rfl (i1.mono e1)) (es_cons (es_var rfl (i3.mono e1)) es_nil)) (sps_P g.great)) fun v H2 e2 iv => k v H2 (e1.trans e2) iv
  have hcmp : ∀ {x1 x2 v : V} {c3 c4 : Option V} {H2 : Hp} {gs : List Int}, Is (tI gs) v H2 → EvS (tCB (fun xs H Q => ∃ p ys, xs = [.ref p] ∧ (SqL K H p ys ∨ SqT K H p ys) ∧ Q (.int ys.length) H) (tCons (tVar 2) tNil)) [some x1, some x2, some v, c3, c4] H2 (shI gs.length) := by
    intro x1 x2 v c3 c4 H2 gs iv
    exact es_is (es_cb (es_cons (es_var (i := 2) rfl iv) es_nil) rcs_lenT) (by rw [shs_len])
  rcases h with ⟨ss, s', ⟨ns, fs, rfl, rfl, g, h8⟩, hi', q⟩ | ⟨ss, C, fs', hb | ⟨ns, fs, rfl, g, h14, rfl, rfl⟩, hi', q⟩
  · obtain ⟨x1, r, rfl, i1, i2⟩ := isA_cons.mp hi'
    obtain ⟨x2, r2, rfl, i3, i4⟩ := isA_cons.mp i2
    rw [isA_nil.mp i4]
    refine pre g i1 i3 fun v H2 e2 iv => ?_
    have hgl := gM_len ns fs
    have hgn := g.len
    have ag : Asc (gM ns fs) := asc_gM g.asc
    generalize hgs : gM ns fs = gs at iv h8 hgl ag
    refine q_when (et_T (es_op (hcmp iv) (es_c (v := .int 14)) (rs_I0 (i := (gs.length : Int)) (j := 14)))) (fun z => absurd (of_decide_eq_true z) (by omega)) fun _ H3 e3 => ?_
    refine q_forR1 (n := gs.length + 1) (ea_1 (es_cons (es_op (hcmp (iv.mono e3)) (es_c (v := .int 1)) (rs_I0 (i := (gs.length : Int)) (j := 1))) es_nil)) (by omega)
      (fun i σ' H' => ∃ c3 c4, σ' = [some x1, some x2, some v, c3, c4] ∧ Ex H3 H' ∧ ∀ m' < i, ∀ t ∈ lotsM gs m', hitM ns fs t = false) (fun H4 e4 => ⟨none, none, rfl, e4, fun m' hm => absurd hm (Nat.not_lt_zero _)⟩) (fun i σ' H' hi hP => ?_) fun σ' H' hP => ?_
    · obtain ⟨c3, c4, rfl, e4, hno⟩ := hP
      have hi8 : i ≤ gs.length := by omega
      refine s_forS (ss := (lotsM gs i).map tI) (es_call (es_cons (es_var rfl ((iv.mono e3).mono e4)) (es_cons (es_var (s := shI i) rfl (is_v.mpr rfl)) es_nil)) (sps_P ⟨gs, i, rfl, rfl, h8, by omega, ag⟩)) fun al xs H5 e5 hal hxs => ?_
      refine ⟨fun k σ' H' => ∃ c4, σ' = [some x1, some x2, some v, some (.int i), c4] ∧ Ex H5 H' ∧ ∀ t ∈ (lotsM gs i).take k, hitM ns fs t = false, ⟨c4, rfl, Ex.refl _, fun t ht => by rw [List.take_zero] at ht; cases ht⟩, fun k σ' H' ⟨_, _, e, _⟩ => e, fun k x s σ' H' hk hs hP => ?_, fun σ' H' hP => ?_⟩
      · obtain ⟨c4', rfl, e6, hno2⟩ := hP
        rw [List.getElem?_map] at hk
        obtain ⟨t, ht, rfl⟩ : ∃ t, (lotsM gs i)[k]? = some t ∧ s = tI t := by
          cases e : (lotsM gs i)[k]? with
          | none => rw [e] at hk; cases hk
          | some t => rw [e] at hk; exact ⟨t, rfl, (Option.some.inj hk).symm⟩
        obtain ⟨at1, at2, at3⟩ := lots_sub ag (List.mem_of_getElem? ht)
        have e0 : Ex H H' := (((e2.trans e3).trans e4).trans e5).trans e6
        have hlen : (inkM t fs).length < 64 := by
          rw [← hgs] at at2
          exact Nat.lt_of_le_of_lt (ink_some_len g.asc at1 at2) g.len
        have htest := et_T (es_op (es_call (es_cons (es_var (i := 4) (σ := [some x1, some x2, some v, some (.int i), some x]) rfl hs) (es_cons (es_var (i := 1) rfl (i3.mono e0)) es_nil)) (sps_P ⟨t, fs, rfl, rfl, by omega, .inr hlen⟩) : EvS (tCall (spP fInked) [] E0 _) _ _ _)
          (es_cb (es_cons (es_var (i := 0) rfl (i1.mono e0)) es_nil) (rcs_listT (K := K))) (rs_eqL (K := K) (inkM t fs) ns))
        refine s_when htest (fun z H7 e7 => ?_) fun z H7 e7 => ?_
        · refine ss_ret (es_var (i := 4) rfl (hs.mono e7)) fun v8 H8 e8 i8 => q v8 H8 ((e0.trans e7).trans e8) ?_
          have hf : fewM ns fs gs = some t := few_hit (m := i) (i := k) (by omega) ht hno hno2 (by
            unfold hitM
            exact z)
          rw [hgs, hf]
          exact i8
        · refine ⟨some x, rfl, e6.trans e7, fun t' ht' => ?_⟩
          rw [List.take_succ, ht] at ht'
          rcases List.mem_append.mp ht' with h | h
          · exact hno2 t' h
          · have : t' = t := by simpa using h
            subst this
            unfold hitM
            exact z
      · obtain ⟨c4', rfl, e6, hno2⟩ := hP
        refine ⟨some (.int i), c4', rfl, (e4.trans e5).trans e6, fun m' hm t ht => ?_⟩
        by_cases hmi : m' < i
        · exact hno m' hmi t ht
        · have : m' = i := by omega
          subst this
          refine hno2 t ?_
          rw [List.length_map, List.take_length]
          exact ht
    · obtain ⟨c3, c4, rfl, e4, hno⟩ := hP
      have en : ((gs.length : Int) + 1).toNat = gs.length + 1 := by omega
      rw [en] at hno
      refine ss_ret (es_c (v := .non)) fun v8 H8 e8 i8 => q v8 H8 (((e2.trans e3).trans e4).trans e8) ?_
      have hf : fewM ns fs gs = none := few_none hno
      rw [hgs, hf]
      exact i8
  · exact q_bad hb hi' q
  · obtain ⟨x1, r, rfl, i1, i2⟩ := isA_cons.mp hi'
    obtain ⟨x2, r2, rfl, i3, i4⟩ := isA_cons.mp i2
    rw [isA_nil.mp i4]
    refine pre g i1 i3 fun v H2 e2 iv => ?_
    refine q_when (et_T (es_op (hcmp iv) (es_c (v := .int 14)) (rs_I0 (i := ((gM ns fs).length : Int)) (j := 14)))) (fun _ H3 e3 => ?_) fun z => absurd (of_decide_eq_false z) (by omega)
    exact xs_mkO fun d H4 e4 he => q d H4 ((e2.trans e3).trans e4) he
end
end K46

/-! K13: _law_inked. -/
namespace K46
open PySem PySem.Spec PyProof.Rows L2 Evl
def rSDI : List V → Hp → VK → Prop := fun xs H Q => ∃ (a : Addr) (kvs : List (Key × V)) (ks : List Int), xs = [.ref a] ∧ Rd H a (.dK kvs) ∧ kvs.map (·.1) = ks.map Sum.inl ∧ ks.length < 64 ∧
    ∀ (ys : List Int) (p : Addr), ys.Perm ks → ys.Pairwise (· ≤ ·) → H p = none → Q (.ref p) (upd H p (.lst (ys.map V.int)))
theorem cr_sdi {X : Cx} (hc : X.calm = true) : CallR X (.builtin "sorted") rSDI := call_sortedDI hc
theorem tk_keys (ks : List Int) : (tk ks).map (·.1) = ks.map Sum.inl := by
  unfold tk
  rw [List.map_map]
  rfl
theorem tk_vals (ks : List Int) : ((tk ks).map fun kv => kV kv.1) = ks.map V.int := by
  unfold tk
  rw [List.map_map]
  rfl
theorem es_sdi {K : PySem.W.Frag} {σ : L2.St} {H : Hp} {i : Nat} {d : Addr} {ks : List Int} (hs : σ[i]? = some (some (.ref d))) (hd : H d = some (.dK (tk ks))) (hn : ks.Nodup) (hl : ks.length < 64) : EvS (tCB rSDI (tCons (tVar i) tNil)) σ H (lI (sd ks)) := fun H1 e Q q =>
  ⟨.ref d, hs, d, tk ks, ks, rfl, .inl (e d _ hd), tk_keys ks, hl, fun ys p hp hw hpn => q _ _ (Ex.new hpn) (is_lI.mpr ⟨p, rfl, by
    have ey : ys = sd ks := asc_ext (asc_of hw (hp.nodup_iff.mpr hn)) (asc_sd ks) fun k => by rw [mem_sd, hp.mem_iff]
    rw [ey]
    exact upd_same⟩)⟩
section
variable {P : Program} {w : World} {K : PySem.W.Frag} {mg : Str → Option Value} {base : Heap} {a : Ad}
abbrev nLInk : List Str := ["_law_places", "_law_folds_here", "_law_found", "_law_crease", "_law_place"]
theorem scLInk : FnScope nLInk ["_law_places", "_law_folds_here"] (defScope sLInk) := ⟨rfl, rfl, rfl, by decide +kernel, rfl, by decide +kernel, by decide +kernel⟩
def fLInk (ss : List Sh) (s : Sh) : Prop := ∃ ns fs, ss = [tI ns, tI fs] ∧ s = tI (inkM ns fs) ∧ Asc ns ∧ (inkM ns fs).length < 64
theorem inkM_ge {ns fs : List Int} (h : Asc ns) : ns.length ≤ (inkM ns fs).length := asc_len h (asc_inkM h) fun k hk => inkM_self hk
theorem ok_lInk (T : Txt K mg a) : FnOk P w K mg base CX0 1 a.lInk.a a.lInk.fd ["_law_places", "_law_folds_here"] (spP fLInk) := by
  refine T.lInk.fn.ok scLInk (spP_len fun ss s ⟨_, _, e, _⟩ => by rw [e]; rfl) (fun cdv A outer s H vs Q E hr h => ?_)
  obtain ⟨ss, s', ⟨ns, fs, rfl, rfl, hasc, h64⟩, hi', q⟩ := h
  obtain ⟨x1, r, rfl, i1, i2⟩ := isA_cons.mp hi'
  obtain ⟨x2, r2, rfl, i3, i4⟩ := isA_cons.mp i2
  rw [isA_nil.mp i4]
  have hu := hu_of hr
  refine ⟨_, pss_cons (ps_set (i := 2) scLInk.nd rfl (.inl rfl) (pe_callTy (cr_dictP rfl) (by rfl) T.bDict boot_dict (pa_cons
      (pe_lc (own := [("_law_place", 4)]) (g := gName 4) (tt := tYes) rfl scLInk.nd (pi_tup (pv 0)) (blkOk_by (N := nLInk) (sc := defScope sLInk) (by decide +kernel)) (fun _ _ _ _ _ => pg_name (i := 4) scLInk.nd rfl (.inl rfl)) (fun _ _ _ _ _ => pts_nil)
        (fun _ _ _ _ _ => pe_tup (pa_cons (pv 4) (pa_cons pe_bl pa_nil)))) pa_nil)))
    (pss_cons (ps_for PassesOwn.never rfl (pi_tup (pv 1)) (pg_name (i := 3) scLInk.nd rfl (.inl rfl))
      (pss_one (ps_for PassesOwn.never rfl (pi_list (pe_callTy (call_list_dK rfl) (by rfl) T.bList boot_list (pa_cons (pv 2) pa_nil))) (pg_name (i := 4) scLInk.nd rfl (.inl rfl))
        (pss_one (ps_dput hu (pv 2) (pe_op op_sub (pv 3) (pv 4)) pe_bl (by rfl))))))
    (pss_one (ps_ret (pe_callTy call_tuple_of (by rfl) T.bTuple boot_tuple (pa_cons (pe_callB (cr_sdi rfl) (by rfl) T.bSorted boot_sorted (pa_cons (pv 2) pa_nil)) pa_nil))))), ?_⟩
  have hnl : ns.length < 64 := Nat.lt_of_le_of_lt (inkM_ge hasc) h64
  have hd : EvS (tLc (iTup K (tVar 0)) (gName 4) tYes (tTup (tCons (tVar 4) (tCons (tC (.bl true)) tNil))) [4]) [some x1, some x2, none, none, none] H (.l (ns.map pairS)) := by
    have z := es_lcT (K := K) (t := tYes) (te := tTup (tCons (tVar 4) (tCons (tC (.bl true)) tNil))) (tl := tVar 0) (σ := [some x1, some x2, none, none, none]) (H := H) (ss := shs ns) (j := 4) (vs := [4]) (fun _ => true) (fun i => pairS (ns.getD i 0)) (fun _ => rfl) (es_var rfl i1) (by rw [shs_len]; omega) (fun x => rfl) (fun _ _ _ _ _ _ _ => et_yes)
      (fun i s x H2 hi e hs _ => by
        rw [(shs_get hi).1] at hs
        exact es_tup (es_cons (es_var rfl hs) (es_cons es_c es_nil)) (by show 2 ≤ 100000; decide))
    have e : givS (shs ns).length (fun _ => true) (fun i => pairS (ns.getD i 0)) = ns.map pairS := by
      have e1 := givS_all (ss := shs ns) (n := (shs ns).length) (g := fun i => pairS (ns.getD i 0)) (F := fun s => match s with | .v (.int n) => pairS n | s => s) rfl fun i s hi => by
        rw [(shs_get hi).1]
        rfl
      rw [e1]
      unfold shs
      rw [List.map_map]
      rfl
    rw [e] at z
    exact z
  refine qs_dict hd (asc_nodup hasc) fun d H1 nd e1 hd1 => ?_
  obtain ⟨p2, rfl, hp2⟩ := is_tI.mp i3
  refine q_forT (xs := fs.map V.int) (ev_var rfl) (SqT.of (e1 _ _ hp2)) (fun i σ' H' => ∃ ks c3 c4, σ' = [some x1, some (.ref p2), some (.ref d), c3, c4] ∧ Ex H H' ∧ H' d = some (.dK (tk ks)) ∧ ks.Nodup ∧ ∀ k, k ∈ ks ↔ k ∈ inkM ns (fs.take i))
    (fun H2 e2 => ⟨ns, none, none, rfl, e1.trans e2, e2 _ _ hd1, asc_nodup hasc, fun k => Iff.rfl⟩) (fun i σ' H' _ ⟨_, _, _, _, e, _⟩ => SqT.of (e _ _ hp2)) (fun i x σ' H' hx hP => ?_) fun σ' H' hP => ?_
  · obtain ⟨ks, c3, c4, rfl, e2, hd2, hnd, hmem⟩ := hP
    obtain ⟨c, hc, rfl⟩ : ∃ c, fs[i]? = some c ∧ x = V.int c := by
      rw [List.getElem?_map] at hx
      cases h : fs[i]? with
      | none => rw [h] at hx; cases hx
      | some c => rw [h] at hx; exact ⟨c, rfl, (Option.some.inj hx).symm⟩
    have hsub : ∀ k, (k ∈ ks ∨ ∃ p ∈ ks, k = c - p) ↔ k ∈ inkM ns (fs.take (i + 1)) := fun k => by
      rw [inkM_take_succ hc, mem_step]
      constructor
      · rintro (h | ⟨p, hp, rfl⟩)
        · exact .inl ((hmem k).mp h)
        · exact .inr ⟨p, (hmem p).mp hp, rfl⟩
      · rintro (h | ⟨p, hp, rfl⟩)
        · exact .inl ((hmem k).mpr h)
        · exact .inr ⟨p, (hmem p).mpr hp, rfl⟩
    refine ⟨.ref d, rfl, d, tk ks, rfl, hd2, fun l hl => ⟨l, rfl, ⟨_, SqL.of upd_same⟩, ?_⟩⟩
    rw [tk_vals]
    have hld : d ≠ l := ne_of_none hd2 hl
    refine for_list (K := K) (xs := ks.map V.int) (fun j σ' H'' => ∃ ks' c4, σ' = [some x1, some (.ref p2), some (.ref d), some (.int c), c4] ∧ Ex H H'' ∧ H'' d = some (.dK (tk ks')) ∧ H'' l = some (.lst (ks.map V.int)) ∧ ks'.Nodup ∧ ∀ k, k ∈ ks' ↔ (k ∈ ks ∨ ∃ p ∈ ks.take j, k = c - p))
      ⟨ks, c4, rfl, e2.trans (Ex.new hl), by rw [upd_ne hld]; exact hd2, upd_same, hnd, fun k => by simp⟩ (fun j σ' H'' _ ⟨_, _, _, _, _, e, _⟩ => SqL.of e) (fun j x σ' H'' hx hP => ?_) (fun σ' H'' hP => ?_)
    · obtain ⟨ks', c4', rfl, e5, hd5, hl5, hnd5, hmem5⟩ := hP
      obtain ⟨p, hpj, rfl⟩ : ∃ p, ks[j]? = some p ∧ x = V.int p := by
        rw [List.getElem?_map] at hx
        cases h : ks[j]? with
        | none => rw [h] at hx; cases hx
        | some c => rw [h] at hx; exact ⟨c, rfl, (Option.some.inj hx).symm⟩
      have hks' : ks'.length < 64 := by
        refine Nat.lt_of_le_of_lt (nodup_len hnd5 (asc_inkM (fs := fs) hasc) fun k hk => ?_) h64
        refine inkM_take_sub ns fs (i + 1) k ((hsub k).mp ?_)
        rcases (hmem5 k).mp hk with h | ⟨p, hp, rfl⟩
        · exact .inl h
        · exact .inr ⟨p, List.mem_of_mem_take hp, rfl⟩
      refine ⟨.ref d, rfl, .int c, rfl, .int p, rfl, c, p, rfl, rfl, d, _, rfl, DPut.k (k := Sum.inl (c - p)) hd5 (sz_lt (by unfold tk; rw [List.length_map]; omega)), ?_⟩
      rw [putK_tk]
      refine ⟨_, some (.int p), rfl, Ex.mut e5 nd, upd_same, by rw [upd_ne (Ne.symm hld)]; exact hl5, ?_, fun k => ?_⟩
      · split
        · exact hnd5
        · rename_i hni
          refine List.nodup_append.mpr ⟨hnd5, by simp, fun x hx y hy => ?_⟩
          have : y = c - p := by simpa using hy
          subst this
          exact fun e => hni (by rw [← e]; exact hx)
      · have htake : ks.take (j + 1) = ks.take j ++ [p] := by rw [List.take_succ, hpj]; rfl
        rw [htake]
        have key : k ∈ (if c - p ∈ ks' then ks' else ks' ++ [c - p]) ↔ k ∈ ks' ∨ k = c - p := by
          split
          · rename_i hin
            exact ⟨.inl, fun h => h.elim id fun e => by rw [e]; exact hin⟩
          · simp
        rw [key, hmem5 k]
        constructor
        · rintro ((h | ⟨p', hp', rfl⟩) | rfl)
          · exact .inl h
          · exact .inr ⟨p', List.mem_append_left _ hp', rfl⟩
          · exact .inr ⟨p, List.mem_append_right _ (List.mem_singleton.mpr rfl), rfl⟩
        · rintro (h | ⟨p', hp', rfl⟩)
          · exact .inl (.inl h)
          · rcases List.mem_append.mp hp' with h | h
            · exact .inl (.inr ⟨p', h, rfl⟩)
            · rw [List.mem_singleton.mp h]
              exact .inr rfl
    · obtain ⟨ks', c4', rfl, e5, hd5, hl5, hnd5, hmem5⟩ := hP
      refine ⟨ks', some (.int c), c4', rfl, e5, hd5, hnd5, fun k => ?_⟩
      rw [hmem5 k, List.length_map, List.take_length, hsub k]
  · obtain ⟨ks, c3, c4, rfl, e2, hd2, hnd, hmem⟩ := hP
    rw [List.length_map, List.take_length] at hmem
    have hks : ks.length < 64 := Nat.lt_of_le_of_lt (nodup_len hnd (asc_inkM (fs := fs) hasc) fun k hk => (hmem k).mp hk) h64
    have e5 : sd ks = inkM ns fs := asc_ext (asc_sd ks) (asc_inkM hasc) fun k => by rw [mem_sd, hmem k]
    have z := es_sdi (K := K) (i := 2) (σ := [some x1, some (.ref p2), some (.ref d), c3, c4]) rfl hd2 hnd hks
    rw [e5] at z
    exact ss_ret (es_cb (es_cons z es_nil) rcs_tupL) fun v H3 e3 i5 => q v H3 (e2.trans e3) i5
end
end K46

/-! K14: _law_greatest, _law_fewest. -/
namespace K46
open PySem PySem.Spec PyProof.Rows L2 Evl
theorem atI_0 {ns : List Int} (h : ns ≠ []) : atI (shs ns) 0 = some (shI (ns.head h)) := by
  cases ns with
  | nil => exact absurd rfl h
  | cons n r => exact shs_atI (ns := n :: r) (i := 0) (by simp)
theorem atI_last {ns : List Int} (h : ns ≠ []) : atI (shs ns) (-1) = some (shI (ns.getLast h)) := by
  have hl : 0 < ns.length := List.length_pos_iff.mpr h
  unfold atI
  have e : ixN (shs ns).length (-1) = some (ns.length - 1) := by
    rw [shs_len]
    unfold ixN
    rw [if_neg (by decide), if_pos (by omega)]
    congr 1
    omega
  rw [e]
  show (shs ns)[ns.length - 1]? = _
  unfold shs
  rw [List.getElem?_map, List.getElem?_eq_getElem (by omega), List.getLast_eq_getElem]
  rfl
/-- filtered, then mapped -/
theorem givS_fm (ns : List Int) (f : Int → Bool) (F : Int → Sh) : givS (shs ns).length (fun i => f (ns.getD i 0)) (fun i => F (ns.getD i 0)) = (ns.filter f).map F := by
  have e : ∀ l : List Nat, (l.filter (fun i => f (ns.getD i 0))).map (fun i => F (ns.getD i 0)) = ((l.map fun i => ns.getD i 0).filter f).map F := by
    intro l
    induction l with
    | nil => rfl
    | cons i l ih =>
      rw [List.map_cons, List.filter_cons, List.filter_cons]
      split
      · rw [List.map_cons, List.map_cons, ih]
      · exact ih
  unfold givS
  rw [e, shs_len]
  congr 2
  apply List.ext_getElem
  · simp
  · intro i h1 h2
    rw [List.getElem_map, List.getElem_range, List.getD_eq_getElem?_getD, List.getElem?_eq_getElem h2]
    rfl
theorem rangeI_succ (lo : Int) (n : Nat) : rangeI lo (n + 1) = rangeI lo n ++ [lo + (n : Int)] := by
  unfold rangeI
  rw [List.range_succ, List.map_append]
  rfl
theorem lawG_le {lot fs : List Int} {lo : Int} {n : Nat} (h : Asc lot) : (lawG lot fs lo n).length ≤ lot.length :=
  asc_len (asc_filter _ (asc_rangeI lo n)) h fun k hk => (lawOk_iff.mp (List.mem_filter.mp hk).2) k (re_self fs k)
theorem lawG_succ {lot fs : List Int} {lo : Int} {n : Nat} : lawG lot fs lo (n + 1) = lawG lot fs lo n ++ (if lawOk lot fs (lo + n) = true then [lo + (n : Int)] else []) := by
  unfold lawG
  rw [rangeI_succ, List.filter_append, List.filter_cons]
  split <;> rfl
theorem beq_nil (l : List Int) : decide (l = []) = l.isEmpty := by cases l <;> simp
theorem q_forRS {σ : L2.St} {H : Hp} {ta : TA} {tu tz : TS} {D : Ends} {j : Nat} {lo hi : Int} (h : EvAS ta σ H [shI lo, shI hi]) (hb : -10000000 ≤ lo ∧ lo ≤ 10000000 ∧ -10000000 ≤ hi ∧ hi ≤ 10000000) (Pv : Nat → L2.St → Hp → Prop) (h0 : ∀ H1, Ex H H1 → Pv 0 σ H1)
    (hs : ∀ (i : Nat) σ' H', i < (hi - lo).toNat → Pv i σ' H' → tu { D with nx := Pv (i + 1), ct := Pv (i + 1), bk := tz D } (σ'.set j (some (.int (lo + (i : Int))))) H') (hd : ∀ σ' H', Pv (hi - lo).toNat σ' H' → tz D σ' H') : tSeq (tFor (iRng2 ta) (gName j) tu) tz D σ H :=
  h H (Ex.refl _) _ fun vs H2 e2 ir => by
    obtain ⟨y1, r1, rfl, j1, j2⟩ := isA_cons.mp ir
    obtain ⟨y2, r2, rfl, j3, j4⟩ := isA_cons.mp j2
    exact ⟨lo, hi, by rw [isA_nil.mp j4, is_v.mp j1, is_v.mp j3], by omega, for_range Pv (h0 H2 e2) hs hd⟩
section
variable {P : Program} {w : World} {K : PySem.W.Frag} {mg : Str → Option Value} {base : Heap} {a : Ad}
theorem GoodIn.lInk {ns fs : List Int} (g : GoodIn ns fs) (p : Int) : fLInk [tI [p], tI fs] (tI (inkM [p] fs)) := ⟨[p], fs, rfl, rfl, by simp [Asc], g.one p⟩
abbrev nLGreat : List Str := ["_law_lot_here", "_law_folds_here", "_law_found", "_law_places", "_law_place", "_law_there"]
theorem scLGreat : FnScope nLGreat ["_law_lot_here", "_law_folds_here"] (defScope sLGreat) := ⟨rfl, rfl, rfl, by decide +kernel, rfl, by decide +kernel, by decide +kernel⟩
def ifTest : List Stmt → Option Expr
  | [_, .For _ _ [.If c _ _ _] _ _, _] => some c
  | _ => none
theorem ok_lGreat (T : Txt K mg a) : FnOk P w K mg base CX0 2 a.lGreat.a a.lGreat.fd ["_law_lot_here", "_law_folds_here"] (spP fGreat) := by
  have GK := ok_lInk (P := P) (w := w) (base := base) T
  refine T.lGreat.fn.ok scLGreat (spP_len fun ss s ⟨_, _, e, _⟩ => by rw [e]; rfl) (fun cdv A outer s H vs Q E hr h => ?_)
  obtain ⟨ss, s', ⟨ns, fs, rfl, rfl, g⟩, hi', q⟩ := h
  obtain ⟨x1, r, rfl, i1, i2⟩ := isA_cons.mp hi'
  obtain ⟨x2, r2, rfl, i3, i4⟩ := isA_cons.mp i2
  rw [isA_nil.mp i4]
  refine ⟨_, pss_cons (ps_par (i := 2) (j := 3) rfl scLGreat.nd rfl rfl (by decide) rfl rfl (pa_cons (pe_tup pa_nil) (pa_cons (pe_ifExp (pt_cmpR (op_neD hr.units) (pv 0) (pe_tup pa_nil) (nomark _)) (pv 0) (pe_tup (pa_cons pe_int pa_nil))) pa_nil)) rfl)
    (pss_cons (ps_for PassesOwn.never rfl (pi_range2 (by rfl) T.bRange (pa_cons (pe_op op_sub (pe_ix ix_tup (pv 3) pe_int (by intro _ _; rfl)) pe_int) (pa_cons (pe_op op_add (pe_ix ix_tup (pv 3) (pe_un un_neg pe_int) (by intro _ _; rfl)) pe_int) pa_nil))) (pg_name (i := 4) scLGreat.nd rfl (.inl rfl))
      (pss_one (ps_if (pt_cmpR (op_eqD hr.units)
        (pe_lc (own := [("_law_there", 5)]) (g := gName 5) (tt := tTest (tOp (rIn K true) (tVar 5) (tVar 0))) rfl scLGreat.nd (pi_tup (by exact pe_call GK hr (by rfl) T.lInk.mg T.lInk.fn.kp T.lInk.bd .nil pass0 (pa_cons (pe_tup (pa_cons (pv 4) pa_nil)) (pa_cons (pv 1) pa_nil))))
          (blkOk_by (N := nLGreat) (sc := defScope sLGreat) (by decide +kernel)) (fun _ _ _ _ _ => pg_name (i := 5) scLGreat.nd rfl (.inl rfl)) (fun _ _ _ _ _ => pts_one (pt_cmpR op_notIn_seq (pv 5) (pv 0) rfl)) (fun _ _ _ _ _ => pv 5))
        (pe_lst pa_nil) (nomark _))
        (pss_one (ps_set (i := 2) scLGreat.nd rfl (.inl rfl) (pe_op op_catA (pv 2) (pe_tup (pa_cons (pv 4) pa_nil))))) pss_nil)))
    (pss_one (ps_ret (pv 2)))), ?_⟩
  have hplaces : EvS (tIf (tTest (tOp (rNeD K) (tVar 0) (tTup tNil))) (tVar 0) (tTup (tCons (tC (.int 0)) tNil))) [some x1, some x2, none, none, none, none] H (tI (if ns = [] then [0] else ns)) := by
    refine es_if (et_T (es_op (es_var rfl i1) (es_tup (ss := shs []) es_nil (by decide)) (rs_neT ns []))) (fun z => ?_) (fun z => ?_)
    · have hne : ns ≠ [] := by simpa using z
      rw [if_neg hne]
      exact es_var rfl i1
    · have hne : ns = [] := by simpa using z
      rw [if_pos hne]
      exact es_tup (ss := shs [0]) (es_cons es_c es_nil) (by decide)
  refine qs_par (s1 := tI []) (es_cons (es_tup (ss := shs []) es_nil (by decide)) (es_cons hplaces es_nil)) fun v2 v3 H1 e1 iv2 iv3 => ?_
  have hpl : ∃ lo hi : Int, EvAS (tCons (tOp (rI0 fun i j => .int (i - j)) (tOp (rIxT K) (tVar 3) (tC (.int 0))) (tC (.int 1))) (tCons (tOp (rI0 fun i j => .int (i + j)) (tOp (rIxT K) (tVar 3) (tUn (rU fun i => .int (-i)) (tC (.int 1)))) (tC (.int 2))) tNil)) [some x1, some x2, some v2, some v3, none, none] H1 [shI lo, shI hi] ∧ lo ≤ hi ∧ -100001 ≤ lo ∧ hi ≤ 100002 ∧ ∀ k ∈ ns, lo ≤ k ∧ k < hi := by
    have h3 : EvS (tVar 3) [some x1, some x2, some v2, some v3, none, none] H1 (tI (if ns = [] then [0] else ns)) := es_var rfl iv3
    by_cases hn : ns = []
    · rw [if_pos hn] at h3
      refine ⟨0 - 1, 0 + 2, es_cons (es_op (s1 := shI 0) (s2 := shI 1) (es_op h3 (es_c (v := .int 0)) (rs_ixT (atI_0 (ns := [0]) (by decide)))) es_c rs_I0) (es_cons (es_op (s1 := shI 0) (s2 := shI 2) (es_op h3 (es_un (s1 := shI 1) (s3 := shI (-1)) es_c rus_neg) (rs_ixT (atI_last (ns := [0]) (by decide)))) es_c rs_I0) es_nil), by omega, by omega, by omega, fun k hk => by rw [hn] at hk; cases hk⟩
    · rw [if_neg hn] at h3
      have f1 := g.far _ (List.head_mem hn)
      have f2 := g.far _ (List.getLast_mem hn)
      have hb := asc_ends g.asc (List.head?_eq_head hn) (List.getLast?_eq_getLast hn)
      have hle := (hb _ (List.head_mem hn)).2
      refine ⟨ns.head hn - 1, ns.getLast hn + 2, es_cons (es_op (s1 := shI (ns.head hn)) (s2 := shI 1) (es_op h3 (es_c (v := .int 0)) (rs_ixT (atI_0 hn))) es_c rs_I0) (es_cons (es_op (s1 := shI (ns.getLast hn)) (s2 := shI 2) (es_op h3 (es_un (s1 := shI 1) (s3 := shI (-1)) es_c rus_neg) (rs_ixT (atI_last hn))) es_c rs_I0) es_nil), by omega, by omega, by omega, fun k hk => by have := hb k hk; omega⟩
  obtain ⟨lo, hi, hra, hlh, hlo, hhi, hin⟩ := hpl
  have hG : lawG ns fs lo (hi - lo).toNat = gM ns fs := lawG_eq g.asc fun k hk => by have := hin k hk; omega
  refine q_forRS hra (by omega) (fun i σ' H' => ∃ vf c4, σ' = [some x1, some x2, some vf, some v3, c4, none] ∧ Ex H H' ∧ Is (tI (lawG ns fs lo i)) vf H') (fun H2 e2 => ⟨v2, none, rfl, e1.trans e2, iv2.mono e2⟩) (fun i σ' H' hi2 hP => ?_) (fun σ' H' hP => ?_)
  · obtain ⟨vf, c4, rfl, e3, ivf⟩ := hP
    generalize hp : lo + (i : Int) = p
    have hink : EvS (tCall (spP fLInk) [] E0 (tCons (tTup (tCons (tVar 4) tNil)) (tCons (tVar 1) tNil))) [some x1, some x2, some vf, some v3, some (.int p), none] H' (tI (inkM [p] fs)) :=
      es_call (es_cons (es_tup (ss := [shI p]) (es_cons (es_var rfl (is_v.mpr rfl)) es_nil) (by show 1 ≤ 100000; decide)) (es_cons (es_var rfl (i3.mono e3)) es_nil)) (sps_P (g.lInk p))
    have hlc := es_lcT (K := K) (t := tTest (tOp (rIn K true) (tVar 5) (tVar 0))) (te := tVar 5) (σ := [some x1, some x2, some vf, some v3, some (.int p), none]) (H := H') (j := 5) (vs := [5]) (fun i => !decide ((inkM [p] fs).getD i 0 ∈ ns)) (fun i => shI ((inkM [p] fs).getD i 0)) (fun _ => rfl) hink (by rw [shs_len]; have := g.one p; omega) (fun x => rfl)
      (fun i s x H2 hi e hs => by
        rw [(shs_get hi).1] at hs
        exact et_T (es_op (es_var rfl hs) (es_var rfl (i1.mono (e3.trans e))) rs_notIn))
      (fun i s x H2 hi e hs _ => by
        rw [(shs_get hi).1] at hs
        exact es_var rfl hs)
    rw [givS_filter (inkM [p] fs) (fun k => !decide (k ∈ ns))] at hlc
    have htest := et_T (es_op hlc (es_lst (ss := shs []) es_nil (by decide)) (rs_eqL (K := K) _ []))
    rw [beq_nil] at htest
    refine s_when htest (fun z H4 e4 => ?_) (fun z H4 e4 => ?_)
    · have hz : (lawG ns fs lo i).length < 64 := Nat.lt_of_le_of_lt (lawG_le g.asc) g.len
      refine ss_asg (es_op (es_var (i := 2) (s := tI (lawG ns fs lo i)) rfl (ivf.mono e4)) (es_tup (ss := [shI p]) (es_cons (es_var (i := 4) rfl (is_v.mpr rfl)) es_nil) (by show 1 ≤ 100000; decide)) (rs_catA (by rw [shs_len]; show _ + 1 ≤ _; omega))) fun v5 H5 e5 iv5 => ?_
      refine ⟨v5, some (.int p), rfl, (e3.trans e4).trans e5, ?_⟩
      have hok : lawOk ns fs (lo + i) = true := by rw [hp]; exact z
      rw [lawG_succ, if_pos hok, hp]
      unfold tI shs
      rw [List.map_append]
      exact iv5
    · refine ⟨vf, some (.int p), rfl, e3.trans e4, ?_⟩
      have hok : ¬ lawOk ns fs (lo + i) = true := by
        rw [hp]
        show ¬ (((inkM [p] fs).filter fun k => !decide (k ∈ ns)).isEmpty) = true
        rw [z]
        decide
      rw [lawG_succ, if_neg hok, List.append_nil]
      exact ivf.mono e4
  · obtain ⟨vf, c4, rfl, e3, ivf⟩ := hP
    rw [hG] at ivf
    exact ss_ret (es_var rfl ivf) fun v H3 e4 i5 => q v H3 (e3.trans e4) i5
/-! ### _law_fewest -/
abbrev nLFew : List Str := ["_law_lot_here", "_law_folds_here", "_law_places", "_law_line", "_law_many", "_law_some_here", "_law_later", "_law_place"]
theorem scLFew : FnScope nLFew ["_law_lot_here", "_law_folds_here", "_law_places"] (defScope sLFew) := ⟨rfl, rfl, rfl, by decide +kernel, rfl, by decide +kernel, by decide +kernel⟩
def fLFew (ss : List Sh) (s : Sh) : Prop := ∃ ns fs, ss = [tI ns, tI fs, tI (gM ns fs)] ∧ s = oI (lawFew ns fs (gM ns fs)) ∧ GoodIn ns fs ∧ (gM ns fs).length ≤ 8
theorem ok_lFew (T : Txt K mg a) : FnOk P w K mg base CX0 2 a.lFew.a a.lFew.fd ["_law_lot_here", "_law_folds_here", "_law_places"] (spP fLFew) := by
  have GK := ok_lInk (P := P) (w := w) (base := base) T
  refine T.lFew.fn.ok scLFew (spP_len fun ss s ⟨_, _, e, _⟩ => by rw [e]; rfl) (fun cdv A outer s H vs Q E hr h => ?_)
  obtain ⟨ss, s', ⟨ns, fs, rfl, rfl, g, h8⟩, hi', q⟩ := h
  obtain ⟨x1, r, rfl, i1, i2⟩ := isA_cons.mp hi'
  obtain ⟨x2, r2, rfl, i3, i4⟩ := isA_cons.mp i2
  obtain ⟨x3, r3, rfl, i5, i6⟩ := isA_cons.mp i4
  rw [isA_nil.mp i6]
  refine ⟨_, pss_cons (ps_set (i := 3) scLFew.nd rfl (.inl rfl) (pe_lst (pa_cons (pe_tup pa_nil) pa_nil)))
    (pss_cons (ps_for PassesOwn.never rfl (pi_range1 (by rfl) T.bRange (pa_cons (pe_op op_add (pe_callB call_len_seq (by rfl) T.bLen boot_len (pa_cons (pv 2) pa_nil)) pe_int) pa_nil)) (pg_name (i := 4) scLFew.nd rfl (.inl rfl))
      (pss_cons (ps_for PassesOwn.never rfl (pi_list (pv 3)) (pg_name (i := 5) scLFew.nd rfl (.inr rfl))
        (pss_one (ps_if (pt_cmpR (op_eqD hr.units) (pe_call GK hr (by rfl) T.lInk.mg T.lInk.fn.kp T.lInk.bd .nil pass0 (pa_cons (pv 5) (pa_cons (pv 1) pa_nil))) (pv 0) (nomark _)) (pss_one (ps_ret (pv 5))) pss_nil)))
      (pss_cons (ps_set (i := 6) scLFew.nd rfl (.inl rfl) (pe_lst pa_nil))
      (pss_cons (ps_for PassesOwn.never rfl (pi_list (pv 3)) (pg_name (i := 5) scLFew.nd rfl (.inr rfl))
        (pss_one (ps_set (i := 6) scLFew.nd rfl (.inl rfl) (pe_op op_cat (pv 6)
          (pe_lc (own := [("_law_place", 7)]) (g := gName 7) (tt := tOr (tTest (tOp (rEqD K) (tVar 5) (tTup tNil))) (tTest (tOp (rI0 fun i j => .bl (decide (j < i))) (tVar 7) (tOp (rIxT K) (tVar 5) (tUn (rU fun i => .int (-i)) (tC (.int 1))))))) (te := tOp (rCatA K) (tVar 5) (tTup (tCons (tVar 7) tNil))) rfl scLFew.nd (pi_tup (pv 2)) (blkOk_by (N := nLFew) (sc := defScope sLFew) (by decide +kernel))
            (fun _ _ _ _ _ => pg_name (i := 7) scLFew.nd rfl (.inl rfl))
            (fun _ _ _ _ _ => pts_one (PW.pt (pw_or (pt_cmpR (op_eqD hr.units) (pv 5) (pe_tup pa_nil) (nomark _)) (pw_or1 (pt_cmpR op_gt (pv 7) (pe_ix ix_tup (pv 5) (pe_un un_neg pe_int) (by intro _ _; rfl)) (nomark _))))))
            (fun _ _ _ _ _ => pe_op op_catA (pv 5) (pe_tup (pa_cons (pv 7) pa_nil))))))))
      (pss_one (ps_set (i := 3) scLFew.nd rfl (.inl rfl) (pv 6)))))))
    (pss_one (ps_ret pe_non))), ?_⟩
  have hgl := gM_len ns fs
  have hgn := g.len
  have ag : Asc (gM ns fs) := asc_gM g.asc
  generalize hgs : gM ns fs = gs at i5 h8 hgl ag
  have hlen : ∀ m, (lawLine gs m).length ≤ 256 := fun m => by
    rw [← line_eq ag m, List.length_map]
    have h1 := len_line ag m
    have h2 : 2 ^ gs.length ≤ 2 ^ 8 := Nat.pow_le_pow_right (by decide) h8
    omega
  have hone : ∀ m t, t ∈ lawLine gs m → Asc t ∧ (∀ k ∈ t, k ∈ gs) ∧ t.length = m := fun m t ht => lots_sub ag (by
    unfold lotsM
    rw [line_eq ag m]
    exact ht)
  refine qs_asg (s := .l ((lawLine gs 0).map tI)) (es_lst (ss := [tI []]) (es_cons (es_tup (ss := shs []) es_nil (by decide)) es_nil) (by show 1 ≤ 100000; decide)) fun v3 H1 e1 iv3 => ?_
  refine q_forR1 (n := gs.length + 1) (ea_1 (es_cons (es_op (es_is (es_cb (es_cons (es_var (i := 2) rfl (i5.mono e1)) es_nil) (rcs_lenT (K := K))) (by rw [shs_len])) (es_c (v := .int 1)) (rs_I0 (i := (gs.length : Int)) (j := 1))) es_nil)) (by omega)
    (fun i σ' H' => ∃ vl c4 c5 c6, σ' = [some x1, some x2, some x3, some vl, c4, c5, c6, none] ∧ Ex H H' ∧ Is (.l ((lawLine gs i).map tI)) vl H' ∧ ∀ m' < i, ∀ t ∈ lawLine gs m', hitM ns fs t = false)
    (fun H4 e4 => ⟨v3, none, none, none, rfl, e1.trans e4, iv3.mono e4, fun m' hm => absurd hm (Nat.not_lt_zero _)⟩) (fun i σ' H' hi hP => ?_) fun σ' H' hP => ?_
  · obtain ⟨vl, c4, c5, c6, rfl, e4, ivl, hno⟩ := hP
    have hget : ∀ {k : Nat} {s : Sh}, ((lawLine gs i).map tI)[k]? = some s → ∃ t, (lawLine gs i)[k]? = some t ∧ s = tI t := by
      intro k s hk
      rw [List.getElem?_map] at hk
      cases e : (lawLine gs i)[k]? with
      | none => rw [e] at hk; cases hk
      | some t => rw [e] at hk; exact ⟨t, rfl, (Option.some.inj hk).symm⟩
    refine s_forS (ss := (lawLine gs i).map tI) (es_var rfl ivl) fun al xs H5 e5 hal hxs => ?_
    refine ⟨fun k σ' H' => ∃ c5, σ' = [some x1, some x2, some x3, some vl, some (.int i), c5, c6, none] ∧ Ex H5 H' ∧ ∀ t ∈ (lawLine gs i).take k, hitM ns fs t = false, ⟨c5, rfl, Ex.refl _, fun t ht => by rw [List.take_zero] at ht; cases ht⟩, fun k σ' H' ⟨_, _, e, _⟩ => e, fun k x s σ' H'' hk hs hP => ?_, fun σ' H'' hP => ?_⟩
    · obtain ⟨c5', rfl, e6, hno2⟩ := hP
      obtain ⟨t, ht, rfl⟩ := hget hk
      obtain ⟨at1, at2, at3⟩ := hone i t (List.mem_of_getElem? ht)
      have e0 : Ex H H'' := (e4.trans e5).trans e6
      have hlen : (inkM t fs).length < 64 := by
        rw [← hgs] at at2
        exact Nat.lt_of_le_of_lt (ink_some_len g.asc at1 at2) g.len
      have htest := et_T (es_op (es_call (es_cons (es_var (i := 5) (σ := [some x1, some x2, some x3, some vl, some (.int i), some x, c6, none]) rfl hs) (es_cons (es_var (i := 1) rfl (i3.mono e0)) es_nil)) (sps_P ⟨t, fs, rfl, rfl, at1, hlen⟩) : EvS (tCall (spP fLInk) [] E0 _) _ _ _)
        (es_var (i := 0) rfl (i1.mono e0)) (rs_eqT (K := K) (inkM t fs) ns))
      refine s_when htest (fun z H7 e7 => ?_) fun z H7 e7 => ?_
      · refine ss_ret (es_var (i := 5) rfl (hs.mono e7)) fun v8 H8 e8 i8 => q v8 H8 ((e0.trans e7).trans e8) ?_
        have hf : lawFew ns fs gs = some t := few_hit (m := i) (i := k) (by omega) ht hno hno2 (by
          unfold hitM
          exact z)
        rw [hgs, hf]
        exact i8
      · refine ⟨some x, rfl, e6.trans e7, fun t' ht' => ?_⟩
        rw [List.take_succ, ht] at ht'
        rcases List.mem_append.mp ht' with h | h
        · exact hno2 t' h
        · have : t' = t := by simpa using h
          subst this
          unfold hitM
          exact z
    · obtain ⟨c5', rfl, e6, hno2⟩ := hP
      rw [List.length_map, List.take_length] at hno2
      have e0 : Ex H H'' := (e4.trans e5).trans e6
      refine qs_asg (s := .l []) (es_lst es_nil (by decide)) fun v6 H7 e7 iv6 => ?_
      have hstep : ∀ t ∈ lawLine gs i, ∀ {c4 c6 : Option V} {x : V} {H3 : Hp}, Is (tI t) x H3 → Is (tI gs) x3 H3 → EvS (tLc (iTup K (tVar 2)) (gName 7) (tOr (tTest (tOp (rEqD K) (tVar 5) (tTup tNil))) (tTest (tOp (rI0 fun i j => .bl (decide (j < i))) (tVar 7) (tOp (rIxT K) (tVar 5) (tUn (rU fun i => .int (-i)) (tC (.int 1)))))))
          (tOp (rCatA K) (tVar 5) (tTup (tCons (tVar 7) tNil))) [7]) [some x1, some x2, some x3, some vl, c4, some x, c6, none] H3 (.l ((lstep gs t).map tI)) := by
        intro t ht c4 c6 x H3 hx hg3
        have z := es_lcT (K := K) (t := tOr (tTest (tOp (rEqD K) (tVar 5) (tTup tNil))) (tTest (tOp (rI0 fun i j => .bl (decide (j < i))) (tVar 7) (tOp (rIxT K) (tVar 5) (tUn (rU fun i => .int (-i)) (tC (.int 1))))))) (te := tOp (rCatA K) (tVar 5) (tTup (tCons (tVar 7) tNil))) (tl := tVar 2) (σ := [some x1, some x2, some x3, some vl, c4, some x, c6, none]) (H := H3) (ss := shs gs) (j := 7) (vs := [7])
          (fun i => lkeep t (gs.getD i 0)) (fun i => tI (t ++ [gs.getD i 0])) (fun _ => tupS_tI _) (es_var rfl hg3) (by rw [shs_len]; omega) (fun x => rfl)
          (fun i s y H4 hi e hs => by
            rw [(shs_get hi).1] at hs
            have h1 := et_T (es_op (es_var (i := 5) (σ := [some x1, some x2, some x3, some vl, c4, some x, c6, some y]) rfl (hx.mono e)) (es_tup (ss := shs []) es_nil (by decide)) (rs_eqT (K := K) t []))
            rw [beq_nil] at h1
            unfold lkeep
            refine et_or h1 fun hne => ?_
            have hne2 : t ≠ [] := fun e => by rw [e] at hne; cases hne
            refine et_T (es_op (s1 := shI (gs.getD i 0)) (s2 := shI (t.getLastD 0)) (es_var rfl hs) (es_is (es_op (es_var (i := 5) (s := tI t) rfl (hx.mono e)) (es_un (s1 := shI 1) (s3 := shI (-1)) es_c rus_neg) (rs_ixT (atI_last hne2))) ?_) rs_I0)
            rw [List.getLastD_eq_getLast?, List.getLast?_eq_getLast hne2]
            rfl)
          (fun i s y H4 hi e hs _ => by
            rw [(shs_get hi).1] at hs
            have hlt := (hone _ t ht).2.2
            refine es_is (es_op (es_var (i := 5) (s := tI t) rfl (hx.mono e)) (es_tup (ss := [shI (gs.getD i 0)]) (es_cons (es_var rfl hs) es_nil) (by show 1 ≤ 100000; decide)) (rs_catA (by rw [shs_len, hlt]; show _ + 1 ≤ _; omega))) ?_
            unfold tI shs
            rw [List.map_append]
            rfl)
        rw [givS_fm gs (lkeep t) (fun p => tI (t ++ [p]))] at z
        unfold lstep
        rw [List.map_map]
        exact z
      have e07 := e0.trans e7
      refine (show tSeq _ _ _ _ _ from ?_)
      refine s_forS (D := { nx := _, rt := _, ct := _, bk := _ }) (ss := (lawLine gs i).map tI) (es_var rfl ((((ivl.mono e5).mono e6).mono e7))) fun al2 xs2 H8 e8 hal2 hxs2 => ?_
      have hfl : ∀ k, (((lawLine gs i).take k).flatMap (lstep gs)).length ≤ 256 := fun k => by
        have hk : ((lawLine gs i).take k).flatMap (lstep gs) ++ ((lawLine gs i).drop k).flatMap (lstep gs) = lawLine gs (i + 1) := by
          rw [← List.flatMap_append, List.take_append_drop]
          rfl
        have h1 := hlen (i + 1)
        rw [← hk, List.length_append] at h1
        omega
      refine ⟨fun k σ' H' => ∃ c5 vla, σ' = [some x1, some x2, some x3, some vl, some (.int i), c5, some vla, none] ∧ Ex H8 H' ∧ Is (.l ((((lawLine gs i).take k).flatMap (lstep gs)).map tI)) vla H', ⟨c5', v6, rfl, Ex.refl _, iv6.mono e8⟩, fun k σ' H' ⟨_, _, _, e, _⟩ => e, fun k x s σ' H9 hk hs hP => ?_, fun σ' H9 hP => ?_⟩
      · obtain ⟨c5'', vla, rfl, e9, ivla⟩ := hP
        obtain ⟨t, ht, rfl⟩ := hget hk
        have hcat := es_op (es_var (i := 6) (σ := [some x1, some x2, some x3, some vl, some (.int i), some x, some vla, none]) rfl ivla) (hstep t (List.mem_of_getElem? ht) hs (i5.mono ((e07.trans e8).trans e9))) (rs_cat (by
          have h1 := hfl (k + 1)
          rw [List.take_succ, ht, Option.toList_some, List.flatMap_append, List.length_append] at h1
          rw [List.length_map, List.length_map]
          have h2 : [t].flatMap (lstep gs) = lstep gs t := by simp
          rw [h2] at h1
          omega))
        refine ss_asg hcat fun v10 H10 e10 i10 => ⟨some x, v10, rfl, e9.trans e10, ?_⟩
        rw [List.take_succ, ht, Option.toList_some, List.flatMap_append, List.map_append]
        have h2 : [t].flatMap (lstep gs) = lstep gs t := by simp
        rw [h2]
        exact i10
      · obtain ⟨c5'', vla, rfl, e9, ivla⟩ := hP
        rw [List.length_map, List.take_length] at ivla
        refine ss_asg (es_var (i := 6) (s := .l ((lawLine gs (i + 1)).map tI)) rfl ivla) fun v10 H10 e10 i10 => ?_
        refine ⟨v10, some (.int i), c5'', some vla, rfl, ((e07.trans e8).trans e9).trans e10, i10, fun m' hm t ht => ?_⟩
        by_cases hmi : m' < i
        · exact hno m' hmi t ht
        · have : m' = i := by omega
          subst this
          exact hno2 t ht
  · obtain ⟨vl, c4, c5, c6, rfl, e4, ivl, hno⟩ := hP
    have en : ((gs.length : Int) + 1).toNat = gs.length + 1 := by omega
    rw [en] at hno
    refine ss_ret (es_c (v := .non)) fun v8 H8 e8 i8 => q v8 H8 (e4.trans e8) ?_
    have hf : lawFew ns fs gs = none := few_none hno
    rw [hgs, hf]
    exact i8
end
end K46

/-! K15: _law_right, _law_two_right. -/
namespace K46
open PySem PySem.Spec PyProof.Rows L2 Evl
def rIsNn : R2 := fun x y H Q => y = .non ∧ Q (.bl (decide (x = .non))) H
theorem op_isNn {X : Cx} : OpR X (compareOp .Is) rIsNn := op_isN
theorem rs_isO (o : Option (List Int)) : RS rIsNn (oI o) (.v .non) (shB (decide (o = none))) := fun x y H h1 h2 Q q => ⟨is_v.mp h2, q _ H (Ex.refl H) (by
  refine is_v.mpr ?_
  congr 1
  cases o with
  | none =>
    have e : x = .non := is_v.mp h1
    rw [e]
    rfl
  | some ns =>
    obtain ⟨p, e, _⟩ := is_tI.mp (show Is (tI ns) x H from h1)
    rw [e]
    simp)⟩
theorem rs_eqB (a b : Bool) : RS rEq (shB a) (shB b) (shB (decide (a = b))) := fun x y H h1 h2 Q q => rs_eq (x := .bl a) (y := .bl b) rfl x y H h1 h2 Q fun v H2 e i => q v H2 e (by
  have e1 := is_v.mp i
  refine is_v.mpr ?_
  rw [e1]
  congr 1
  cases a <;> cases b <;> rfl)
theorem rs_neB (a b : Bool) : RS rNe (shB a) (shB b) (shB (!decide (a = b))) := fun x y H h1 h2 Q q => rs_ne (x := .bl a) (y := .bl b) rfl x y H h1 h2 Q fun v H2 e i => q v H2 e (by
  have e1 := is_v.mp i
  refine is_v.mpr ?_
  rw [e1]
  congr 1
  cases a <;> cases b <;> rfl)
section
variable {P : Program} {w : World} {K : PySem.W.Frag} {mg : Str → Option Value} {base : Heap} {a : Ad}
/-- a def of the library and what it tells: together -/
structure Lib (P : Program) (w : World) (K : PySem.W.Frag) (mg : Str → Option Value) (base : Heap) (a : Ad) : Prop where
  T : Txt K mg a
  I : InitT P K a.cMany a.init
  bI : Binds K a.init.fd ["self", "limit"] []
abbrev nRight : List Str := ["_law_lot_here", "_law_folds_here", "_law_places", "_law_told", "_law_due", "_law_fewest_here"]
theorem scRight : FnScope nRight ["_law_lot_here", "_law_folds_here"] (defScope sRight) := ⟨rfl, rfl, rfl, by decide +kernel, rfl, by decide +kernel, by decide +kernel⟩
def fRight (ss : List Sh) (s : Sh) : Prop := ∃ ns fs, ss = [tI ns, tI fs] ∧ s = shB true ∧ GoodIn ns fs
theorem ok_right (T : Txt K mg a) (TI : InitT P K a.cMany a.init) (bI : Binds K a.init.fd ["self", "limit"] []) : FnOk P w K mg base CX0 6 a.right.a a.right.fd ["_law_lot_here", "_law_folds_here"] (spP fRight) := by
  have GG := ok_lGreat (P := P) (w := w) (base := base) T
  have GC := ok_comes (P := P) (w := w) (base := base) T
  have GK := ok_lInk (P := P) (w := w) (base := base) T
  have GL := ok_greatL (P := P) (w := w) (base := base) T
  have GF := ok_fewest (P := P) (w := w) (base := base) T TI bI
  have GW := ok_lFew (P := P) (w := w) (base := base) T
  refine T.right.fn.ok scRight (spP_len fun ss s ⟨_, _, e, _⟩ => by rw [e]; rfl) (fun cdv A outer s H vs Q E hr h => ?_)
  obtain ⟨ss, s', ⟨ns, fs, rfl, rfl, g⟩, hi', q⟩ := h
  obtain ⟨x1, r, rfl, i1, i2⟩ := isA_cons.mp hi'
  obtain ⟨x2, r2, rfl, i3, i4⟩ := isA_cons.mp i2
  rw [isA_nil.mp i4]
  refine ⟨_, pss_cons (ps_set (i := 2) scRight.nd rfl (.inl rfl) (pe_call GG (hr.mono (by decide)) (by rfl) T.lGreat.mg T.lGreat.fn.kp T.lGreat.bd .nil pass0 (pa_cons (pv 0) (pa_cons (pv 1) pa_nil))))
    (pss_cons (ps_par (i := 3) (j := 4) rfl scRight.nd rfl rfl (by decide) rfl rfl (pa_cons (pe_call GC hr (by rfl) T.comes.mg T.comes.fn.kp T.comes.bd .nil passL (pa_cons (pv 0) (pa_cons (pv 1) pa_nil)))
        (pa_cons (pe_cmpR (op_eqD hr.units) (pe_call GK (hr.mono (by decide)) (by rfl) T.lInk.mg T.lInk.fn.kp T.lInk.bd .nil pass0 (pa_cons (pv 2) (pa_cons (pv 1) pa_nil))) (pv 0) (nomark _)) pa_nil)) rfl)
    (pss_cons (ps_if (PW.pt (pw_or (pt_cmpR (op_neD hr.units) (pe_call GL hr (by rfl) T.greatL.mg T.greatL.fn.kp T.greatL.bd .nil passL (pa_cons (pv 0) (pa_cons (pv 1) pa_nil))) (pv 2) (nomark _))
        (pw_or (pt_not (pt_val (pe_callB call_isi (by rfl) T.bIsi boot_isinstance (pa_cons (pv 3) (pa_cons (pe_bltn (v := .ty "bool") (by rfl) T.bBool boot_bool rfl) pa_nil)))))
          (pw_or1 (pt_cmpR op_ne (pv 3) (pv 4) (nomark _))))))
        (pss_one (ps_ret pe_bl)) pss_nil)
    (pss_cons (ps_if (pt_cmpR op_gt (pe_callB call_len_seq (by rfl) T.bLen boot_len (pa_cons (pv 2) pa_nil)) pe_int (nomark _)) (pss_one (ps_ret pe_bl)) pss_nil)
    (pss_cons (ps_set (i := 5) scRight.nd rfl (.inl rfl) (pe_call GF hr (by rfl) T.fewest.mg T.fewest.fn.kp T.fewest.bd .nil passL (pa_cons (pv 0) (pa_cons (pv 1) pa_nil))))
    (pss_one (ps_ret (pe_and (pe_cmpR (op_eqD hr.units) (pv 5) (pe_call GW (hr.mono (by decide)) (by rfl) T.lFew.mg T.lFew.fn.kp T.lFew.bd .nil pass0 (pa_cons (pv 0) (pa_cons (pv 1) (pa_cons (pv 2) pa_nil)))) (nomark _))
      (pe_one (pe_cmpR op_ne (pe_cmpR op_isNn (pv 5) pe_non (nomark _)) (pv 4) (nomark _)))))))))), ?_⟩
  have hn := g.len
  refine qs_asg (es_call (es_cons (es_var rfl i1) (es_cons (es_var rfl i3) es_nil)) (sps_P ⟨ns, fs, rfl, rfl, g⟩)) fun v2 H1 e1 iv2 => ?_
  have hink : fLInk [tI (gM ns fs), tI fs] (tI (inkM (gM ns fs) fs)) := ⟨_, _, rfl, rfl, asc_gM g.asc, Nat.lt_of_le_of_lt (ink_gM_len g.asc) g.len⟩
  refine qs_par (s1 := shB (decide (inkM (gM ns fs) fs = ns))) (s2 := shB (decide (inkM (gM ns fs) fs = ns))) (es_cons (es_call (es_cons (es_var rfl (i1.mono e1)) (es_cons (es_var rfl (i3.mono e1)) es_nil)) (sps_F ⟨ns, fs, rfl, rfl, g⟩))
    (es_cons (es_op (es_call (es_cons (es_var (i := 2) rfl iv2) (es_cons (es_var rfl (i3.mono e1)) es_nil)) (sps_P hink)) (es_var (i := 0) rfl (i1.mono e1)) (rs_eqT _ ns)) es_nil)) fun v3 v4 H2 e2 iv3 iv4 => ?_
  have e02 := e1.trans e2
  have ht : EvT (tOr (tTest (tOp (rNeD K) (tCall (spF fGreat (gBad a.cLot a.cFolds)) [] E0 (tCons (tVar 0) (tCons (tVar 1) tNil))) (tVar 2))) (tOr (tNot (tB (tCB (rIsi K) (tCons (tVar 3) (tCons (tC (.ty "bool")) tNil))))) (tTest (tOp rNe (tVar 3) (tVar 4))))) [some x1, some x2, some v2, some v3, some v4, none] H2 false := by
    refine et_is (et_or (b := false) (et_T (es_op (es_call (es_cons (es_var rfl (i1.mono e02)) (es_cons (es_var rfl (i3.mono e02)) es_nil)) (sps_F ⟨ns, fs, rfl, rfl, g⟩)) (es_var (i := 2) rfl (iv2.mono e2)) (rs_neT _ _))) fun _ => ?_) (by simp)
    refine et_is (et_or (b := false) (et_not (et_S (es_cb (es_cons (es_var (i := 3) rfl iv3) (es_cons es_c es_nil)) (rcs_isi (b := true) ty_bl (by decide +kernel))))) fun _ => ?_) rfl
    exact et_is (et_T (es_op (es_var (i := 3) rfl iv3) (es_var (i := 4) rfl iv4) (rs_neB _ _))) (by simp)
  refine q_when ht (fun z => by cases z) fun _ H3 e3 => ?_
  refine q_when (et_T (es_op (es_is (es_cb (es_cons (es_var (i := 2) rfl ((iv2.mono e2).mono e3)) es_nil) (rcs_lenT (K := K))) (by rw [shs_len])) (es_c (v := .int 8)) (rs_I0 (i := ((gM ns fs).length : Int)) (j := 8)))) (fun _ H4 e4 => ?_) fun z H4 e4 => ?_
  · exact ss_ret es_c fun v H5 e5 i5 => q v H5 (((e02.trans e3).trans e4).trans e5) i5
  · have h8 : (gM ns fs).length ≤ 8 := by have := of_decide_eq_false z; omega
    have e04 := (e02.trans e3).trans e4
    refine qs_asg (es_call (es_cons (es_var rfl (i1.mono e04)) (es_cons (es_var rfl (i3.mono e04)) es_nil)) (sps_F ⟨ns, fs, rfl, rfl, g, h8⟩)) fun v5 H5 e5 iv5 => ?_
    have e05 := e04.trans e5
    refine ss_ret (es_is (es_and (es_op (es_var (i := 5) rfl iv5) (es_call (es_cons (es_var rfl (i1.mono e05)) (es_cons (es_var rfl (i3.mono e05)) (es_cons (es_var (i := 2) rfl ((((iv2.mono e2).mono e3).mono e4).mono e5)) es_nil))) (sps_P ⟨ns, fs, rfl, rfl, g, h8⟩)) (rs_eqO (K := K) _ _)) fun _ =>
      es_op (es_op (es_var (i := 5) rfl iv5) es_c (rs_isO _)) (es_var (i := 4) rfl (((iv4.mono e3).mono e4).mono e5)) (rs_neB _ _)) ?_) fun v H6 e6 i6 => q v H6 (e05.trans e6) i6
    have h1 := few_eq (lot := ns) (fs := fs) (ps := gM ns fs) (asc_gM g.asc)
    have h2 := few_iff (lot := ns) (fs := fs) g.asc
    rw [h1]
    by_cases hk : inkM (gM ns fs) fs = ns
    · have h3 : ¬ fewM ns fs (gM ns fs) = none := fun z => h2.mp z hk
      rw [decide_eq_true hk, decide_eq_false h3]
      simp
      rfl
    · have h3 : fewM ns fs (gM ns fs) = none := h2.mpr hk
      rw [decide_eq_false hk, h3]
      simp
      rfl
/-! ### _law_two_right -/
abbrev nTwo : List Str := ["_law_one", "_law_other", "_law_folds_here", "_law_ends", "_law_greatest_here", "_law_lot_here", "_law_place"]
theorem scTwo : FnScope nTwo ["_law_one", "_law_other", "_law_folds_here"] (defScope sTwo) := ⟨rfl, rfl, rfl, by decide +kernel, rfl, by decide +kernel, by decide +kernel⟩
def fTwo (ss : List Sh) (s : Sh) : Prop := ∃ one other fs, ss = [tI one, tI other, tI fs] ∧ s = shB true ∧ GoodIn one fs ∧ GoodIn other fs ∧ GoodIn (inkM one fs) fs ∧ GoodIn (inkM other fs) fs
theorem ok_two (T : Txt K mg a) (TI : InitT P K a.cMany a.init) (bI : Binds K a.init.fd ["self", "limit"] []) : FnOk P w K mg base CX0 6 a.two.a a.two.fd ["_law_one", "_law_other", "_law_folds_here"] (spP fTwo) := by
  have GC := ok_comes (P := P) (w := w) (base := base) T
  have GL := ok_greatL (P := P) (w := w) (base := base) T
  have GI := ok_inkedBy (P := P) (w := w) (base := base) T TI bI
  refine T.two.fn.ok scTwo (spP_len fun ss s ⟨_, _, _, e, _⟩ => by rw [e]; rfl) (fun cdv A outer s H vs Q E hr h => ?_)
  obtain ⟨ss, s', ⟨one, other, fs, rfl, rfl, g1, g2, g3, g4⟩, hi', q⟩ := h
  obtain ⟨x1, r, rfl, i1, i2⟩ := isA_cons.mp hi'
  obtain ⟨x2, r2, rfl, i3, i4⟩ := isA_cons.mp i2
  obtain ⟨x3, r3, rfl, i5, i6⟩ := isA_cons.mp i4
  rw [isA_nil.mp i6]
  refine ⟨_, pss_cons (ps_setLc (i := 3) (own := [("_law_lot_here", 5)]) (g := gName 5) (tt := tYes) (te := tCall (spF fInkedBy fun _ _ _ => False) [] E0 (tCons (tVar 5) (tCons (tVar 2) tNil))) rfl scTwo.nd rfl rfl (sw_true rfl rfl rfl (by decide +kernel)) (pi_tup (pe_tup (pa_cons (pv 0) (pa_cons (pv 1) pa_nil)))) (blkOk_by (N := nTwo) (sc := defScope sTwo) (by decide +kernel))
      (fun _ _ _ _ _ => pg_name (i := 5) scTwo.nd rfl (.inl rfl)) (fun _ _ _ _ _ => pts_nil) (fun _ _ _ _ _ => pe_call GI hr (by rfl) T.inkedBy.mg T.inkedBy.fn.kp T.inkedBy.bd .nil passL (pa_cons (pv 5) (pa_cons (pv 2) pa_nil))))
    (pss_cons (ps_set (i := 4) scTwo.nd rfl (.inr rfl) (pe_lc (own := [("_law_lot_here", 5)]) (g := gName 5) (tt := tTest (tOp (rI0 fun i j => .bl (decide (i ≤ j))) (tCB (fun xs H Q => ∃ p ys, xs = [.ref p] ∧ (SqL K H p ys ∨ SqT K H p ys) ∧ Q (.int ys.length) H) (tCons (tVar 5) tNil)) (tC (.int 256)))) (te := tCall (spF fGreat (gBad a.cLot a.cFolds)) [] E0 (tCons (tVar 5) (tCons (tVar 2) tNil))) rfl scTwo.nd (pi_list (pv 3)) (blkOk_by (N := nTwo) (sc := defScope sTwo) (by decide +kernel))
      (fun _ _ _ _ _ => pg_name (i := 5) scTwo.nd rfl (.inl rfl)) (fun _ _ _ _ _ => pts_one (pt_cmpR op_le (pe_callB call_len_seq (by rfl) T.bLen boot_len (pa_cons (pv 5) pa_nil)) pe_int (nomark _))) (fun _ _ _ _ _ => pe_call GL hr (by rfl) T.greatL.mg T.greatL.fn.kp T.greatL.bd .nil passL (pa_cons (pv 5) (pa_cons (pv 2) pa_nil)))))
    (pss_cons (ps_if (PW.pt (pw_or (pt_cmpR (op_neD hr.units)
        (pe_lc (own := [("_law_place", 6)]) (g := gName 6) (tt := tTest (tOp (rIn K true) (tVar 6) (tOp (rIxL K) (tVar 4) (tC (.int 0))))) rfl scTwo.nd (pi_tup (pv 0)) (blkOk_by (N := nTwo) (sc := defScope sTwo) (by decide +kernel)) (fun _ _ _ _ _ => pg_name (i := 6) scTwo.nd rfl (.inl rfl))
          (fun _ _ _ _ _ => pts_one (pt_cmpR op_notIn_seq (pv 6) (pe_ix ix_list (pv 4) pe_int (by intro _ _; rfl)) rfl)) (fun _ _ _ _ _ => pv 6)) (pe_lst pa_nil) (nomark _))
        (pw_or1 (pt_not (pt_val (pe_call GC hr (by rfl) T.comes.mg T.comes.fn.kp T.comes.bd .nil passL (pa_cons (pe_ix ix_list (pv 3) pe_int (by intro _ _; rfl)) (pa_cons (pv 2) pa_nil))))))))
        (pss_one (ps_ret pe_bl)) pss_nil)
    (pss_one (ps_ret (pe_cmpR op_eq (pe_cmpR (op_eqD hr.units) (pe_ix ix_list (pv 3) pe_int (by intro _ _; rfl)) (pe_ix ix_list (pv 3) pe_int (by intro _ _; rfl)) (nomark _)) (pe_cmpR (op_eqD hr.units) (pe_ix ix_list (pv 4) pe_int (by intro _ _; rfl)) (pe_ix ix_list (pv 4) pe_int (by intro _ _; rfl)) (nomark _)) (nomark _)))))), ?_⟩
  have hends : EvS (tLc (iTup K (tTup (tCons (tVar 0) (tCons (tVar 1) tNil)))) (gName 5) tYes (tCall (spF fInkedBy fun _ _ _ => False) [] E0 (tCons (tVar 5) (tCons (tVar 2) tNil))) [5]) [some x1, some x2, some x3, none, none, none, none] H (.l [tI (inkM one fs), tI (inkM other fs)]) := by
    have z := es_lcT (K := K) (t := tYes) (te := tCall (spF fInkedBy fun _ _ _ => False) [] E0 (tCons (tVar 5) (tCons (tVar 2) tNil))) (σ := [some x1, some x2, some x3, none, none, none, none]) (H := H) (ss := [tI one, tI other]) (j := 5) (vs := [5]) (fun _ => true) (fun i => match i with | 0 => tI (inkM one fs) | _ => tI (inkM other fs)) (fun i => by split <;> exact tupS_tI _)
      (es_tup (es_cons (es_var (i := 0) rfl i1) (es_cons (es_var (i := 1) rfl i3) es_nil)) (by show 2 ≤ 100000; decide)) (by show 2 ≤ 40000; decide) (fun x => rfl) (fun _ _ _ _ _ _ _ => et_yes)
      (fun i s x H2 hi e hs _ => by
        match i, hi with
        | 0, hi =>
          have es : tI one = s := by simpa using hi
          subst es
          exact es_call (es_cons (es_var rfl hs) (es_cons (es_var (i := 2) rfl (i5.mono e)) es_nil)) (sps_F ⟨one, fs, rfl, rfl, g1, g3.len⟩)
        | 1, hi =>
          have es : tI other = s := by simpa using hi
          subst es
          exact es_call (es_cons (es_var rfl hs) (es_cons (es_var (i := 2) rfl (i5.mono e)) es_nil)) (sps_F ⟨other, fs, rfl, rfl, g2, g4.len⟩)
        | n + 2, hi => simp at hi)
    exact z
  refine qs_asg hends fun v3 H1 e1 iv3 => ?_
  have hgr : EvS (tLc (iList K (tVar 3)) (gName 5) (tTest (tOp (rI0 fun i j => .bl (decide (i ≤ j))) (tCB (fun xs H Q => ∃ p ys, xs = [.ref p] ∧ (SqL K H p ys ∨ SqT K H p ys) ∧ Q (.int ys.length) H) (tCons (tVar 5) tNil)) (tC (.int 256)))) (tCall (spF fGreat (gBad a.cLot a.cFolds)) [] E0 (tCons (tVar 5) (tCons (tVar 2) tNil))) [5]) [some x1, some x2, some x3, some v3, none, none, none] H1 (.l [tI (gM (inkM one fs) fs), tI (gM (inkM other fs) fs)]) := by
    have tt : ∀ {ns : List Int} {x : V} {H2 : Hp}, ns.length < 64 → Is (tI ns) x H2 → EvT (tTest (tOp (rI0 fun i j => .bl (decide (i ≤ j))) (tCB (fun xs H Q => ∃ p ys, xs = [.ref p] ∧ (SqL K H p ys ∨ SqT K H p ys) ∧ Q (.int ys.length) H) (tCons (tVar 5) tNil)) (tC (.int 256)))) [some x1, some x2, some x3, some v3, none, some x, none] H2 true := by
      intro ns x H2 hl hs
      refine et_is (et_T (es_op (es_is (es_cb (es_cons (es_var (i := 5) rfl hs) es_nil) (rcs_lenT (K := K))) (by rw [shs_len])) (es_c (v := .int 256)) (rs_I0 (i := (ns.length : Int)) (j := 256)))) ?_
      exact decide_eq_true (by omega)
    have z := es_lcL (K := K) (t := tTest (tOp (rI0 fun i j => .bl (decide (i ≤ j))) (tCB (fun xs H Q => ∃ p ys, xs = [.ref p] ∧ (SqL K H p ys ∨ SqT K H p ys) ∧ Q (.int ys.length) H) (tCons (tVar 5) tNil)) (tC (.int 256)))) (te := tCall (spF fGreat (gBad a.cLot a.cFolds)) [] E0 (tCons (tVar 5) (tCons (tVar 2) tNil))) (σ := [some x1, some x2, some x3, some v3, none, none, none]) (H := H1) (ss := [tI (inkM one fs), tI (inkM other fs)]) (j := 5) (vs := [5]) (fun _ => true) (fun i => match i with | 0 => tI (gM (inkM one fs) fs) | _ => tI (gM (inkM other fs) fs)) (fun i => by split <;> exact tupS_tI _)
      (es_var (i := 3) rfl iv3) (by show 2 ≤ 40000; decide) (fun x => rfl)
      (fun i s x H2 hi e hs => by
        match i, hi with
        | 0, hi =>
          have es : tI (inkM one fs) = s := by simpa using hi
          subst es
          exact tt g3.len hs
        | 1, hi =>
          have es : tI (inkM other fs) = s := by simpa using hi
          subst es
          exact tt g4.len hs
        | n + 2, hi => simp at hi)
      (fun i s x H2 hi e hs _ => by
        match i, hi with
        | 0, hi =>
          have es : tI (inkM one fs) = s := by simpa using hi
          subst es
          exact es_call (es_cons (es_var rfl hs) (es_cons (es_var (i := 2) rfl (i5.mono (e1.trans e))) es_nil)) (sps_F ⟨_, fs, rfl, rfl, g3⟩)
        | 1, hi =>
          have es : tI (inkM other fs) = s := by simpa using hi
          subst es
          exact es_call (es_cons (es_var rfl hs) (es_cons (es_var (i := 2) rfl (i5.mono (e1.trans e))) es_nil)) (sps_F ⟨_, fs, rfl, rfl, g4⟩)
        | n + 2, hi => simp at hi)
    exact z
  refine qs_asg hgr fun v4 H2 e2 iv4 => ?_
  have e02 := e1.trans e2
  have at0 : ∀ {i : Nat} {v : V} {s0 s1 : Sh} {σ : L2.St} {H3 : Hp}, σ[i]? = some (some v) → Is (.l [s0, s1]) v H3 → EvS (tOp (rIxL K) (tVar i) (tC (.int 0))) σ H3 s0 := fun hs hi => es_op (es_var hs hi) (es_c (v := .int 0)) (rs_ixL rfl)
  have at1 : ∀ {i : Nat} {v : V} {s0 s1 : Sh} {σ : L2.St} {H3 : Hp}, σ[i]? = some (some v) → Is (.l [s0, s1]) v H3 → EvS (tOp (rIxL K) (tVar i) (tC (.int 1))) σ H3 s1 := fun hs hi => es_op (es_var hs hi) (es_c (v := .int 1)) (rs_ixL rfl)
  have hlc := es_lcT (K := K) (t := tTest (tOp (rIn K true) (tVar 6) (tOp (rIxL K) (tVar 4) (tC (.int 0))))) (te := tVar 6) (tl := tVar 0) (σ := [some x1, some x2, some x3, some v3, some v4, none, none]) (H := H2) (ss := shs one) (j := 6) (vs := [6]) (fun i => !decide (one.getD i 0 ∈ gM (inkM one fs) fs)) (fun i => shI (one.getD i 0)) (fun _ => rfl) (es_var rfl (i1.mono e02)) (by rw [shs_len]; have := g1.len; omega) (fun x => rfl)
    (fun i s x H3 hi e hs => by
      rw [(shs_get hi).1] at hs
      exact et_T (es_op (es_var (i := 6) rfl hs) (at0 (i := 4) rfl (iv4.mono e)) rs_notIn))
    (fun i s x H3 hi e hs _ => by
      rw [(shs_get hi).1] at hs
      exact es_var rfl hs)
  rw [givS_filter one (fun k => !decide (k ∈ gM (inkM one fs) fs))] at hlc
  have hfil : one.filter (fun k => !decide (k ∈ gM (inkM one fs) fs)) = [] := by
    refine List.filter_eq_nil_iff.mpr fun k hk => ?_
    rw [decide_eq_true (one_in_gM k hk)]
    decide
  rw [hfil] at hlc
  have ht : EvT (tOr (tTest (tOp (rNeD K) (tLc (iTup K (tVar 0)) (gName 6) (tTest (tOp (rIn K true) (tVar 6) (tOp (rIxL K) (tVar 4) (tC (.int 0))))) (tVar 6) [6]) (tLst tNil))) (tNot (tB (tCall (spF fComes (gBad a.cLot a.cFolds)) [] E0 (tCons (tOp (rIxL K) (tVar 3) (tC (.int 0))) (tCons (tVar 2) tNil)))))) [some x1, some x2, some x3, some v3, some v4, none, none] H2 false := by
    refine et_is (et_or (b := false) (et_T (es_op hlc (es_lst (ss := shs []) es_nil (by decide)) (rs_neL (K := K) [] []))) fun _ => ?_) (by simp)
    refine et_is (et_not (et_S (es_call (es_cons (at0 (i := 3) rfl (iv3.mono e2)) (es_cons (es_var (i := 2) rfl (i5.mono e02)) es_nil)) (sps_F ⟨_, fs, rfl, rfl, g3⟩)))) ?_
    rw [decide_eq_true (ink_gM_of g1.asc)]
    rfl
  refine q_when ht (fun z => by cases z) fun _ H3 e3 => ?_
  refine ss_ret (es_is (es_op (es_op (at0 (i := 3) rfl ((iv3.mono e2).mono e3)) (at1 (i := 3) rfl ((iv3.mono e2).mono e3)) (rs_eqT (K := K) _ _)) (es_op (at0 (i := 4) rfl (iv4.mono e3)) (at1 (i := 4) rfl (iv4.mono e3)) (rs_eqT (K := K) _ _)) (rs_eqB _ _)) ?_) fun v H4 e4 i7 => q v H4 ((e02.trans e3).trans e4) i7
  have hiff := two_iff (fs := fs) g1.asc g2.asc
  have e6 : decide (inkM one fs = inkM other fs) = decide (gM (inkM one fs) fs = gM (inkM other fs) fs) := by
    rw [decide_eq_decide]
    exact hiff
  rw [decide_eq_true e6]
end
end K46

/-! K16: _law_cup, _law_roll, _law_some: the cup is a list of two numbers that the rolls write. -/
namespace K46
open PySem PySem.Spec PyProof.Rows L2 Evl
def Cu (c : Addr) (H : Hp) : Prop := ∃ a b : Int, H c = some (.lst [.int a, .int b])
/-- all but the cup stays -/
def Oth (c : Addr) (H H' : Hp) : Prop := ∀ b o, b ≠ c → H b = some o → H' b = some o
theorem Oth.refl (c : Addr) (H : Hp) : Oth c H H := fun _ _ _ h => h
theorem Oth.trans {c : Addr} {H H1 H2 : Hp} (a : Oth c H H1) (b : Oth c H1 H2) : Oth c H H2 := fun x o h e => b x o h (a x o h e)
theorem Oth.of {c : Addr} {H H' : Hp} (e : Ex H H') : Oth c H H' := fun b o _ h => e b o h
theorem Oth.upd {c : Addr} {H : Hp} {o : HO} : Oth c H (upd H c o) := fun b u hb h => by rw [upd_ne hb]; exact h
theorem Cu.mono {c : Addr} {H H' : Hp} (h : Cu c H) (e : Ex H H') : Cu c H' := by
  obtain ⟨a, b, h⟩ := h
  exact ⟨a, b, e _ _ h⟩
theorem Oth.tup {c : Addr} {H H' : Hp} (h : Cu c H) (o : Oth c H H') : ∀ b xs, H b = some (.tup xs) → H' b = some (.tup xs) := fun b xs e => o b _ (fun z => by
  obtain ⟨x, y, h⟩ := h
  rw [z, h] at e
  cases e) e
theorem Is.oth {c : Addr} {H H' : Hp} {s : Sh} {x : V} (h : Cu c H) (o : Oth c H H') (ht : tupS s = true) (i : Is s x H) : Is s x H' := Is.keep (o.tup h) ht i
section
variable {P : Program} {w : World} {K : PySem.W.Frag} {mg : Str → Option Value} {base : Heap} {a : Ad}
/-! ### _law_cup -/
theorem scCup : FnScope ["_law_script", "_law_cell"] ["_law_script"] (defScope sCup) := ⟨rfl, rfl, rfl, by decide +kernel, rfl, by decide +kernel, by decide +kernel⟩
def spCup (K : PySem.W.Frag) : Sp := fun vs H Q _ => ∃ (l : Addr) (ns : List Int), vs = [.ref l] ∧ SqL K H l (ns.map V.int) ∧ ns.length ≤ 1000 ∧ ∀ c H', Ex H H' → Cu c H' → Q (.ref c) H'
def rAbsI : List V → Hp → VK → Prop := fun xs H Q => ∃ i, xs = [.int i] ∧ Q (.int (if i < 0 then -i else i)) H
theorem cr_abs {X : Cx} : CallR X (.builtin "abs") rAbsI := call_abs
theorem rcs_abs {i : Int} : RCS rAbsI [shI i] (shI (if i < 0 then -i else i)) := fun vs H h Q q => by
  obtain ⟨x, r, rfl, h1, h2⟩ := isA_cons.mp h
  rw [isA_nil.mp h2, is_v.mp h1]
  exact ⟨i, rfl, q _ H (Ex.refl H) (is_v.mpr rfl)⟩
def rInt1 : List V → Hp → VK → Prop := fun xs H Q => (∃ i, xs = [.int i] ∧ Q (.int i) H) ∨ ∃ k, xs = [.bl k] ∧ Q (.int (if k then 1 else 0)) H
theorem cr_int {X : Cx} : CallR X (.type "int") rInt1 := call_int1
theorem rcs_int {i : Int} : RCS rInt1 [shI i] (shI i) := fun vs H h Q q => by
  obtain ⟨x, r, rfl, h1, h2⟩ := isA_cons.mp h
  rw [isA_nil.mp h2, is_v.mp h1]
  exact .inl ⟨i, rfl, q _ H (Ex.refl H) (is_v.mpr rfl)⟩
theorem atI_first {ns : List Int} : ∃ z, atI (shs ns ++ [shI 0]) 0 = some (shI z) := by
  cases ns with
  | nil => exact ⟨0, rfl⟩
  | cons n r =>
    refine ⟨n, ?_⟩
    unfold atI
    have e : ixN (shs (n :: r) ++ [shI 0]).length 0 = some 0 := by
      unfold ixN
      rw [if_pos (by decide), if_pos (by rw [List.length_append, shs_len, List.length_cons, List.length_singleton]; omega)]
      rfl
    rw [e]
    rfl
theorem ok_cup (T : Txt K mg a) : FnOk P w K mg base CX0 1 a.cup.a a.cup.fd ["_law_script"] (spCup K) := by
  refine T.cup.fn.ok scCup (fun vs H Q E ⟨_, _, e, _⟩ => by rw [e]; rfl) (fun cdv A outer s H vs Q E hr h => ?_)
  obtain ⟨l, ns, rfl, hl, hz, q⟩ := h
  refine ⟨_, pss_cons (ps_set (i := 1) scCup.nd rfl (.inl rfl) (pe_callB cr_abs (by rfl) T.bAbs boot_abs (pa_cons (pe_ix ix_list (pe_op op_cat (pe_callTy call_list_of (by rfl) T.bList boot_list (pa_cons (pv 0) pa_nil)) (pe_lst (pa_cons pe_int pa_nil))) pe_int (by intro _ _; rfl)) pa_nil)))
    (pss_one (ps_ret (pe_lst (pa_cons (pe_ifExp (pt_cmpR op_ge (pv 1) (pe_op op_pow pe_int pe_int) (nomark _)) (pe_op op_fdiv (pv 1) pe_int) pe_int)
      (pa_cons (pe_op op_add (pe_op op_mod (pe_callTy cr_int (by rfl) T.bInt boot_int (pa_cons (pe_op op_add (pe_op op_mul (pv 1) pe_int) pe_int) pa_nil)) pe_int) pe_int) pa_nil))))), ?_⟩
  have h0 : EvS (tCB (fun xs H Q => ∃ p ys, xs = [.ref p] ∧ (SqL K H p ys ∨ SqT K H p ys) ∧ ∀ l, H l = none → Q (.ref l) (upd H l (.lst ys))) (tCons (tVar 0) tNil)) [some (.ref l), none] H (lI ns) := fun H1 e Q q =>
    ⟨.ref l, rfl, l, ns.map V.int, rfl, .inl (ex_l e hl), fun p hp => q _ _ (Ex.new hp) (is_lI.mpr ⟨p, rfl, upd_same⟩)⟩
  obtain ⟨z, hz2⟩ := atI_first (ns := ns)
  refine qs_asg (es_cb (es_cons (es_op (es_op h0 (es_lst (ss := [shI 0]) (es_cons es_c es_nil) (by decide)) (rs_cat (by rw [shs_len]; show _ + 1 ≤ _; omega))) (es_c (v := .int 0)) (rs_ixL hz2)) es_nil) rcs_abs) fun v H1 e1 iv => ?_
  have ev := is_v.mp iv
  subst ev
  generalize (if z < 0 then -z else z) = y
  have hv : EvS (tVar 1) [some (.ref l), some (.int y)] H1 (shI y) := es_var rfl (is_v.mpr rfl)
  have hfirst : ∃ x, EvS (tIf (tTest (tOp (rI0 fun i j => .bl (decide (j ≤ i))) (tVar 1) (tOp (rI CPow fun i j => .int (i ^ j.toNat)) (tC (.int 10)) (tC (.int 18))))) (tOp (rI CDiv fun i j => .int (i / j)) (tVar 1) (tC (.int 37))) (tC (.int 0))) [some (.ref l), some (.int y)] H1 (shI x) := by
    have ht := et_T (es_op hv (es_op (s1 := shI 10) (s2 := shI 18) es_c es_c (rs_I (C := CPow) (g := fun i j => .int (i ^ j.toNat)) (i := 10) (j := 18) ⟨by decide, by decide, by decide⟩)) (rs_I0 (g := fun i j => .bl (decide (j ≤ i))) (i := y) (j := 10 ^ 18)))
    by_cases hb : (10 : Int) ^ 18 ≤ y
    · refine ⟨y / 37, es_if (et_is ht (decide_eq_true hb)) (fun _ => ?_) fun z => by cases z⟩
      exact es_op (s2 := shI 37) hv es_c (rs_I ⟨by decide, by decide⟩)
    · exact ⟨0, es_if (et_is ht (decide_eq_false hb)) (fun z => by cases z) fun _ => es_c⟩
  obtain ⟨x, hx⟩ := hfirst
  refine ss_ret (es_lst (ss := [shI x, shI ((y * 239 + 1913) % 2077503509 + 127)]) (es_cons hx (es_cons (es_op (s1 := shI ((y * 239 + 1913) % 2077503509)) (s2 := shI 127) (es_op (s1 := shI (y * 239 + 1913)) (s2 := shI 2077503509) (es_cb (es_cons (es_op (s1 := shI (y * 239)) (s2 := shI 1913) (es_op (s2 := shI 239) hv es_c (rs_I (.inr ⟨by decide, by decide⟩))) es_c rs_I0) es_nil) rcs_int) es_c (rs_I (by decide))) es_c rs_I0) es_nil)) (by show 2 ≤ 100000; decide)) fun v H2 e2 i2 => ?_
  obtain ⟨p, xs, rfl, hp, hxs⟩ := is_l.mp i2
  obtain ⟨y1, r1, rfl, j1, j2⟩ := isA_cons.mp hxs
  obtain ⟨y2, r2, rfl, j3, j4⟩ := isA_cons.mp j2
  rw [is_v.mp j1, is_v.mp j3, isA_nil.mp j4] at hp
  exact q p H2 (e1.trans e2) ⟨_, _, hp⟩
/-! ### _law_roll -/
theorem scRoll : FnScope ["_law_cup_here", "_law_many", "_law_found", "_law_deep"] ["_law_cup_here", "_law_many"] (defScope sRoll) := ⟨rfl, rfl, rfl, by decide +kernel, rfl, by decide +kernel, by decide +kernel⟩
def spRoll : Sp := fun vs H Q _ => ∃ (c : Addr) (m : Int), vs = [.ref c, .int m] ∧ 0 < m ∧ m < 1000 ∧ Cu c H ∧ ∀ r H', 0 ≤ r → r < m → Cu c H' → Oth c H H' → Q (.int r) H'
theorem ok_roll (T : Txt K mg a) : FnOk P w K mg base CX0 1 a.roll.a a.roll.fd ["_law_cup_here", "_law_many"] spRoll := by
  refine T.roll.fn.ok scRoll (fun vs H Q E ⟨_, _, e, _⟩ => by rw [e]; rfl) (fun cdv A outer s H vs Q E hr h => ?_)
  obtain ⟨c, m, rfl, hm0, hm1, ⟨x, y, hc⟩, q⟩ := h
  refine ⟨_, pss_cons (ps_if (pt_cmpR op_gt (pe_ix ix_list (pv 0) pe_int (by intro _ _; rfl)) pe_int (nomark _))
      (pss_cons (ps_set (i := 2) scRoll.nd rfl (.inl rfl) (pe_op op_mod (pe_callTy cr_int (by rfl) T.bInt boot_int (pa_cons (pe_ix ix_list (pv 0) pe_int (by intro _ _; rfl)) pa_nil)) (pv 1)))
      (pss_cons (ps_asg (pe_op op_fdiv (pe_ix ix_list (pv 0) pe_int (by intro _ _; rfl)) (pv 1)) (pg_sub (pv 0) pe_int set_list (by intro _; rfl)))
      (pss_one (ps_ret (pv 2))))) pss_nil)
    (pss_cons (ps_asg (pe_op op_mod (pe_callTy cr_int (by rfl) T.bInt boot_int (pa_cons (pe_op op_add (pe_op op_mul (pe_ix ix_list (pv 0) pe_int (by intro _ _; rfl)) pe_int) pe_int) pa_nil)) pe_int) (pg_sub (pv 0) pe_int set_list (by intro _; rfl)))
    (pss_cons (ps_set (i := 3) scRoll.nd rfl (.inl rfl) (pe_op op_mod (pe_callTy cr_int (by rfl) T.bInt boot_int (pa_cons (pe_op op_mul (pe_ix ix_list (pv 0) pe_int (by intro _ _; rfl)) (pe_op op_add (pe_ix ix_list (pv 0) pe_int (by intro _ _; rfl)) pe_int)) pa_nil)) pe_int))
    (pss_one (ps_ret (pe_op op_mod (pe_callTy cr_int (by rfl) T.bInt boot_int (pa_cons (pe_op op_fdiv (pv 3) pe_int) pa_nil)) (pv 1)))))), ?_⟩
  have at0 : ∀ {a b : Int} {σ : L2.St} {H3 : Hp}, σ[0]? = some (some (.ref c)) → H3 c = some (.lst [.int a, .int b]) → EvS (tOp (rIxL K) (tVar 0) (tC (.int 0))) σ H3 (shI a) := fun {a b} _ _ hs hi => es_op (es_var (s := .l [shI a, shI b]) hs (is_l.mpr ⟨c, _, rfl, hi, isA_shs (ns := [a, b]).mpr rfl⟩)) (es_c (v := .int 0)) (rs_ixL rfl)
  have at1 : ∀ {a b : Int} {σ : L2.St} {H3 : Hp}, σ[0]? = some (some (.ref c)) → H3 c = some (.lst [.int a, .int b]) → EvS (tOp (rIxL K) (tVar 0) (tC (.int 1))) σ H3 (shI b) := fun {a b} _ _ hs hi => es_op (es_var (s := .l [shI a, shI b]) hs (is_l.mpr ⟨c, _, rfl, hi, isA_shs (ns := [a, b]).mpr rfl⟩)) (es_c (v := .int 1)) (rs_ixL rfl)
  refine q_when (et_T (es_op (at0 rfl hc) es_c (rs_I0 (g := fun i j => .bl (decide (j < i))) (i := x) (j := 0)))) (fun z H1 e1 => ?_) fun z H1 e1 => ?_
  · have hc1 := e1 _ _ hc
    refine qs_asg (es_op (s1 := shI x) (s2 := shI m) (es_cb (es_cons (at0 rfl hc1) es_nil) rcs_int) (es_var (i := 1) rfl (is_v.mpr rfl)) (rs_I (C := fun _ j => 0 < j) (g := fun i j => .int (i % j)) hm0)) fun v H2 e2 iv => ?_
    have ev := is_v.mp iv
    subst ev
    have hc2 := e2 _ _ hc1
    refine q_setL (j := 0) hc2 (ev_es (es_op (s2 := shI m) (at0 rfl hc2) (es_var (i := 1) rfl (is_v.mpr rfl)) (rs_I (C := CDiv) (g := fun i j => .int (i / j)) ⟨hm0, by omega⟩))) (ev_var rfl) (ev_es (es_c (v := .int 0))) (by show 0 < 2; decide) fun H3 e3 => ?_
    refine ss_ret (es_var (i := 2) rfl (is_v.mpr rfl)) fun v H4 e4 iv4 => ?_
    rw [is_v.mp iv4]
    exact q _ H4 (Int.emod_nonneg _ (by omega)) (Int.emod_lt_of_pos _ hm0) ⟨x / m, y, e4 _ _ upd_same⟩ (((Oth.of ((e1.trans e2).trans e3)).trans Oth.upd).trans (Oth.of e4))
  · have hc1 := e1 _ _ hc
    refine q_setL (j := 1) hc1 (ev_es (es_op (s1 := shI (y * 30949 + 7919)) (s2 := shI 2147483497) (es_cb (es_cons (es_op (s1 := shI (y * 30949)) (s2 := shI 7919) (es_op (s2 := shI 30949) (at1 rfl hc1) es_c (rs_I (C := CMul) (g := fun i j => .int (i * j)) (.inr ⟨by decide, by decide⟩))) es_c rs_I0) es_nil) rcs_int) es_c (rs_I (C := fun _ j => 0 < j) (g := fun i j => .int (i % j)) (by decide)))) (ev_var rfl) (ev_es (es_c (v := .int 1))) (by show 1 < 2; decide) fun H2 e2 => ?_
    have b1 : 0 ≤ (y * 30949 + 7919) % 2147483497 := Int.emod_nonneg _ (by decide)
    have b2 : (y * 30949 + 7919) % 2147483497 < 2147483497 := Int.emod_lt_of_pos _ (by decide)
    generalize (y * 30949 + 7919) % 2147483497 = d at b1 b2
    have hc2 : (upd H2 c (.lst [.int x, .int d])) c = some (.lst [.int x, .int d]) := upd_same
    refine qs_asg (es_op (s1 := shI (d * (d + 191))) (s2 := shI 2147483587) (es_cb (es_cons (es_op (s1 := shI d) (s2 := shI (d + 191)) (at1 rfl hc2) (es_op (s1 := shI d) (s2 := shI 191) (at1 rfl hc2) es_c rs_I0) (rs_I (C := CMul) (g := fun i j => .int (i * j)) (.inl ⟨by omega, by omega⟩))) es_nil) rcs_int) es_c (rs_I (C := fun _ j => 0 < j) (g := fun i j => .int (i % j)) (by decide))) fun v H3 e3 iv => ?_
    have ev := is_v.mp iv
    subst ev
    generalize d * (d + 191) % 2147483587 = g
    refine ss_ret (es_op (s1 := shI (g / 761)) (s2 := shI m) (es_cb (es_cons (es_op (s1 := shI g) (s2 := shI 761) (es_var (i := 3) rfl (is_v.mpr rfl)) es_c (rs_I (C := CDiv) (g := fun i j => .int (i / j)) ⟨by decide, by decide⟩)) es_nil) rcs_int) (es_var (i := 1) rfl (is_v.mpr rfl)) (rs_I (C := fun _ j => 0 < j) (g := fun i j => .int (i % j)) hm0)) fun v H4 e4 iv4 => ?_
    rw [is_v.mp iv4]
    exact q _ H4 (Int.emod_nonneg _ (by omega)) (Int.emod_lt_of_pos _ hm0) ⟨x, d, e4 _ _ (e3 _ _ hc2)⟩ (((Oth.of (e1.trans e2)).trans Oth.upd).trans (Oth.of (e3.trans e4)))
/-- roll(cup, m) -/
theorem ec_roll {σ : L2.St} {H : Hp} {i : Nat} {c : Addr} {m : Int} {tm : TE} {Q : VK} (h0 : σ[i]? = some (some (.ref c))) (hc : Cu c H) (hm : Ev tm σ H (.int m)) (b1 : 0 < m) (b2 : m < 1000) (q : ∀ r H', 0 ≤ r → r < m → Cu c H' → Oth c H H' → Q (.int r) H') :
    tCall spRoll [] E0 (tCons (tVar i) (tCons tm tNil)) σ H Q :=
  ⟨.ref c, h0, hm H (Ex.refl _) _ fun H1 e1 => ⟨c, m, rfl, b1, b2, hc.mono e1, fun r H' r0 r1 hc' ho => q r H' r0 r1 hc' ((Oth.of e1).trans ho)⟩⟩
/-! ### _law_some -/
theorem scSome : FnScope ["_law_cup_here", "_law_things"] ["_law_cup_here", "_law_things"] (defScope sSome) := ⟨rfl, rfl, rfl, by decide +kernel, rfl, by decide +kernel, by decide +kernel⟩
def spSome : Sp := fun vs H Q _ => ∃ (c l : Addr) (ns : List Int), vs = [.ref c, .ref l] ∧ Cu c H ∧ H l = some (.lst (ns.map V.int)) ∧ ns.length ≠ 2 ∧ 0 < ns.length ∧ ns.length < 1000 ∧ ∀ z ∈ ns, ∀ H', Cu c H' → Oth c H H' → Q (.int z) H'
theorem ok_some (T : Txt K mg a) : FnOk P w K mg base CX0 2 a.some_.a a.some_.fd ["_law_cup_here", "_law_things"] spSome := by
  have GR := ok_roll (P := P) (w := w) (base := base) T
  refine T.some_.fn.ok scSome (fun vs H Q E ⟨_, _, _, e, _⟩ => by rw [e]; rfl) (fun cdv A outer s H vs Q E hr h => ?_)
  obtain ⟨c, l, ns, rfl, hc, hl, hn2, hn0, hn1, q⟩ := h
  refine ⟨_, pss_one (ps_ret (pe_ix ix_list (pv 1) (pe_call GR hr (by rfl) T.roll.mg T.roll.fn.kp T.roll.bd .nil pass0 (pa_cons (pv 0) (pa_cons (pe_callB call_len_seq (by rfl) T.bLen boot_len (pa_cons (pv 1) pa_nil)) pa_nil))) (by intro _ _; rfl))), ?_⟩
  have hlc : l ≠ c := fun z => by
    obtain ⟨x, y, hc⟩ := hc
    rw [z, hc] at hl
    have e := congrArg List.length (HO.lst.inj (Option.some.inj hl))
    rw [List.length_map] at e
    exact hn2 e.symm
  have hlen : Ev (tCB (fun xs H Q => ∃ p ys, xs = [.ref p] ∧ (SqL K H p ys ∨ SqT K H p ys) ∧ Q (.int ys.length) H) (tCons (tVar 1) tNil)) [some (.ref c), some (.ref l)] H (.int ns.length) :=
    ev_es (es_is (es_cb (es_cons (es_var (i := 1) (s := lI ns) rfl (is_lI.mpr ⟨l, rfl, hl⟩)) es_nil) (rcs_lenL (K := K))) (by rw [shs_len]; rfl))
  refine ⟨.ref l, rfl, ec_roll rfl hc hlen (by omega) (by omega) fun r H' r0 r1 hc' ho => ?_⟩
  have hr2 : r.toNat < ns.length := by omega
  have hl' := ho l _ hlc hl
  refine ⟨l, ns.map V.int, r, .int ns[r.toNat], rfl, rfl, SqL.of hl', ?_, q _ (List.getElem_mem hr2) H' hc' ho⟩
  unfold atI ixN
  rw [List.length_map, if_pos r0, if_pos r1]
  show (ns.map V.int)[r.toNat]? = _
  rw [List.getElem?_map, List.getElem?_eq_getElem hr2]
  rfl
/-- some(cup, [..]) -/
theorem ec_some {σ : L2.St} {H : Hp} {i : Nat} {c : Addr} {ns : List Int} {tl : TE} {Q : VK} (h0 : σ[i]? = some (some (.ref c))) (hc : Cu c H) (hl : EvS tl σ H (lI ns)) (n2 : ns.length ≠ 2) (n0 : 0 < ns.length) (n1 : ns.length < 1000) (q : ∀ z ∈ ns, ∀ H', Cu c H' → Oth c H H' → Q (.int z) H') :
    tCall spSome [] E0 (tCons (tVar i) (tCons tl tNil)) σ H Q :=
  ⟨.ref c, h0, hl H (Ex.refl _) _ fun v H1 e1 iv => by
    obtain ⟨l, rfl, hl⟩ := is_lI.mp iv
    exact ⟨c, l, ns, rfl, hc.mono e1, hl, n2, n0, n1, fun z hz H' hc' ho => q z hz H' hc' ((Oth.of e1).trans ho)⟩⟩
end
end K46

/-! K17: _law_folds, _law_lot. -/
namespace K46
open PySem PySem.Spec PyProof.Rows L2 Evl
theorem sd_le : ∀ l : List Int, (sd l).length ≤ l.length
  | [] => Nat.le_refl _
  | x :: r => by
    have k2 : ∀ s : List Int, (insS x s).length ≤ s.length + 1 := by
      intro s
      induction s with
      | nil => exact Nat.le_refl _
      | cons y s ih2 =>
        unfold insS
        split
        · simp
        · split
          · simp
          · simp only [List.length_cons]; omega
    show (insS x (sd r)).length ≤ r.length + 1
    have := k2 (sd r)
    have := sd_le r
    omega
section
variable {P : Program} {w : World} {K : PySem.W.Frag} {mg : Str → Option Value} {base : Heap} {a : Ad}
/-! ### _law_folds -/
abbrev nFolds : List Str := ["_law_cup_here", "_law_most", "_law_many", "_law_found", "_law_step", "_law_way", "_law_turn"]
theorem scFolds : FnScope nFolds ["_law_cup_here", "_law_most"] (defScope sFolds) := ⟨rfl, rfl, rfl, by decide +kernel, rfl, by decide +kernel, by decide +kernel⟩
def spFolds : Sp := fun vs H Q _ => ∃ c : Addr, vs = [.ref c, .int 3] ∧ Cu c H ∧ ∀ (fs : List Int) v H', fs.length ≤ 3 → (∀ k ∈ fs, -100 ≤ k ∧ k ≤ 100) → Is (tI fs) v H' → Cu c H' → Oth c H H' → Q v H'
theorem ok_folds (T : Txt K mg a) : FnOk P w K mg base CX0 3 a.folds.a a.folds.fd ["_law_cup_here", "_law_most"] spFolds := by
  have GR := ok_roll (P := P) (w := w) (base := base) T
  have GS := ok_some (P := P) (w := w) (base := base) T
  refine T.folds.fn.ok scFolds (fun vs H Q E ⟨_, e, _⟩ => by rw [e]; rfl) (fun cdv A outer s H vs Q E hr h => ?_)
  obtain ⟨c, rfl, hc, q⟩ := h
  refine ⟨_, pss_cons (ps_set (i := 2) scFolds.nd rfl (.inl rfl) (pe_call GR (hr.mono (by decide)) (by rfl) T.roll.mg T.roll.fn.kp T.roll.bd .nil pass0 (pa_cons (pv 0) (pa_cons (pe_op op_add (pv 1) pe_int) pa_nil))))
    (pss_cons (ps_par (i := 3) (j := 4) rfl scFolds.nd rfl rfl (by decide) rfl rfl (pa_cons (pe_tup (pa_cons (pe_op op_sub (pe_call GR (hr.mono (by decide)) (by rfl) T.roll.mg T.roll.fn.kp T.roll.bd .nil pass0 (pa_cons (pv 0) (pa_cons pe_int pa_nil))) pe_int) pa_nil))
        (pa_cons (pe_op op_add pe_int (pe_call GR (hr.mono (by decide)) (by rfl) T.roll.mg T.roll.fn.kp T.roll.bd .nil pass0 (pa_cons (pv 0) (pa_cons pe_int pa_nil)))) pa_nil)) rfl)
    (pss_cons (ps_while PassesOwn.never (pt_cmpR op_lt (pe_callB call_len_seq (by rfl) T.bLen boot_len (pa_cons (pv 3) pa_nil)) (pv 2) (nomark _))
      (pss_cons (ps_set (i := 5) scFolds.nd rfl (.inl rfl) (pe_call GR (hr.mono (by decide)) (by rfl) T.roll.mg T.roll.fn.kp T.roll.bd .nil pass0 (pa_cons (pv 0) (pa_cons pe_int pa_nil))))
      (pss_cons (ps_if (pt_cmpR op_gt (pv 5) pe_int (nomark _)) (pss_one (ps_set (i := 4) scFolds.nd rfl (.inl rfl) (pe_call GS hr (by rfl) T.some_.mg T.some_.fn.kp T.some_.bd .nil pass0 (pa_cons (pv 0)
          (pa_cons (pe_lst (pa_cons pe_int (pa_cons pe_int (pa_cons pe_int (pa_cons pe_int (pa_cons pe_int (pa_cons pe_int (pa_cons pe_int pa_nil)))))))) pa_nil))))) pss_nil)
      (pss_cons (ps_set (i := 6) scFolds.nd rfl (.inl rfl) (pe_call GS hr (by rfl) T.some_.mg T.some_.fn.kp T.some_.bd .nil pass0 (pa_cons (pv 0)
          (pa_cons (pe_lst (pa_cons (pv 4) (pa_cons (pe_un un_neg (pv 4)) (pa_cons (pv 4) (pa_cons (pe_ifExp (pt_cmpR op_eq (pv 5) pe_int (nomark _)) pe_int (pe_un un_neg (pv 4))) pa_nil))))) pa_nil))))
      (pss_one (ps_set (i := 3) scFolds.nd rfl (.inl rfl) (pe_op op_catA (pv 3) (pe_tup (pa_cons (pe_op op_add (pe_ix ix_tup (pv 3) (pe_un un_neg pe_int) (by intro _ _; rfl)) (pv 6)) pa_nil)))))))))
    (pss_one (ps_ret (pe_slice sl_tupA (pv 3) po_none (po_some (pv 2))))))), ?_⟩
  refine ec_roll rfl hc (ev_es (es_op (s1 := shI 3) (s2 := shI 1) (es_var (i := 1) rfl (is_v.mpr rfl)) es_c (rs_I0 (g := fun i j => .int (i + j))))) (by decide) (by decide) fun many H1 m0 m1 hc1 ho1 => ?_
  refine ec_roll rfl hc1 ev_c (by decide) (by decide) fun r1 H2 r10 r11 hc2 ho2 => ?_
  refine ⟨_, _, rfl, rfl, by show 1 ≤ sizeLine; decide, fun p2 hp2 => ?_⟩
  have hc2' : Cu c (upd H2 p2 (.tup [.int (r1 - 7)])) := hc2.mono (Ex.new hp2)
  refine ec_roll rfl hc2' ev_c (by decide) (by decide) fun r2 H3 r20 r21 hc3 ho3 => ?_
  refine ⟨_, _, rfl, rfl, _, _, rfl, ?_⟩
  have hf : Is (tI [r1 - 7]) (.ref p2) H3 := Is.oth hc2' ho3 (tupS_tI _) (is_tI.mpr ⟨p2, rfl, upd_same⟩)
  have ho : Oth c H H3 := (ho1.trans ho2).trans ((Oth.of (Ex.new hp2)).trans ho3)
  refine q_while (fun μ σ' H' => ∃ (fs : List Int) (vf : V) (st : Int) (c5 c6 : Option V), σ' = [some (.ref c), some (.int 3), some (.int many), some vf, some (.int st), c5, c6] ∧ Is (tI fs) vf H' ∧ Cu c H' ∧ Oth c H H' ∧ 1 ≤ fs.length ∧ fs.length ≤ 4 ∧ (∀ k ∈ fs, -(10 * (fs.length : Int)) ≤ k ∧ k ≤ 10 * (fs.length : Int)) ∧ 1 ≤ st ∧ st ≤ 10 ∧ μ = (many - fs.length).toNat) _
    ⟨[r1 - 7], .ref p2, 1 + r2, none, none, rfl, hf, hc3, ho, Nat.le_refl _, by show 1 ≤ 4; decide, fun k hk => by have e := List.mem_singleton.mp hk; simp only [List.length_singleton]; omega, by omega, by omega, rfl⟩ fun μ σ' H' hW => ?_
  obtain ⟨fs, vf, st, c5, c6, rfl, hfs, hcw, how, l1, l4, hb, s1, s2, rfl⟩ := hW
  have htest := et_T (es_op (es_is (es_cb (es_cons (es_var (i := 3) (σ := [some (.ref c), some (.int 3), some (.int many), some vf, some (.int st), c5, c6]) rfl hfs) es_nil) (rcs_lenT (K := K))) (by rw [shs_len])) (es_var (i := 2) (s := shI many) rfl (is_v.mpr rfl)) (rs_I0 (g := fun i j => .bl (decide (i < j))) (i := (fs.length : Int)) (j := many)))
  refine ⟨_, htest, fun z H4 e4 => ?_, fun z H4 e4 => ?_⟩
  · have hlt := of_decide_eq_true z
    refine ⟨fun σ2 H2 => ∃ (fs' : List Int) (vf : V) (st : Int) (c5 c6 : Option V), fs'.length = fs.length + 1 ∧ σ2 = [some (.ref c), some (.int 3), some (.int many), some vf, some (.int st), c5, c6] ∧ Is (tI fs') vf H2 ∧ Cu c H2 ∧ Oth c H H2 ∧ (∀ k ∈ fs', -(10 * (fs'.length : Int)) ≤ k ∧ k ≤ 10 * (fs'.length : Int)) ∧ 1 ≤ st ∧ st ≤ 10,
      fun σ2 H2 ⟨fs', vf, st, c5, c6, hl, e, a1, a2, a3, a4, a5, a6⟩ => ⟨_, by omega, fs', vf, st, c5, c6, e, a1, a2, a3, by omega, by omega, a4, a5, a6, rfl⟩, ?_⟩
    have hc4 := hcw.mono e4
    refine ec_roll rfl hc4 ev_c (by decide) (by decide) fun way H5 w0 w1 hc5 ho5 => ?_
    have hf5 : Is (tI fs) vf H5 := Is.oth hc4 ho5 (tupS_tI _) (hfs.mono e4)
    have ho05 := (how.trans (Oth.of e4)).trans ho5
    have tail : ∀ (st : Int) (H6 : Hp), 1 ≤ st → st ≤ 10 → Is (tI fs) vf H6 → Cu c H6 → Oth c H H6 → tSeq (tAsg (tCall spSome [] E0 (tCons (tVar 0) (tCons (tLst (tCons (tVar 4) (tCons (tUn (rU fun i => .int (-i)) (tVar 4)) (tCons (tVar 4) (tCons (tIf (tTest (tOp rEq (tVar 5) (tC (.int 0)))) (tC (.int 0)) (tUn (rU fun i => .int (-i)) (tVar 4))) tNil))))) tNil))) (gName 6))
        (tAsg (tOp (rCatA K) (tVar 3) (tTup (tCons (tOp (rI0 fun i j => .int (i + j)) (tOp (rIxT K) (tVar 3) (tUn (rU fun i => .int (-i)) (tC (.int 1)))) (tVar 6)) tNil))) (gName 3))
        { nx := fun σ2 H2 => ∃ (fs' : List Int) (vf : V) (st : Int) (c5 c6 : Option V), fs'.length = fs.length + 1 ∧ σ2 = [some (.ref c), some (.int 3), some (.int many), some vf, some (.int st), c5, c6] ∧ Is (tI fs') vf H2 ∧ Cu c H2 ∧ Oth c H H2 ∧ (∀ k ∈ fs', -(10 * (fs'.length : Int)) ≤ k ∧ k ≤ 10 * (fs'.length : Int)) ∧ 1 ≤ st ∧ st ≤ 10, rt := Q, ct := fun σ2 H2 => ∃ (fs' : List Int) (vf : V) (st : Int) (c5 c6 : Option V), fs'.length = fs.length + 1 ∧ σ2 = [some (.ref c), some (.int 3), some (.int many), some vf, some (.int st), c5, c6] ∧ Is (tI fs') vf H2 ∧ Cu c H2 ∧ Oth c H H2 ∧ (∀ k ∈ fs', -(10 * (fs'.length : Int)) ≤ k ∧ k ≤ 10 * (fs'.length : Int)) ∧ 1 ≤ st ∧ st ≤ 10, bk := fun σ' H' => tRet (tSl (rSlA K) (tVar 3) tNoPart (tPart (tVar 2))) { nx := fun _ H' => Q .non H', rt := Q } σ' H' }
        [some (.ref c), some (.int 3), some (.int many), some vf, some (.int st), some (.int way), c6] H6 := by
      intro st H6 s1 s2 hf6 hc6 ho6
      have h4 : EvS (tVar 4) [some (.ref c), some (.int 3), some (.int many), some vf, some (.int st), some (.int way), c6] H6 (shI st) := es_var rfl (is_v.mpr rfl)
      have hlast : ∃ z, -st ≤ z ∧ z ≤ st ∧ EvS (tIf (tTest (tOp rEq (tVar 5) (tC (.int 0)))) (tC (.int 0)) (tUn (rU fun i => .int (-i)) (tVar 4))) [some (.ref c), some (.int 3), some (.int many), some vf, some (.int st), some (.int way), c6] H6 (shI z) := by
        have ht := et_T (es_op (es_var (i := 5) (σ := [some (.ref c), some (.int 3), some (.int many), some vf, some (.int st), some (.int way), c6]) (H := H6) (s := shI way) rfl (is_v.mpr rfl)) (es_c (v := .int 0)) (rs_eq (x := .int way) (y := .int 0) rfl))
        by_cases hw : V.int way = V.int 0
        · exact ⟨0, by omega, by omega, es_if (et_is ht (decide_eq_true hw)) (fun _ => es_c) fun z => by cases z⟩
        · exact ⟨-st, by omega, by omega, es_if (et_is ht (decide_eq_false hw)) (fun z => by cases z) fun _ => es_un h4 rus_neg⟩
      obtain ⟨zl, zl1, zl2, hzl⟩ := hlast
      refine ec_some (ns := [st, -st, st, zl]) rfl hc6 (es_lst (ss := shs [st, -st, st, zl]) (es_cons h4 (es_cons (es_un h4 rus_neg) (es_cons h4 (es_cons hzl es_nil)))) (by show 4 ≤ 100000; decide)) (by show 4 ≠ 2; decide) (by show 0 < 4; decide) (by show 4 < 1000; decide) fun turn hturn H7 hc7 ho7 => ?_
      have ht2 : -10 ≤ turn ∧ turn ≤ 10 := by
        simp only [List.mem_cons, List.not_mem_nil, or_false] at hturn
        omega
      have hf7 : Is (tI fs) vf H7 := Is.oth hc6 ho7 (tupS_tI _) hf6
      have hne : fs ≠ [] := fun e => by rw [e] at l1; simp at l1
      refine ss_asg (s := tI (fs ++ [fs.getLast hne + turn])) (es_is (es_op (es_var (i := 3) (s := tI fs) rfl hf7) (es_tup (ss := [shI (fs.getLast hne + turn)]) (es_cons (es_op (s1 := shI (fs.getLast hne)) (s2 := shI turn) (es_op (es_var (i := 3) (s := tI fs) rfl hf7) (es_un (s1 := shI 1) (s3 := shI (-1)) es_c rus_neg) (rs_ixT (atI_last hne))) (es_var (i := 6) rfl (is_v.mpr rfl)) rs_I0) es_nil) (by show 1 ≤ 100000; decide)) (rs_catA (by rw [shs_len]; show _ + 1 ≤ _; omega))) (by
        unfold tI shs
        rw [List.map_append]
        rfl)) fun v8 H8 e8 i8 => ?_
      refine ⟨fs ++ [fs.getLast hne + turn], v8, st, some (.int way), some (.int turn), by rw [List.length_append]; rfl, rfl, i8, hc7.mono e8, (ho6.trans ho7).trans (Oth.of e8), fun k hk => ?_, s1, s2⟩
      rw [List.length_append, List.length_singleton]
      rcases List.mem_append.mp hk with h | h
      · have := hb k h
        omega
      · have hg := hb _ (List.getLast_mem hne)
        have e := List.mem_singleton.mp h
        omega
    refine q_when (et_T (es_op (s1 := shI way) (s2 := shI 3) (es_var (i := 5) rfl (is_v.mpr rfl)) es_c (rs_I0 (g := fun i j => .bl (decide (j < i)))))) (fun z H6 e6 => ?_) fun z H6 e6 => ?_
    · refine ec_some (ns := [1, 2, 3, 4, 6, 7, 10]) rfl (hc5.mono e6) (es_lst (ss := shs [1, 2, 3, 4, 6, 7, 10]) (es_cons es_c (es_cons es_c (es_cons es_c (es_cons es_c (es_cons es_c (es_cons es_c (es_cons es_c es_nil))))))) (by decide)) (by decide) (by decide) (by decide) fun st2 hst2 H7 hc7 ho7 => ?_
      have hb2 : 1 ≤ st2 ∧ st2 ≤ 10 := by
        simp only [List.mem_cons, List.not_mem_nil, or_false] at hst2
        omega
      exact tail st2 H7 hb2.1 hb2.2 (Is.oth (hc5.mono e6) ho7 (tupS_tI _) (hf5.mono e6)) hc7 ((ho05.trans (Oth.of e6)).trans ho7)
    · exact tail st H6 s1 s2 (hf5.mono e6) (hc5.mono e6) (ho05.trans (Oth.of e6))
  · have hsl : EvS (tSl (rSlA K) (tVar 3) tNoPart (tPart (tVar 2))) [some (.ref c), some (.int 3), some (.int many), some vf, some (.int st), c5, c6] H4 (tI (fs.take many.toNat)) := by
      have z := es_slT (K := K) (lo := none) (hi := some (many.toNat : Int)) (es_var (i := 3) (s := tI fs) rfl (hfs.mono e4)) (eo_none) (eo_someS (es_var (i := 2) (σ := [some (.ref c), some (.int 3), some (.int many), some vf, some (.int st), c5, c6]) (s := shI many.toNat) rfl (is_v.mpr (by rw [Int.toNat_of_nonneg m0]))))
      rw [cut_to] at z
      unfold tI shs
      rw [List.map_take]
      exact z
    refine ss_ret hsl fun v H5 e5 i5 => q _ v H5 (by rw [List.length_take]; omega) (fun k hk => ?_) i5 ((hcw.mono e4).mono e5) ((how.trans (Oth.of e4)).trans (Oth.of e5))
    have h := hb k (List.mem_of_mem_take hk)
    omega
/-! ### _law_lot -/
abbrev nLLot : List Str := ["_law_cup_here", "_law_most", "_law_turn"]
theorem scLLot : FnScope nLLot ["_law_cup_here", "_law_most"] (defScope sLLot) := ⟨rfl, rfl, rfl, by decide +kernel, rfl, by decide +kernel, by decide +kernel⟩
def spLLot : Sp := fun vs H Q _ => ∃ c : Addr, vs = [.ref c, .int 4] ∧ Cu c H ∧ ∀ (ns : List Int) v H', Asc ns → ns.length ≤ 4 → (∀ k ∈ ns, -12 ≤ k ∧ k ≤ 12) → Is (tI ns) v H' → Cu c H' → Oth c H H' → Q v H'
theorem ok_lLot (T : Txt K mg a) : FnOk P w K mg base CX0 2 a.lLot.a a.lLot.fd ["_law_cup_here", "_law_most"] spLLot := by
  have GR := ok_roll (P := P) (w := w) (base := base) T
  refine T.lLot.fn.ok scLLot (fun vs H Q E ⟨_, e, _⟩ => by rw [e]; rfl) (fun cdv A outer s H vs Q E hr h => ?_)
  obtain ⟨c, rfl, hc, q⟩ := h
  refine ⟨_, pss_one (ps_ret (pe_callTy call_tuple_of (by rfl) T.bTuple boot_tuple (pa_cons (pe_callB (cr_sortedSet rfl) (by rfl) T.bSorted boot_sorted (pa_cons (pe_callTy (cr_setOf rfl) (by rfl) T.bSet boot_set (pa_cons
    (pe_lc (own := [("_law_turn", 2)]) (g := gName 2) (tt := tYes) (te := tOp (rI0 fun i j => .int (i - j)) (tCall spRoll [] E0 (tCons (tVar 0) (tCons (tC (.int 25)) tNil))) (tC (.int 12))) rfl scLLot.nd
      (pi_range1 (by rfl) T.bRange (pa_cons (by exact pe_call GR hr (by rfl) T.roll.mg T.roll.fn.kp T.roll.bd .nil pass0 (pa_cons (pv 0) (pa_cons (pe_op op_add (pv 1) pe_int) pa_nil))) pa_nil)) (blkOk_by (N := nLLot) (sc := defScope sLLot) (by decide +kernel))
      (fun _ _ _ _ _ => pg_name (i := 2) scLLot.nd rfl (.inl rfl)) (fun _ _ _ _ _ => pts_nil) (fun _ _ _ _ _ => pe_op op_sub (by exact pe_call GR hr (by rfl) T.roll.mg T.roll.fn.kp T.roll.bd .nil pass0 (pa_cons (pv 0) (pa_cons pe_int pa_nil))) pe_int)) pa_nil)) pa_nil)) pa_nil))), ?_⟩
  refine ec_roll rfl hc (ev_es (es_op (s1 := shI 4) (s2 := shI 1) (es_var (i := 1) rfl (is_v.mpr rfl)) es_c (rs_I0 (g := fun i j => .int (i + j))))) (by decide) (by decide) fun n H1 n0 n1 hc1 ho1 => ?_
  refine ⟨n, rfl, by omega, by omega, fun D hD => ?_⟩
  have hDc : D ≠ c := fun z => by
    obtain ⟨x, y, e⟩ := hc1
    rw [← z, hD] at e
    cases e
  have oD : ∀ {H2 : Hp} {o : HO}, Oth c H1 H2 → H2 D = none → Oth c H1 (upd H2 D o) := fun {H2 o} h n b u hb e => by
    rw [upd_ne (fun z => by rw [z, hD] at e; cases e)]
    exact h b u hb e
  have oD2 : ∀ {H2 : Hp} {o : HO}, Oth c H1 H2 → Oth c H1 (upd H2 D o) := fun {H2 o} h b u hb e => by
    rw [upd_ne (fun z => by rw [z, hD] at e; cases e)]
    exact h b u hb e
  have cD : ∀ {H2 : Hp} {o : HO}, Cu c H2 → Cu c (upd H2 D o) := fun {H2 o} ⟨x, y, e⟩ => ⟨x, y, by rw [upd_ne (Ne.symm hDc)]; exact e⟩
  refine lc_range (lo := 0) (n := n.toNat) (fun i H' => Cu c H' ∧ Oth c H1 H' ∧ ∃ ms : List Int, H' D = some (.lst (ms.map V.int)) ∧ ms.length = i ∧ ∀ m ∈ ms, -12 ≤ m ∧ m ≤ 12) ⟨cD hc1, oD2 (Oth.refl _ _), [], upd_same, rfl, fun m hm => by cases hm⟩ (fun i H' hi hP => ?_) fun H' hP => ?_
  · obtain ⟨hc2, ho2, ms, hms, hml, hmb⟩ := hP
    refine ⟨rfl, ?_⟩
    refine (show ∀ A B : Prop, A → (if true = true then A else B) from fun A B h => by rw [if_pos rfl]; exact h) _ (Cu c H' ∧ Oth c H1 H' ∧ ∃ ms : List Int, H' D = some (.lst (ms.map V.int)) ∧ ms.length = i + 1 ∧ ∀ m ∈ ms, -12 ≤ m ∧ m ≤ 12) ?_
    rw [if_pos rfl]
    refine ec_roll rfl hc2 ev_c (by decide) (by decide) fun r H3 r0 r1 hc3 ho3 => ?_
    refine ⟨r, 12, rfl, rfl, ms.map V.int, ho3 _ _ hDc hms, sz_lt (by rw [List.length_map]; omega), cD hc3, oD2 (ho2.trans ho3), ms ++ [r - 12], ?_, by rw [List.length_append, hml]; rfl, fun m hm => ?_⟩
    · rw [upd_same, List.map_append]
      rfl
    · rcases List.mem_append.mp hm with h | h
      · exact hmb m h
      · have := List.mem_singleton.mp h
        omega
  · obtain ⟨hc2, ho2, ms, hms, hml, hmb⟩ := hP
    refine ⟨D, ms, rfl, .inl (SqL.of hms), by omega, fun p hp => ⟨p, _, _, rfl, upd_same, by have := sd_le ms; omega, fun ys r up mem len hr2 => ?_⟩⟩
    have em : ys = sd ms := asc_ext up (asc_sd ms) fun k => by rw [mem k, decide_eq_true_eq, mem_sd]
    subst em
    refine ⟨r, _, rfl, .inl ⟨SqL.of upd_same, fun t ht => ?_⟩⟩
    have e1 := (Ex.new hp).trans ((Ex.new hr2).trans (Ex.new (o := .tup ((sd ms).map V.int)) ht))
    exact q (sd ms) _ _ (asc_sd ms) (by have := sd_le ms; omega) (fun k hk => hmb k (mem_sd.mp hk)) (is_tI.mpr ⟨t, rfl, upd_same⟩) (hc2.mono e1) ((ho1.trans ho2).trans (Oth.of e1))
end
end K46

/-! KT: several except clauses, some with a name; _law_error. -/
namespace K46
open PySem PySem.Spec PyProof.Rows L2
abbrev Cl := Value × Option Nat × (Addr → Value → Option Addr → TS)
def endsAs (D : Ends) (i : Nat) : Ends := { nx := fun σ' H' => D.nx (σ'.set i none) H', rt := D.rt, bk := fun σ' H' => D.bk (σ'.set i none) H', ct := fun σ' H' => D.ct (σ'.set i none) H' }
/-- what the clauses wish of an exception of the body, one after the other -/
def wMix (K : PySem.W.Frag) (Wout : WX) (D : Ends) : List Cl → WX
  | [] => Wout
  | (c, none, ts) :: r => fun cls d σ H => ∃ b, PySem.W.exmOne K cls c = some b ∧ (b = true → ∀ a, H a = none → ts a cls d D σ H) ∧ (b = false → wMix K Wout D r cls d σ H)
  | (c, some i, ts) :: r => fun cls d σ H => ∃ b, PySem.W.exmOne K cls c = some b ∧ (b = true → ∀ a, H a = none → ts a cls d (endsAs D i) (σ.set i (some (.ref a))) H) ∧ (b = false → wMix K Wout D r cls d σ H)
inductive MixOk (X : Cx) : List ExceptHandler → List Cl → Prop
  | nil : MixOk X [] []
  | cons {x : Str} {c : Value} {ts : Addr → Value → Option Addr → TS} {b₀ : Stmt} {suite : List Stmt} {np pos' : Pos} {hds : List ExceptHandler} {l : List Cl} (hc : Names X x c)
      (hsu : ∀ (a : Addr) (oe : Obj) (cls : Value) (d : Option Addr) (pn : List (Addr × Obj)), Zc cls d oe → (∃ vs, oe.data = .fields vs) → PSs (X.suite a ((a, oe) :: pn)) (b₀ :: suite) (ts a cls d)) (r : MixOk X hds l) :
      MixOk X (.ExceptHandler (some (.Name x np)) none (b₀ :: suite) pos' :: hds) ((c, none, ts) :: l)
  | as {x n : Str} {i : Nat} {c : Value} {ts : Addr → Value → Option Addr → TS} {b₀ : Stmt} {suite : List Stmt} {np pos' : Pos} {hds : List ExceptHandler} {l : List Cl} (hN : X.N.Nodup) (hi : X.N[i]? = some n) (hln : X.env.kindOf n = some .local) (hc : Names X x c)
      (hsu : ∀ (a : Addr) (oe : Obj) (cls : Value) (d : Option Addr) (pn : List (Addr × Obj)), Zc cls d oe → (∃ vs, oe.data = .fields vs) → PSs (X.suite a ((a, oe) :: pn)) (b₀ :: suite) (ts a cls d)) (r : MixOk X hds l) :
      MixOk X (.ExceptHandler (some (.Name x np)) (some n) (b₀ :: suite) pos' :: hds) ((c, some i, ts) :: l)
section
variable {X : Cx} {body : List Stmt} {h₀ : ExceptHandler} {hds : List ExceptHandler} {l : List Cl} {pos : Pos} {tb : WX → TS} {Wout : WX}
theorem ps_try_mix (hs : X.stack = X.env :: X.outer) (hf : X.env.frame = some X.env.locals) (tk : Takes X Wout)
    (hb : ∀ (W : WX) (pn : List (Addr × Obj)) (xe : Value → Shared → Prop), Takes (X.tr pn xe) W → PassesOwn (model X.prog X.w) X.A X.env xe → PSs (X.tr pn xe) body (tb W))
    (hh : MixOk X (h₀ :: hds) l) : PS X (.Try body (h₀ :: hds) [] [] pos) (fun D σ H => tb (wMix X.K Wout D l) D σ H) := by
  refine ⟨fun pins s σ H D I h => ?_⟩
  have ok := I.ok
  have hfr : X.A.frames = some (X.env :: X.outer) := by rw [ok.frames, hs]
  refine wpAny_Try_except ?_
  refine wpAny_mono ((hb (wMix X.K Wout D l) (X.pn ++ pins) (fun e s₁ => wpAny (model X.prog X.w) X.A (noteFrame e X.env) (fun _ s₂ => wpAny (model X.prog X.w) X.A (setFlight e none) (fun _ s₃ =>
    wpAny (model X.prog X.w) X.A (handleBy e X.env (h₀ :: hds)) (SP X pins D) X.xe s₃) X.xe s₂) X.xe s₁) (fun u s' xx => ?_) PassesOwn.looking).run [] s σ H D (I.toTry _) h) (fun f s1 hsp => ?_) (fun e s1 he => he)
  · obtain ⟨a, B, sI, pins', σ', H', cls, d, rfl, J', nb, up, sky, na, os, ag, w⟩ := xx
    have J : Inv X pins σ' H' sI := J'.ofTry ok
    have sky' : Sky B (X.env :: X.outer) a (Zc cls d) X.env.locals s'.heap := by rw [← hs]; exact sky
    show wpAny (model X.prog X.w) X.A (noteFrame (.ref a) X.env) _ _ _
    refine Sky.land Zc.steady hfr hf sky' fun h3 fl3 up3 => ?_
    have J3 : Inv X pins σ' H' { s' with heap := h3 } := J.landed nb fl3.1 (up.trans up3) os ag
    obtain ⟨oe3, vs3, he3, hz3, hd3⟩ := fl3.there
    have notFr : ∀ {h : Heap} {o : Obj} {vs : Array Value}, h.FunFrames B (X.env :: X.outer) → h.get? a = some o → o.data = .fields vs → a ∉ frs (X.env :: X.outer) := fun {h o vs} ff e dd hm => by
      obtain ⟨_, o', e', hnf⟩ := ff.mem hm
      rw [e] at e'; cases e'
      exact hnf _ dd
    have nfr := notFr fl3.2.2.1 he3 hd3
    have nL : a ≠ X.env.locals := fun z => nfr (List.mem_filterMap.mpr ⟨X.env, List.mem_cons_self, by rw [hf, z]⟩)
    have nF : a ∉ X.fs := fun hm => by
      obtain ⟨e, he, q⟩ := List.mem_filterMap.mp hm
      exact nfr (List.mem_filterMap.mpr ⟨e, List.mem_cons_of_mem _ he, q⟩)
    have S3 := J3.suite he3 hd3 na nL nF
    have go : ∀ {hds' : List ExceptHandler} {l' : List Cl}, MixOk X hds' l' → wMix X.K Wout D l' cls d σ' H' →
        wpAny (model X.prog X.w) X.A (handleBy (.ref a) X.env hds') (SP X pins D) X.xe { s' with heap := h3 } := by
      intro hds' l' hk
      induction hk with
      | nil =>
        intro w
        refine wpAny_handleBy_nil ?_
        obtain ⟨k1, k2, k3, oe, vs, T, oT, ts', he, hz, hd, h1, hr⟩ := id fl3
        unfold PySem.passOn
        refine wpAny_bind (wpAny_field he hd h1 ?_)
        rw [if_neg (show ¬ ((Value.ref T == Value.none) = true) from by simp)]
        have fin : wpAny (model X.prog X.w) X.A (setFlight (.ref a) X.env.frame) (fun _ s4 => wpAny (model X.prog X.w) X.A (throw (.ref a) : Sem Flow) (SP X pins D) X.xe s4) X.xe { s' with heap := h3 } := by
          rw [hf]
          refine HandSPX.setFlight_upZ fl3 fun h4 hh4 up4 => wpAny_throw (tk _ _ ?_)
          exact ⟨a, B, sI, pins, σ', H', cls, d, rfl, J, nb, (up.trans up3).trans up4, .inr (.inr (by rw [hs]; exact hh4)), na, os, ag, w⟩
        first
          | exact wpAny_bind (wpAny_pure (wpAny_bind fin))
          | exact wpAny_bind fin
      | @cons x c ts b₀ suite np pos' hds2 l2 hc hsu r ih =>
        intro w
        obtain ⟨b, hb1, hyes, hno⟩ := w
        refine wpAny_handleBy_cons (codeAny_handlers_test ?_) (by intro q; cases q)
        have LT : PySem.W.Looks (model X.prog X.w) h3 (typeOf (.ref a)) cls := fun A Q E s k q => wpAny_typeOf_ref (k _ _ he3) (by rw [hz3.1]; exact q)
        have LM := PySem.W.exm_one (M := model X.prog X.w) (J3.kIn) LT hb1
        have test : ∀ {Q : Value → Shared → Prop} {E : Value → Shared → Prop}, Q c { s' with heap := h3 } → wpAny (model X.prog X.w) (X.A.mark (some (.ref a))) (eval (.Name x np) X.env) Q E { s' with heap := h3 } := fun {Q E} q => by
          obtain ⟨hg, hdbg, hm | ⟨hm, hv, hnn⟩⟩ := hc
          · exact ld_glob (X := X.suite a ((a, oe3) :: (X.pn ++ pins))) S3 hg hm q hdbg
          · exact ld_blt (X := X.suite a ((a, oe3) :: (X.pn ++ pins))) S3 hg hm hv q hnn hdbg
        refine test (LM.here ?_)
        cases b with
        | true =>
          refine codeAny_handlers_suite ?_
          refine HandSPX.lands_againZ fl3 fun h4 fl4 up4 => ?_
          have J4 : Inv X pins σ' H' { s' with heap := h4 } := J.landed nb fl4.1 ((up.trans up3).trans up4) os ag
          obtain ⟨oe4, vs4, he4, hz4, hd4⟩ := fl4.there
          have S4 := J4.suite he4 hd4 na nL nF
          refine wpAny_mono ((hsu a oe4 cls d (X.pn ++ pins) hz4 ⟨_, hd4⟩).run [] _ _ H' _ S4 (hyes rfl a na)) (fun f s6 hsp => ?_) (fun _ _ z => False.elim z)
          cases f with
          | next =>
            obtain ⟨σ6, H6, S6, q6⟩ := hsp
            exact ⟨_, _, S6.unsuite ok, q6⟩
          | brk =>
            obtain ⟨σ6, H6, S6, q6⟩ := hsp
            exact ⟨_, _, S6.unsuite ok, q6⟩
          | cont =>
            obtain ⟨σ6, H6, S6, q6⟩ := hsp
            exact ⟨_, _, S6.unsuite ok, q6⟩
          | ret u =>
            obtain ⟨v6, σ6, H6, S6, r6, q6⟩ := hsp
            exact ⟨_, _, _, S6.unsuite ok, r6, q6⟩
        | false =>
          show wpAny _ X.A (handleBy (.ref a) X.env hds2) _ _ _
          exact ih (hno rfl)
      | @as x n i c ts b₀ suite np pos' hds2 l2 hN hi hln hc hsu r ih =>
        intro w
        obtain ⟨b, hb1, hyes, hno⟩ := w
        have hloc : Loc X.env.scope n := .inl hln
        refine wpAny_handleBy_cons (codeAny_handlers_test ?_) (by intro q; cases q)
        have LT : PySem.W.Looks (model X.prog X.w) h3 (typeOf (.ref a)) cls := fun A Q E s k q => wpAny_typeOf_ref (k _ _ he3) (by rw [hz3.1]; exact q)
        have LM := PySem.W.exm_one (M := model X.prog X.w) (J3.kIn) LT hb1
        have test : ∀ {Q : Value → Shared → Prop} {E : Value → Shared → Prop}, Q c { s' with heap := h3 } → wpAny (model X.prog X.w) (X.A.mark (some (.ref a))) (eval (.Name x np) X.env) Q E { s' with heap := h3 } := fun {Q E} q => by
          obtain ⟨hg, hdbg, hm | ⟨hm, hv, hnn⟩⟩ := hc
          · exact ld_glob (X := X.suite a ((a, oe3) :: (X.pn ++ pins))) S3 hg hm q hdbg
          · exact ld_blt (X := X.suite a ((a, oe3) :: (X.pn ++ pins))) S3 hg hm hv q hnn hdbg
        refine test (LM.here ?_)
        cases b with
        | true =>
          refine codeAny_handlers_suite_as ?_
          refine HandSPX.lands_againZ fl3 fun h4 fl4 up4 => ?_
          have J4 : Inv X pins σ' H' { s' with heap := h4 } := J.landed nb fl4.1 ((up.trans up3).trans up4) os ag
          obtain ⟨oe4, vs4, he4, hz4, hd4⟩ := fl4.there
          have S4 := J4.suite he4 hd4 na nL nF
          refine store_ok (X := X.suite a ((a, oe4) :: (X.pn ++ pins))) (v := .ref a) S4 hN hi hloc rfl (fun s5 S5 => ?_) (.inr hln)
          refine wpAny_mono ((hsu a oe4 cls d (X.pn ++ pins) hz4 ⟨_, hd4⟩).run [] s5 _ H' _ S5 (hyes rfl a na)) (fun f s6 hsp => ?_) (fun _ _ z => False.elim z)
          have end_ : ∀ {σ6 : L2.St} {H6 : Hp} {Q : Shared → Prop}, Inv (X.suite a ((a, oe4) :: (X.pn ++ pins))) [] σ6 H6 s6 → (∀ s7, Inv X pins (σ6.set i none) H6 s7 → Q s7) →
              wpAny (model X.prog X.w) X.A (do bindName X.env n .none; unbindBehindTheSuite X.env n pos') (fun _ s7 => Q s7) X.xe s6 := fun {σ6 H6 Q} S6 hq => gone_ok (S6.unsuite ok) hN hi hln hq
          cases f with
          | next =>
            obtain ⟨σ6, H6, S6, q6⟩ := hsp
            exact end_ S6 fun s7 J7 => ⟨_, _, J7, q6⟩
          | brk =>
            obtain ⟨σ6, H6, S6, q6⟩ := hsp
            exact end_ S6 fun s7 J7 => ⟨_, _, J7, q6⟩
          | cont =>
            obtain ⟨σ6, H6, S6, q6⟩ := hsp
            exact end_ S6 fun s7 J7 => ⟨_, _, J7, q6⟩
          | ret u =>
            obtain ⟨v6, σ6, H6, S6, r6, q6⟩ := hsp
            exact end_ S6 fun s7 J7 => ⟨_, _, _, J7, r6, q6⟩
        | false =>
          show wpAny _ X.A (handleBy (.ref a) X.env hds2) _ _ _
          exact ih (hno rfl)
    exact go hh w
  · cases f with
    | next =>
      obtain ⟨σ', H', J', q⟩ := hsp
      exact wpAny_execs_nil ⟨σ', H', J'.ofTry ok, q⟩
    | brk =>
      obtain ⟨σ', H', J', q⟩ := hsp
      exact ⟨σ', H', J'.ofTry ok, q⟩
    | cont =>
      obtain ⟨σ', H', J', q⟩ := hsp
      exact ⟨σ', H', J'.ofTry ok, q⟩
    | ret u =>
      obtain ⟨v, σ', H', J', r, q⟩ := hsp
      exact ⟨v, σ', H', J'.ofTry ok, r, q⟩
theorem takes_len {W : WX} (tk : Takes X W) : Takes X (fun cls d σ H => σ.length = X.N.length → W cls d σ H) := fun u s' xx => by
  obtain ⟨a, B, sI, pins', σ', H', cls, d, rfl, J', nb, up, sky, na, os, ag, w⟩ := xx
  exact tk _ _ ⟨a, B, sI, pins', σ', H', cls, d, rfl, J', nb, up, sky, na, os, ag, w J'.len⟩
end
/-! ### _law_error -/
structure ErrT (K : PySem.W.Frag) (cF cL cM cE : Addr) : Prop where
  ff : PySem.W.exmOne K (.ref cF) (.ref cF) = some true
  lf : PySem.W.exmOne K (.ref cL) (.ref cF) = some false
  ll : PySem.W.exmOne K (.ref cL) (.ref cL) = some true
  mf : PySem.W.exmOne K (.ref cM) (.ref cF) = some false
  ml : PySem.W.exmOne K (.ref cM) (.ref cL) = some false
  mm : PySem.W.exmOne K (.ref cM) (.ref cM) = some true
  xf : XfC K cM
/-- what is wanted of the errors -/
def EErr (cF cL cM : Addr) (Q : VK) : XK := fun cls d H => (cls = .ref cF ∧ Q (.str "folds") H) ∨ (cls = .ref cL ∧ Q (.str "lot") H) ∨
  (cls = .ref cM ∧ ∃ dd, d = some dd ∧ H dd = some (.xd [(("limit" : Str), V.int 14)]) ∧ Q (.str ("many" ++ toString (14 : Int))) H)
def TErr (cF cL cM : Addr) : (XK → Hp → VK → Prop) → Hp → VK → Prop := fun tl H Q => tl (EErr cF cL cM Q) H (fun _ H' => Q (.str "") H')
theorem error_gives {X : Cx} {a : Ad} (T : Txt X.K X.mg a) (TE : ErrT X.K a.cFolds a.cLot a.cMany a.cErr) (TI : PySem.W.findIn X.K (.ref a.cMany) "limit" = some none) {x q : Str} {g : Addr} {cdg : Value} :
    LamX.GivesTo X ["_law_call", "e"] x (defScope sError) g cdg (defBody sError) "_law_call" q (TErr a.cFolds a.cLot a.cMany) := by
  intro f c' s H Q tl act hc h
  refine ⟨_, pss_cons (ps_try_mix (X := (cxOf C8.CX0 X.prog X.w X.K X.mg X.base ["_law_call", "e"] x (defScope sError) g cdg X.A X.stack s H C8.E0).nox)
      (tb := fun W D σ H => ∃ Ech : XK, (∀ cls d σ' H', Ech cls d H' → σ'.length = 2 → W cls d σ' H') ∧ σ[0]? = some (some (.ref f)) ∧ H c' = some (LamX.CodeO c' q) ∧ tl Ech H (fun v H1 => D.nx σ H1))
      rfl rfl LamX.takes0 (fun W pn xe tk _ => ?_)
      (.cons ⟨by exact rfl, by decide, .inl T.eFolds.mg⟩ (fun a oe cls d pn _ _ => pss_one (ps_ret pe_str))
        (.cons ⟨by exact rfl, by decide, .inl T.eLot.mg⟩ (fun a oe cls d pn _ _ => pss_one (ps_ret pe_str))
          (.as (i := 1) (show (["_law_call", "e"] : List Str).Nodup by decide) rfl rfl ⟨by exact rfl, by decide, .inl T.eMany.mg⟩ (fun a oe cls d pn hz hf => pss_one (ps_ret (pe_op op_add_str pe_str (pe_callTy call_str_int (by rfl) T.bStr boot_str (pa_cons (pe_xf TE.xf TI hz hf (pv 1)) pa_nil)))))
            (.cons ⟨by exact rfl, by decide, .inl T.eErr.mg⟩ (fun a oe cls d pn _ _ => pss_one (ps_ret pe_str)) .nil))))) (pss_one (ps_ret pe_str)), ?_⟩
  · refine ⟨fun pins s' σ H' D I h' => ?_⟩
    obtain ⟨Ech, hW, h1, h2, h3⟩ := h'
    refine PSs.run (t := tDrop (fun σZ HZ Q => σZ[0]? = some (some (.ref f)) ∧ HZ c' = some (LamX.CodeO c' q) ∧ tl Ech HZ Q)) ?_ pins s' σ H' D I ⟨h1, h2, h3⟩
    exact pss_one (ps_expr (act _ pn xe Ech _ _ (takes_len tk) (fun cls d σ' H' he hl => hW cls d σ' H' he hl)))
  · refine ⟨EErr a.cFolds a.cLot a.cMany Q, fun cls d σ' H' he hl => ?_, rfl, hc, h⟩
    rcases he with ⟨rfl, hq⟩ | ⟨rfl, hq⟩ | ⟨rfl, dd, rfl, hd, hq⟩
    · exact ⟨true, TE.ff, fun _ _ _ => hq, fun z => by cases z⟩
    · exact ⟨false, TE.lf, (fun z => by cases z), fun _ => ⟨true, TE.ll, fun _ _ _ => hq, fun z => by cases z⟩⟩
    · refine ⟨false, TE.mf, (fun z => by cases z), fun _ => ⟨false, TE.ml, (fun z => by cases z), fun _ => ⟨true, TE.mm, fun _ b _ => ?_, fun z => by cases z⟩⟩⟩
      refine ⟨.ref b, List.getElem?_set_self (by omega), rfl, rfl, dd, _, _, rfl, hd, rfl, ?_⟩
      exact ⟨14, rfl, by decide, _, _, rfl, rfl, by decide, hq⟩
end K46

/-! K18: law, the turns. -/
namespace K46
open PySem PySem.Spec PyProof.Rows L2 Evl
abbrev nLaw : List Str := ["_law_script", "_law_cup_here", "_law_turn", "_law_folds_here", "_law_one", "_law_lot_here", "_law_near", "_law_rows", "_law_places", "_law_fewest_here", "_law_calls", "_law_odd", "_law_call"]
theorem scLaw : FnScope nLaw ["_law_script"] (defScope sLaw) := ⟨rfl, rfl, rfl, by decide +kernel, rfl, by decide +kernel, by decide +kernel⟩
abbrev lawSt (i : Nat) : Stmt := (defBody sLaw).getD i (.Pass ⟨0, 0, 0, 0⟩)
abbrev lawX (P : Program) (w : World) (K : PySem.W.Frag) (mg : Str → Option Value) (base : Heap) (fa cc : Addr) (A : Around) (outer : List Env) (s : Shared) (H : Hp) (E : XK) : Cx := (cxOf CX0 P w K mg base nLaw "law" (defScope sLaw) fa (.ref cc) A outer s H E).nox
abbrev lawA (fa cc : Addr) (A : Around) (s : Shared) : Around := A.deeper (envOfC "law" (defScope sLaw) s.heap.objs.size fa (.ref cc))
theorem good_one {one fs : List Int} (h1 : Asc one) (h2 : one.length ≤ 4) (h3 : ∀ k ∈ one, -12 ≤ k ∧ k ≤ 12) (f1 : fs.length ≤ 3) (f2 : ∀ k ∈ fs, -100 ≤ k ∧ k ≤ 100) :
    GoodIn one fs ∧ GoodIn (inkM one fs) fs ∧ (inkM one fs).length ≤ 32 ∧ ∀ k ∈ inkM one fs, -312 ≤ k ∧ k ≤ 312 := by
  have hf : ∀ k ∈ fs, -1000000 ≤ k ∧ k ≤ 1000000 := fun k hk => by have := f2 k hk; omega
  have hl : (inkM one fs).length ≤ 32 := by
    have a := len_inkM fs one
    have b := pow8 f1
    have c : one.length * 2 ^ fs.length ≤ 4 * 8 := Nat.mul_le_mul h2 b
    omega
  have hb : ∀ k ∈ inkM one fs, -312 ≤ k ∧ k ≤ 312 := fun k hk => by
    obtain ⟨p, hp, hr⟩ := mem_inkM.mp hk
    have hp2 := h3 p hp
    have z := far_re fs p 12 100 f2 hp2.1 hp2.2 (by decide) k hr
    omega
  exact ⟨⟨h1, fun k hk => by have := h3 k hk; omega, by omega, f1, hf⟩, ⟨asc_inkM h1, fun k hk => by have := hb k hk; omega, by omega, f1, hf⟩, hl, hb⟩
section
variable {P : Program} {w : World} {K : PySem.W.Frag} {mg : Str → Option Value} {base : Heap} {a : Ad} {fa cc : Addr} {A : Around} {outer : List Env} {s : Shared} {H0 : Hp} {E : XK}
/-- what the head has written -/
structure All (P : Program) (K : PySem.W.Frag) (mg : Str → Option Value) (a : Ad) : Prop where
  T : Txt K mg a
  I : InitT P K a.cMany a.init
  bI : Binds K a.init.fd ["self", "limit"] []
  TE : ErrT K a.cFolds a.cLot a.cMany a.cErr
theorem l_turns (L : All P K mg a) (hr : Room 7 (lawA fa cc A s)) : ∃ t, PS (lawX P w K mg base fa cc A outer s H0 E) (lawSt 1) t ∧ ∀ (D : Ends) (c : Addr) (x0 : V) (H : Hp), Cu c H →
    (∀ c2 c3 c4 c5 c6 H', Cu c H' → Oth c H H' → D.nx [some x0, some (.ref c), c2, c3, c4, c5, c6, none, none, none, none, none, none] H') → t D [some x0, some (.ref c), none, none, none, none, none, none, none, none, none, none, none] H := by
  obtain ⟨T, TI, bI, _⟩ := L
  have GFo := ok_folds (P := P) (w := w) (base := base) T
  have GLo := ok_lLot (P := P) (w := w) (base := base) T
  have GIn := ok_lInk (P := P) (w := w) (base := base) T
  have GR := ok_roll (P := P) (w := w) (base := base) T
  have GRi := ok_right (P := P) (w := w) (base := base) T TI bI
  have GTw := ok_two (P := P) (w := w) (base := base) T TI bI
  refine ⟨_, ps_for PassesOwn.never rfl (pi_range1 (by rfl) T.bRange (pa_cons pe_int pa_nil)) (pg_name (i := 2) scLaw.nd rfl (.inl rfl))
    (pss_cons (ps_par (i := 3) (j := 4) rfl scLaw.nd rfl rfl (by decide) rfl rfl (pa_cons (pe_call GFo (hr.mono (by decide)) (by rfl) T.folds.mg T.folds.fn.kp T.folds.bd .nil pass0 (pa_cons (pv 1) (pa_cons pe_int pa_nil)))
      (pa_cons (pe_call GLo (hr.mono (by decide)) (by rfl) T.lLot.mg T.lLot.fn.kp T.lLot.bd .nil pass0 (pa_cons (pv 1) (pa_cons pe_int pa_nil))) pa_nil)) rfl)
    (pss_cons (ps_set (i := 5) scLaw.nd rfl (.inl rfl) (pe_call GIn (hr.mono (by decide)) (by rfl) T.lInk.mg T.lInk.fn.kp T.lInk.bd .nil pass0 (pa_cons (pv 4) (pa_cons (pv 3) pa_nil))))
    (pss_cons (ps_set (i := 6) scLaw.nd rfl (.inl rfl) (pe_ifExp (pt_cmpR op_eq (pe_call GR (hr.mono (by decide)) (by rfl) T.roll.mg T.roll.fn.kp T.roll.bd .nil pass0 (pa_cons (pv 1) (pa_cons pe_int pa_nil))) pe_int (nomark _))
        (pe_op op_catA (pe_slice sl_tupA (pv 5) po_none (po_some pe_int)) (pe_slice sl_tupA (pv 5) (po_some pe_int) po_none))
        (pe_callTy call_tuple_of (by rfl) T.bTuple boot_tuple (pa_cons (pe_callB (cr_sortedSet rfl) (by rfl) T.bSorted boot_sorted (pa_cons (pe_callTy (cr_setOf rfl) (by rfl) T.bSet boot_set (pa_cons
          (pe_op op_catA (pv 5) (pe_tup (pa_cons (pe_op op_sub (pe_call GR (hr.mono (by decide)) (by rfl) T.roll.mg T.roll.fn.kp T.roll.bd .nil pass0 (pa_cons (pv 1) (pa_cons pe_int pa_nil))) pe_int) pa_nil))) pa_nil)) pa_nil)) pa_nil))))
    (pss_cons (ps_if (PW.pt (pw_or (pt_not (pt_val (pe_call GRi (hr.mono (by decide)) (by rfl) T.right.mg T.right.fn.kp T.right.bd .nil pass0 (pa_cons (pv 5) (pa_cons (pv 3) pa_nil)))))
        (pw_or1 (pt_not (pt_val (pe_call GRi (hr.mono (by decide)) (by rfl) T.right.mg T.right.fn.kp T.right.bd .nil pass0 (pa_cons (pv 6) (pa_cons (pv 3) pa_nil)))))))) (pss_one (ps_ret pe_bl)) pss_nil)
    (pss_one (ps_if (PW.pt (pw_or (pt_not (pt_val (pe_call GTw (hr.mono (by decide)) (by rfl) T.two.mg T.two.fn.kp T.two.bd .nil pass0 (pa_cons (pv 4) (pa_cons (pe_call GLo (hr.mono (by decide)) (by rfl) T.lLot.mg T.lLot.fn.kp T.lLot.bd .nil pass0 (pa_cons (pv 1) (pa_cons pe_int pa_nil))) (pa_cons (pv 3) pa_nil))))))
        (pw_or1 (pt_not (pt_val (pe_call GTw (hr.mono (by decide)) (by rfl) T.two.mg T.two.fn.kp T.two.bd .nil pass0 (pa_cons (pv 4) (pa_cons (pe_slice sl_tupA (pv 4) (po_some pe_int) po_none) (pa_cons (pv 3) pa_nil))))))))) (pss_one (ps_ret pe_bl)) pss_nil)))))), fun D c x0 H hc k => ?_⟩
  refine ⟨4, rfl, by decide, by decide, for_range (fun i σ' H' => ∃ c2 c3 c4 c5 c6, σ' = [some x0, some (.ref c), c2, c3, c4, c5, c6, none, none, none, none, none, none] ∧ Cu c H' ∧ Oth c H H') ⟨none, none, none, none, none, rfl, hc, Oth.refl _ _⟩ (fun i σ' H' hi hP => ?_) (fun σ' H' hP => ?_)⟩
  · obtain ⟨c2, c3, c4, c5, c6, rfl, hc0, ho0⟩ := hP
    refine ⟨.ref c, rfl, c, rfl, hc0, fun fs vf H1 f1 f2 ivf hc1 ho1 => ⟨.ref c, rfl, c, rfl, hc1, fun one vo H2 o1 o2 o3 ivo hc2 ho2 => ⟨_, _, rfl, ?_⟩⟩⟩
    have ivf2 := Is.oth hc1 ho2 (tupS_tI _) ivf
    obtain ⟨g1, g2, hl, hb⟩ := good_one o1 o2 o3 f1 f2
    have h02 := (ho0.trans ho1).trans ho2
    refine qs_asg (es_call (es_cons (es_var (i := 4) rfl ivo) (es_cons (es_var (i := 3) rfl ivf2) es_nil)) (sps_P ⟨one, fs, rfl, rfl, o1, g2.len⟩)) fun vl H3 e3 ivl => ?_
    have hc3 := hc2.mono e3
    -- what comes behind near
    have rest : ∀ (near : List Int) (vn : V) (H5 : Hp), GoodIn near fs → Is (tI near) vn H5 → Cu c H5 → Oth c H3 H5 →
        tSeq (tIfS (tOr (tNot (tB (tCall (spP fRight) [] E0 (tCons (tVar 5) (tCons (tVar 3) tNil))))) (tNot (tB (tCall (spP fRight) [] E0 (tCons (tVar 6) (tCons (tVar 3) tNil)))))) (tRet (tC (.bl false))) tNext)
          (tIfS (tOr (tNot (tB (tCall (spP fTwo) [] E0 (tCons (tVar 4) (tCons (tCall spLLot [] E0 (tCons (tVar 1) (tCons (tC (.int 4)) tNil))) (tCons (tVar 3) tNil)))))) (tNot (tB (tCall (spP fTwo) [] E0 (tCons (tVar 4) (tCons (tSl (rSlA K) (tVar 4) (tPart (tC (.int 1))) tNoPart) (tCons (tVar 3) tNil))))))) (tRet (tC (.bl false))) tNext)
          { D with nx := fun σ' H' => ∃ c2 c3 c4 c5 c6, σ' = [some x0, some (.ref c), c2, c3, c4, c5, c6, none, none, none, none, none, none] ∧ Cu c H' ∧ Oth c H H', ct := fun σ' H' => ∃ c2 c3 c4 c5 c6, σ' = [some x0, some (.ref c), c2, c3, c4, c5, c6, none, none, none, none, none, none] ∧ Cu c H' ∧ Oth c H H', bk := D.nx }
          [some x0, some (.ref c), some (.int ((0 : Int) + (i : Int))), some vf, some vo, some vl, some vn, none, none, none, none, none, none] H5 := by
      intro near vn H5 gn ivn hc5 ho5
      have ivf5 := Is.oth hc3 ho5 (tupS_tI _) (ivf2.mono e3)
      have ivo5 := Is.oth hc3 ho5 (tupS_tI _) (ivo.mono e3)
      have ivl5 := Is.oth hc3 ho5 (tupS_tI _) ivl
      have h05 := (h02.trans (Oth.of e3)).trans ho5
      have ht : EvT (tOr (tNot (tB (tCall (spP fRight) [] E0 (tCons (tVar 5) (tCons (tVar 3) tNil))))) (tNot (tB (tCall (spP fRight) [] E0 (tCons (tVar 6) (tCons (tVar 3) tNil)))))) [some x0, some (.ref c), some (.int ((0 : Int) + (i : Int))), some vf, some vo, some vl, some vn, none, none, none, none, none, none] H5 false := by
        refine et_is (et_or (b := false) (et_not (et_S (es_call (es_cons (es_var (i := 5) rfl ivl5) (es_cons (es_var (i := 3) rfl ivf5) es_nil)) (sps_P ⟨_, fs, rfl, rfl, g2⟩)))) fun _ => ?_) rfl
        exact et_is (et_not (et_S (es_call (es_cons (es_var (i := 6) rfl ivn) (es_cons (es_var (i := 3) rfl ivf5) es_nil)) (sps_P (F := fRight) ⟨_, fs, rfl, rfl, gn⟩)))) rfl
      refine q_when ht (fun z => by cases z) fun _ H6 e6 => ?_
      refine ⟨vo, rfl, .ref c, rfl, c, rfl, hc5.mono e6, fun other vt H7 t1 t2 t3 ivt hc7 ho7 => ⟨vf, rfl, [tI one, tI other, tI fs], shB true, ⟨one, other, fs, rfl, rfl, g1, (good_one t1 t2 t3 f1 f2).1, g2, (good_one t1 t2 t3 f1 f2).2.1⟩, ?_, ?_⟩⟩
      · have hc6 := hc5.mono e6
        exact isA_cons.mpr ⟨vo, _, rfl, Is.oth hc6 ho7 (tupS_tI _) (ivo5.mono e6), isA_cons.mpr ⟨vt, _, rfl, ivt, isA_cons.mpr ⟨vf, _, rfl, Is.oth hc6 ho7 (tupS_tI _) (ivf5.mono e6), isA_nil.mpr rfl⟩⟩⟩
      · intro v H8 e8 iv8
        refine ⟨true, is_v.mp iv8, iteF ?_⟩
        have hc6 := hc5.mono e6
        have ivo8 := (Is.oth hc6 ho7 (tupS_tI _) (ivo5.mono e6)).mono e8
        have ivf8 := (Is.oth hc6 ho7 (tupS_tI _) (ivf5.mono e6)).mono e8
        have hsl : EvS (tSl (rSlA K) (tVar 4) (tPart (tC (.int 1))) tNoPart) [some x0, some (.ref c), some (.int ((0 : Int) + (i : Int))), some vf, some vo, some vl, some vn, none, none, none, none, none, none] H8 (tI (one.drop 1)) := by
          have z := es_slT (K := K) (lo := some ((1 : Nat) : Int)) (hi := none) (es_var (i := 4) (σ := [some x0, some (.ref c), some (.int ((0 : Int) + (i : Int))), some vf, some vo, some vl, some vn, none, none, none, none, none, none]) (s := tI one) rfl ivo8) (eo_someS (te := tC (.int 1)) es_c) eo_none
          rw [cut_from] at z
          unfold tI shs
          rw [List.map_drop]
          exact z
        have gd := good_one (o1.sublist (List.drop_sublist 1 one)) (by rw [List.length_drop]; omega) (fun k hk => o3 k (List.mem_of_mem_drop hk)) f1 f2
        have ht2 : EvT (tNot (tB (tCall (spP fTwo) [] E0 (tCons (tVar 4) (tCons (tSl (rSlA K) (tVar 4) (tPart (tC (.int 1))) tNoPart) (tCons (tVar 3) tNil)))))) [some x0, some (.ref c), some (.int ((0 : Int) + (i : Int))), some vf, some vo, some vl, some vn, none, none, none, none, none, none] H8 (!true) := et_not (et_S (es_call (es_cons (es_var (i := 4) rfl ivo8) (es_cons hsl (es_cons (es_var (i := 3) rfl ivf8) es_nil))) (sps_P ⟨one, one.drop 1, fs, rfl, rfl, g1, gd.1, g2, gd.2.1⟩)))
        refine ht2 H8 (Ex.refl _) _ fun H9 e9 => iteF ?_
        exact ⟨_, _, _, _, _, rfl, ((hc7.mono e8).mono e9), ((h05.trans (Oth.of e6)).trans ho7).trans (Oth.of (e8.trans e9))⟩
    refine ec_roll rfl hc3 ev_c (by decide) (by decide) fun r H4 r0 r1 hc4 ho4 => ?_
    refine ⟨rfl, _, rfl, ?_⟩
    have ivl4 := Is.oth hc3 ho4 (tupS_tI _) ivl
    by_cases hr0 : V.int r = V.int 0
    · rw [decide_eq_true hr0]
      refine iteT ?_
      have s1 : EvS (tSl (rSlA K) (tVar 5) tNoPart (tPart (tC (.int 1)))) [some x0, some (.ref c), some (.int ((0 : Int) + (i : Int))), some vf, some vo, some vl, c6, none, none, none, none, none, none] H4 (.t (shs ((inkM one fs).take 1))) := by
        have z := es_slT (K := K) (lo := none) (hi := some ((1 : Nat) : Int)) (es_var (i := 5) (σ := [some x0, some (.ref c), some (.int ((0 : Int) + (i : Int))), some vf, some vo, some vl, c6, none, none, none, none, none, none]) (s := tI (inkM one fs)) rfl ivl4) eo_none (eo_someS (te := tC (.int 1)) es_c)
        rw [cut_to] at z
        unfold shs at z ⊢
        rw [List.map_take]
        exact z
      have s2 : EvS (tSl (rSlA K) (tVar 5) (tPart (tC (.int 2))) tNoPart) [some x0, some (.ref c), some (.int ((0 : Int) + (i : Int))), some vf, some vo, some vl, c6, none, none, none, none, none, none] H4 (.t (shs ((inkM one fs).drop 2))) := by
        have z := es_slT (K := K) (lo := some ((2 : Nat) : Int)) (hi := none) (es_var (i := 5) (σ := [some x0, some (.ref c), some (.int ((0 : Int) + (i : Int))), some vf, some vo, some vl, c6, none, none, none, none, none, none]) (s := tI (inkM one fs)) rfl ivl4) (eo_someS (te := tC (.int 2)) es_c) eo_none
        rw [cut_from] at z
        unfold shs at z ⊢
        rw [List.map_drop]
        exact z
      refine es_op s1 s2 (rs_catA (by rw [shs_len, shs_len, List.length_take, List.length_drop]; omega)) H4 (Ex.refl _) _ fun vn H5 e5 ivn => ?_
      have hsub : ((inkM one fs).take 1 ++ (inkM one fs).drop 2).Sublist (inkM one fs) := by
        have h1 : ((inkM one fs).drop 2).Sublist ((inkM one fs).drop 1) := by
          rw [← List.drop_drop (l := inkM one fs) (i := 1) (j := 1)]
          exact List.drop_sublist _ _
        have h2 := (List.Sublist.refl ((inkM one fs).take 1)).append h1
        rw [List.take_append_drop] at h2
        exact h2
      refine rest _ vn H5 ⟨(asc_inkM o1).sublist hsub, fun k hk => by have := hb k (hsub.subset hk); omega, by have := hsub.length_le; omega, g2.flen, g2.ffar⟩ ?_ (hc4.mono e5) (ho4.trans (Oth.of e5))
      unfold tI shs
      rw [List.map_append]
      exact ivn
    · rw [decide_eq_false hr0]
      refine iteF ?_
      refine ⟨vl, rfl, ec_roll rfl hc4 ev_c (by decide) (by decide) fun r2 H5 r20 r21 hc5 ho5 => ⟨r2, 7, rfl, rfl, by show 1 ≤ sizeLine; decide, fun p hp => ?_⟩⟩
      have ivl6 := (Is.oth hc4 ho5 (tupS_tI _) ivl4).mono (Ex.new (o := .tup [.int (r2 - 7)]) hp)
      have i7 : Is (.t (shs [r2 - 7])) (.ref p) (upd H5 p (.tup [.int (r2 - 7)])) := is_tI.mpr ⟨p, rfl, upd_same⟩
      refine rs_catA (K := K) (ss := shs (inkM one fs)) (ts := shs [r2 - 7]) (by rw [shs_len]; show _ + 1 ≤ _; omega) _ _ _ ivl6 i7 _ fun vc H6 e6 ivc => ?_
      have ivc2 : Is (tI (inkM one fs ++ [r2 - 7])) vc H6 := by
        unfold tI shs
        rw [List.map_append]
        exact ivc
      obtain ⟨q, rfl, hq⟩ := is_tI.mp ivc2
      have hsl := sd_le (inkM one fs ++ [r2 - 7])
      rw [List.length_append, List.length_singleton] at hsl
      refine ⟨q, _, rfl, .inr (SqT.of hq), by rw [List.length_append, List.length_singleton]; omega, fun p1 hp1 => ⟨p1, _, _, rfl, upd_same, by omega, fun ys r3 up mem len hr3 => ?_⟩⟩
      have em : ys = sd (inkM one fs ++ [r2 - 7]) := asc_ext up (asc_sd _) fun k => by rw [mem k, decide_eq_true_eq, mem_sd]
      subst em
      refine ⟨r3, _, rfl, .inl ⟨SqL.of upd_same, fun t ht => ?_⟩⟩
      have e1 := (Ex.new hp1).trans ((Ex.new hr3).trans (Ex.new (o := .tup ((sd (inkM one fs ++ [r2 - 7])).map V.int)) ht))
      have e2 := ((Ex.new (o := .tup [.int (r2 - 7)]) hp).trans e6).trans e1
      refine rest (sd (inkM one fs ++ [r2 - 7])) _ _ ⟨asc_sd _, fun k hk => ?_, by omega, g2.flen, g2.ffar⟩ (is_tI.mpr ⟨t, rfl, upd_same⟩) (hc5.mono e2) ((ho4.trans ho5).trans (Oth.of e2))
      rcases List.mem_append.mp (mem_sd.mp hk) with h | h
      · have := hb k h; omega
      · have := List.mem_singleton.mp h; omega
  · obtain ⟨c2, c3, c4, c5, c6, rfl, hc0, ho0⟩ := hP
    exact k c2 c3 c4 c5 c6 H' hc0 ho0
end
end K46

/-! K19: law, the rows. -/
namespace K46
open PySem PySem.Spec PyProof.Rows L2 Evl
abbrev Row := List Int × List Int × List Int × Option (List Int)
def rowS (r : Row) : Sh := .t [tI r.1, tI r.2.1, tI r.2.2.1, oI r.2.2.2]
def rowsA : List Row := [([-2, 0, 2, 4], [0, 2], [-2, 0, 2], some [-2]), ([0, 1], [0], [0], none), ([], [3], [], some []), ([5, 6], [], [5, 6], some [5, 6])]
def rowsB : List Row := [([-1, 0, 1], [0], [-1, 0, 1], some [-1, 0]), ([0, 1, 2, 3], [1, 3], [0, 1], some [0]), ([3], [6], [3], some [3]), ([-1, 1], [0, 2], [], none)]
def rowsC : List Row := [([-3, -1, 1, 3], [0], [-3, -1, 1, 3], some [-3, -1]), ([0, 2], [1], [], none), ([-1, 0, 1, 2], [0, 1], [-1, 0, 1], some [-1])]
def goodB (ns fs : List Int) : Bool := decide (ns.Pairwise (· < ·)) && ns.all (fun k => decide (-100000 ≤ k) && decide (k ≤ 100000)) && decide (ns.length < 64) && decide (fs.length ≤ 3) && fs.all (fun k => decide (-1000000 ≤ k) && decide (k ≤ 1000000))
theorem good_by {ns fs : List Int} (h : goodB ns fs = true) : GoodIn ns fs := by
  unfold goodB at h
  simp only [Bool.and_eq_true, decide_eq_true_eq, List.all_eq_true] at h
  obtain ⟨⟨⟨⟨h1, h2⟩, h3⟩, h4⟩, h5⟩ := h
  exact ⟨h1, h2, h3, h4, h5⟩
def rowB (r : Row) : Bool := goodB r.1 r.2.1 && decide (gM r.1 r.2.1 = r.2.2.1) && decide (fewM r.1 r.2.1 r.2.2.1 = r.2.2.2) && decide (r.2.2.1.length ≤ 8) && (decide (inkM r.2.2.1 r.2.1 = r.1) == r.2.2.2.isSome)
structure RowOk (r : Row) : Prop where
  good : GoodIn r.1 r.2.1
  gr : gM r.1 r.2.1 = r.2.2.1
  few : fewM r.1 r.2.1 (gM r.1 r.2.1) = r.2.2.2
  len : (gM r.1 r.2.1).length ≤ 8
  com : decide (inkM (gM r.1 r.2.1) r.2.1 = r.1) = r.2.2.2.isSome
theorem row_by {r : Row} (h : rowB r = true) : RowOk r := by
  unfold rowB at h
  simp only [Bool.and_eq_true, decide_eq_true_eq, beq_iff_eq] at h
  obtain ⟨⟨⟨⟨h1, h2⟩, h3⟩, h4⟩, h5⟩ := h
  exact ⟨good_by h1, h2, by rw [h2]; exact h3, by rw [h2]; exact h4, by rw [h2]; exact h5⟩
theorem rows_ok : ∀ r ∈ rowsA ++ rowsB ++ rowsC, RowOk r := fun r hr => row_by (List.all_eq_true.mp (show ((rowsA ++ rowsB ++ rowsC).all rowB) = true by decide +kernel) r hr)
theorem tupS_row (r : Row) : tupS (rowS r) = true := by
  unfold rowS
  simp only [tupS, tupA, tupS_tI, Bool.and_true, Bool.true_and]
  cases r.2.2.2 with
  | none => rfl
  | some ns => exact tupS_tI ns
def rNotNn : R2 := fun x y H Q => y = .non ∧ Q (.bl (!decide (x = .non))) H
theorem op_notNn {X : Cx} : OpR X (compareOp .IsNot) rNotNn := op_notN
theorem rs_notO (o : Option (List Int)) : RS rNotNn (oI o) (.v .non) (shB o.isSome) := fun x y H h1 h2 Q q => ⟨is_v.mp h2, q _ H (Ex.refl H) (by
  refine is_v.mpr ?_
  congr 1
  cases o with
  | none =>
    have e : x = .non := is_v.mp h1
    rw [e]
    rfl
  | some ns =>
    obtain ⟨p, e, _⟩ := is_tI.mp (show Is (tI ns) x H from h1)
    rw [e]
    simp)⟩
theorem es_tupRg {σ : L2.St} {H : Hp} {n : Nat} (h : n ≤ 1000) : EvS (tTupRg (tRg1 (tC (.int (n : Int))))) σ H (tI (rangeI 0 n)) := fun H1 e Q q =>
  ⟨(n : Int), rfl, RgOk.of_le (by omega) (by omega) (by omega) (by omega), fun p hp => q _ _ (Ex.new hp) (is_tI.mpr ⟨p, rfl, by
    rw [upd_same]
    congr 2
    unfold rgV rangeI
    rw [List.map_map]
    have e1 : ((n : Int) - 0).toNat = n := by omega
    rw [e1]
    rfl⟩)⟩
theorem es_tupRg2 {σ : L2.St} {H : Hp} {lo hi : Int} {tl th : TE} (hl : EvS tl σ H (shI lo)) (hh : EvS th σ H (shI hi)) (h1 : -1000 ≤ lo) (h2 : lo ≤ hi) (h3 : hi ≤ 1000) : EvS (tTupRg (tRg2 tl th)) σ H (tI (rangeI lo (hi - lo).toNat)) := fun H1 e Q q =>
  hl H1 e _ fun v1 H2 e2 i2 => hh H2 (e.trans e2) _ fun v2 H3 e3 i3 => ⟨lo, hi, is_v.mp i2, is_v.mp i3, ⟨by omega, by omega, by omega, by omega, by omega⟩, fun p hp => q _ _ ((e2.trans e3).trans (Ex.new hp)) (is_tI.mpr ⟨p, rfl, by
    rw [upd_same]
    congr 2
    unfold rgV rangeI
    rw [List.map_map]
    rfl⟩)⟩
section
variable {P : Program} {w : World} {K : PySem.W.Frag} {mg : Str → Option Value} {base : Heap} {a : Ad} {fa cc : Addr} {A : Around} {outer : List Env} {s : Shared} {H0 : Hp} {E : XK}
theorem l_rows (L : All P K mg a) (hr : Room 7 (lawA fa cc A s)) : ∃ t2 t3 t4 t5 t6 t8, PS (lawX P w K mg base fa cc A outer s H0 E) (lawSt 2) t2 ∧ PS (lawX P w K mg base fa cc A outer s H0 E) (lawSt 3) t3 ∧ PS (lawX P w K mg base fa cc A outer s H0 E) (lawSt 4) t4 ∧
    PS (lawX P w K mg base fa cc A outer s H0 E) (lawSt 5) t5 ∧ PS (lawX P w K mg base fa cc A outer s H0 E) (lawSt 6) t6 ∧ PS (lawX P w K mg base fa cc A outer s H0 E) (lawSt 8) t8 ∧
    (∀ (D : Ends) (tz : TS) (v0 v1 c2 c3 c4 c5 c6 : Option V) (H : Hp), (∀ c2 c3 c4 c5 c6 c7 c8 c9 H', Ex H H' → tz D [v0, v1, c2, c3, c4, c5, c6, c7, c8, c9, none, none, none] H') →
      tSeq t2 (tSeq t3 (tSeq t4 (tSeq t5 (tSeq t6 tz)))) D [v0, v1, c2, c3, c4, c5, c6, none, none, none, none, none, none] H) ∧
    ∀ (D : Ends) (tz : TS) (σ : L2.St) (H : Hp), (∀ H', Ex H H' → tz D σ H') → tSeq t8 tz D σ H := by
  obtain ⟨T, TI, bI, _⟩ := L
  have GRi := ok_right (P := P) (w := w) (base := base) T TI bI
  have GTw := ok_two (P := P) (w := w) (base := base) T TI bI
  have GG := ok_greatL (P := P) (w := w) (base := base) T
  have GC := ok_comes (P := P) (w := w) (base := base) T
  have GF := ok_fewest (P := P) (w := w) (base := base) T TI bI
  have GI := ok_inkedBy (P := P) (w := w) (base := base) T TI bI
  refine ⟨_, _, _, _, _, _, ps_set (i := 7) scLaw.nd rfl (.inl rfl) (pe_lst (pa_cons (pe_tup (pa_cons (pe_tup (pa_cons (pe_un un_neg pe_int) (pa_cons pe_int (pa_cons pe_int (pa_cons pe_int pa_nil))))) (pa_cons (pe_tup (pa_cons pe_int (pa_cons pe_int pa_nil))) (pa_cons (pe_tup (pa_cons (pe_un un_neg pe_int) (pa_cons pe_int (pa_cons pe_int pa_nil)))) (pa_cons (pe_tup (pa_cons (pe_un un_neg pe_int) pa_nil)) pa_nil))))) (pa_cons (pe_tup (pa_cons (pe_tup (pa_cons pe_int (pa_cons pe_int pa_nil))) (pa_cons (pe_tup (pa_cons pe_int pa_nil)) (pa_cons (pe_tup (pa_cons pe_int pa_nil)) (pa_cons pe_non pa_nil))))) (pa_cons (pe_tup (pa_cons (pe_tup pa_nil) (pa_cons (pe_tup (pa_cons pe_int pa_nil)) (pa_cons (pe_tup pa_nil) (pa_cons (pe_tup pa_nil) pa_nil))))) (pa_cons (pe_tup (pa_cons (pe_tup (pa_cons pe_int (pa_cons pe_int pa_nil))) (pa_cons (pe_tup pa_nil) (pa_cons (pe_tup (pa_cons pe_int (pa_cons pe_int pa_nil))) (pa_cons (pe_tup (pa_cons pe_int (pa_cons pe_int pa_nil))) pa_nil))))) pa_nil))))),
    ps_set (i := 7) scLaw.nd rfl (.inl rfl) (pe_op op_cat (pv 7) (pe_lst (pa_cons (pe_tup (pa_cons (pe_tup (pa_cons (pe_un un_neg pe_int) (pa_cons pe_int (pa_cons pe_int pa_nil)))) (pa_cons (pe_tup (pa_cons pe_int pa_nil)) (pa_cons (pe_tup (pa_cons (pe_un un_neg pe_int) (pa_cons pe_int (pa_cons pe_int pa_nil)))) (pa_cons (pe_tup (pa_cons (pe_un un_neg pe_int) (pa_cons pe_int pa_nil))) pa_nil))))) (pa_cons (pe_tup (pa_cons (pe_tup (pa_cons pe_int (pa_cons pe_int (pa_cons pe_int (pa_cons pe_int pa_nil))))) (pa_cons (pe_tup (pa_cons pe_int (pa_cons pe_int pa_nil))) (pa_cons (pe_tup (pa_cons pe_int (pa_cons pe_int pa_nil))) (pa_cons (pe_tup (pa_cons pe_int pa_nil)) pa_nil))))) (pa_cons (pe_tup (pa_cons (pe_tup (pa_cons pe_int pa_nil)) (pa_cons (pe_tup (pa_cons pe_int pa_nil)) (pa_cons (pe_tup (pa_cons pe_int pa_nil)) (pa_cons (pe_tup (pa_cons pe_int pa_nil)) pa_nil))))) (pa_cons (pe_tup (pa_cons (pe_tup (pa_cons (pe_un un_neg pe_int) (pa_cons pe_int pa_nil))) (pa_cons (pe_tup (pa_cons pe_int (pa_cons pe_int pa_nil))) (pa_cons (pe_tup pa_nil) (pa_cons pe_non pa_nil))))) pa_nil)))))),
    ps_set (i := 7) scLaw.nd rfl (.inl rfl) (pe_op op_cat (pv 7) (pe_lst (pa_cons (pe_tup (pa_cons (pe_tup (pa_cons (pe_un un_neg pe_int) (pa_cons (pe_un un_neg pe_int) (pa_cons pe_int (pa_cons pe_int pa_nil))))) (pa_cons (pe_tup (pa_cons pe_int pa_nil)) (pa_cons (pe_tup (pa_cons (pe_un un_neg pe_int) (pa_cons (pe_un un_neg pe_int) (pa_cons pe_int (pa_cons pe_int pa_nil))))) (pa_cons (pe_tup (pa_cons (pe_un un_neg pe_int) (pa_cons (pe_un un_neg pe_int) pa_nil))) pa_nil))))) (pa_cons (pe_tup (pa_cons (pe_tup (pa_cons pe_int (pa_cons pe_int pa_nil))) (pa_cons (pe_tup (pa_cons pe_int pa_nil)) (pa_cons (pe_tup pa_nil) (pa_cons pe_non pa_nil))))) (pa_cons (pe_tup (pa_cons (pe_tup (pa_cons (pe_un un_neg pe_int) (pa_cons pe_int (pa_cons pe_int (pa_cons pe_int pa_nil))))) (pa_cons (pe_tup (pa_cons pe_int (pa_cons pe_int pa_nil))) (pa_cons (pe_tup (pa_cons (pe_un un_neg pe_int) (pa_cons pe_int (pa_cons pe_int pa_nil)))) (pa_cons (pe_tup (pa_cons (pe_un un_neg pe_int) pa_nil)) pa_nil))))) pa_nil))))),
    ps_for PassesOwn.never rfl (pi_list (pv 7)) (pg_tup rfl (pgs_cons (pg_name (i := 5) scLaw.nd rfl (.inl rfl)) (pgs_cons (pg_name (i := 3) scLaw.nd rfl (.inl rfl)) (pgs_cons (pg_name (i := 8) scLaw.nd rfl (.inl rfl)) (pgs_cons (pg_name (i := 9) scLaw.nd rfl (.inl rfl)) pgs_nil)))))
      (pss_cons (ps_if (PW.pt (pw_or (pt_cmpR (op_neD hr.units) (pe_call GG (hr.mono (by decide)) (by rfl) T.greatL.mg T.greatL.fn.kp T.greatL.bd .nil passL (pa_cons (pv 5) (pa_cons (pv 3) pa_nil))) (pv 8) (nomark _))
          (pw_or1 (pt_cmpR (op_neD hr.units) (pe_call GF (hr.mono (by decide)) (by rfl) T.fewest.mg T.fewest.fn.kp T.fewest.bd .nil passL (pa_cons (pv 5) (pa_cons (pv 3) pa_nil))) (pv 9) (nomark _))))) (pss_one (ps_ret pe_bl)) pss_nil)
      (pss_one (ps_if (PW.pt (pw_or (pt_not (pt_val (pe_call GRi (hr.mono (by decide)) (by rfl) T.right.mg T.right.fn.kp T.right.bd .nil pass0 (pa_cons (pv 5) (pa_cons (pv 3) pa_nil)))))
          (pw_or1 (pt_cmpR op_ne (pe_call GC (hr.mono (by decide)) (by rfl) T.comes.mg T.comes.fn.kp T.comes.bd .nil passL (pa_cons (pv 5) (pa_cons (pv 3) pa_nil))) (pe_cmpR op_notNn (pv 9) pe_non (nomark _)) (nomark _))))) (pss_one (ps_ret pe_bl)) pss_nil))),
    ps_if (PW.pt (pw_or (pt_not (pt_val (pe_call GTw (hr.mono (by decide)) (by rfl) T.two.mg T.two.fn.kp T.two.bd .nil pass0 (pa_cons (pe_tup (pa_cons pe_int (pa_cons pe_int pa_nil))) (pa_cons (pe_tup (pa_cons pe_int pa_nil)) (pa_cons (pe_tup (pa_cons pe_int (pa_cons pe_int pa_nil))) pa_nil))))))
        (pw_or1 (pt_cmpR (op_neD hr.units) (pe_call GI (hr.mono (by decide)) (by rfl) T.inkedBy.mg T.inkedBy.fn.kp T.inkedBy.bd .nil passL (pa_cons (pe_tup (pa_cons pe_int (pa_cons pe_int pa_nil))) (pa_cons (pe_tup (pa_cons pe_int (pa_cons pe_int pa_nil))) pa_nil))) (pe_call GI (hr.mono (by decide)) (by rfl) T.inkedBy.mg T.inkedBy.fn.kp T.inkedBy.bd .nil passL (pa_cons (pe_tup (pa_cons pe_int pa_nil)) (pa_cons (pe_tup (pa_cons pe_int (pa_cons pe_int pa_nil))) pa_nil))) (nomark _))))) (pss_one (ps_ret pe_bl)) pss_nil,
    ps_if (PW.pt (pw_or (pt_cmpR (op_neD hr.units) (pe_call GF (hr.mono (by decide)) (by rfl) T.fewest.mg T.fewest.fn.kp T.fewest.bd .nil passL (pa_cons (pe_tupRg rfl (by rfl) T.bTuple (prg_1 (by rfl) T.bRange pe_int)) (pa_cons (pe_tup pa_nil) pa_nil))) (pe_tupRg rfl (by rfl) T.bTuple (prg_1 (by rfl) T.bRange pe_int)) (nomark _))
        (pw_or1 (pt_cmpR (op_neD hr.units) (pe_call GF (hr.mono (by decide)) (by rfl) T.fewest.mg T.fewest.fn.kp T.fewest.bd .nil passL (pa_cons (pe_tupRg rfl (by rfl) T.bTuple (prg_1 (by rfl) T.bRange pe_int)) (pa_cons (pe_tup (pa_cons pe_int (pa_cons pe_int pa_nil))) pa_nil))) (pe_tup (pa_cons pe_int (pa_cons pe_int (pa_cons pe_int pa_nil)))) (nomark _))))) (pss_one (ps_ret pe_bl)) pss_nil,
    fun D tz v0 v1 c2 c3 c4 c5 c6 H k => ?_, fun D tz σ H k => ?_⟩
  · refine qs_asg (s := .l (rowsA.map rowS)) (es_lst (ss := ([([-2, 0, 2, 4], [0, 2], [-2, 0, 2], some [-2]), ([0, 1], [0], [0], none), ([], [3], [], some []), ([5, 6], [], [5, 6], some [5, 6])] : List Row).map rowS) (es_cons (es_tup (ss := [tI [-2, 0, 2, 4], tI [0, 2], tI [-2, 0, 2], oI (some [-2])]) (es_cons (es_tup (ss := shs [-2, 0, 2, 4]) (es_cons (es_un (s1 := shI 2) (s3 := shI (-2)) es_c rus_neg) (es_cons es_c (es_cons es_c (es_cons es_c es_nil)))) (by decide)) (es_cons (es_tup (ss := shs [0, 2]) (es_cons es_c (es_cons es_c es_nil)) (by decide)) (es_cons (es_tup (ss := shs [-2, 0, 2]) (es_cons (es_un (s1 := shI 2) (s3 := shI (-2)) es_c rus_neg) (es_cons es_c (es_cons es_c es_nil))) (by decide)) (es_cons (es_tup (ss := shs [-2]) (es_cons (es_un (s1 := shI 2) (s3 := shI (-2)) es_c rus_neg) es_nil) (by decide)) es_nil)))) (by show 4 ≤ 100000; decide)) (es_cons (es_tup (ss := [tI [0, 1], tI [0], tI [0], oI (none)]) (es_cons (es_tup (ss := shs [0, 1]) (es_cons es_c (es_cons es_c es_nil)) (by decide)) (es_cons (es_tup (ss := shs [0]) (es_cons es_c es_nil) (by decide)) (es_cons (es_tup (ss := shs [0]) (es_cons es_c es_nil) (by decide)) (es_cons es_c es_nil)))) (by show 4 ≤ 100000; decide)) (es_cons (es_tup (ss := [tI [], tI [3], tI [], oI (some [])]) (es_cons (es_tup (ss := shs []) es_nil (by decide)) (es_cons (es_tup (ss := shs [3]) (es_cons es_c es_nil) (by decide)) (es_cons (es_tup (ss := shs []) es_nil (by decide)) (es_cons (es_tup (ss := shs []) es_nil (by decide)) es_nil)))) (by show 4 ≤ 100000; decide)) (es_cons (es_tup (ss := [tI [5, 6], tI [], tI [5, 6], oI (some [5, 6])]) (es_cons (es_tup (ss := shs [5, 6]) (es_cons es_c (es_cons es_c es_nil)) (by decide)) (es_cons (es_tup (ss := shs []) es_nil (by decide)) (es_cons (es_tup (ss := shs [5, 6]) (es_cons es_c (es_cons es_c es_nil)) (by decide)) (es_cons (es_tup (ss := shs [5, 6]) (es_cons es_c (es_cons es_c es_nil)) (by decide)) es_nil)))) (by show 4 ≤ 100000; decide)) es_nil)))) (by decide)) fun v7 H1 e1 i7 => ?_
    refine qs_asg (s := .l ((rowsA ++ rowsB).map rowS)) (es_is (es_op (es_var (i := 7) (s := .l (rowsA.map rowS)) rfl i7) (es_lst (ss := ([([-1, 0, 1], [0], [-1, 0, 1], some [-1, 0]), ([0, 1, 2, 3], [1, 3], [0, 1], some [0]), ([3], [6], [3], some [3]), ([-1, 1], [0, 2], [], none)] : List Row).map rowS) (es_cons (es_tup (ss := [tI [-1, 0, 1], tI [0], tI [-1, 0, 1], oI (some [-1, 0])]) (es_cons (es_tup (ss := shs [-1, 0, 1]) (es_cons (es_un (s1 := shI 1) (s3 := shI (-1)) es_c rus_neg) (es_cons es_c (es_cons es_c es_nil))) (by decide)) (es_cons (es_tup (ss := shs [0]) (es_cons es_c es_nil) (by decide)) (es_cons (es_tup (ss := shs [-1, 0, 1]) (es_cons (es_un (s1 := shI 1) (s3 := shI (-1)) es_c rus_neg) (es_cons es_c (es_cons es_c es_nil))) (by decide)) (es_cons (es_tup (ss := shs [-1, 0]) (es_cons (es_un (s1 := shI 1) (s3 := shI (-1)) es_c rus_neg) (es_cons es_c es_nil)) (by decide)) es_nil)))) (by show 4 ≤ 100000; decide)) (es_cons (es_tup (ss := [tI [0, 1, 2, 3], tI [1, 3], tI [0, 1], oI (some [0])]) (es_cons (es_tup (ss := shs [0, 1, 2, 3]) (es_cons es_c (es_cons es_c (es_cons es_c (es_cons es_c es_nil)))) (by decide)) (es_cons (es_tup (ss := shs [1, 3]) (es_cons es_c (es_cons es_c es_nil)) (by decide)) (es_cons (es_tup (ss := shs [0, 1]) (es_cons es_c (es_cons es_c es_nil)) (by decide)) (es_cons (es_tup (ss := shs [0]) (es_cons es_c es_nil) (by decide)) es_nil)))) (by show 4 ≤ 100000; decide)) (es_cons (es_tup (ss := [tI [3], tI [6], tI [3], oI (some [3])]) (es_cons (es_tup (ss := shs [3]) (es_cons es_c es_nil) (by decide)) (es_cons (es_tup (ss := shs [6]) (es_cons es_c es_nil) (by decide)) (es_cons (es_tup (ss := shs [3]) (es_cons es_c es_nil) (by decide)) (es_cons (es_tup (ss := shs [3]) (es_cons es_c es_nil) (by decide)) es_nil)))) (by show 4 ≤ 100000; decide)) (es_cons (es_tup (ss := [tI [-1, 1], tI [0, 2], tI [], oI (none)]) (es_cons (es_tup (ss := shs [-1, 1]) (es_cons (es_un (s1 := shI 1) (s3 := shI (-1)) es_c rus_neg) (es_cons es_c es_nil)) (by decide)) (es_cons (es_tup (ss := shs [0, 2]) (es_cons es_c (es_cons es_c es_nil)) (by decide)) (es_cons (es_tup (ss := shs []) es_nil (by decide)) (es_cons es_c es_nil)))) (by show 4 ≤ 100000; decide)) es_nil)))) (by decide)) (rs_cat (by decide))) (by rw [List.map_append]; rfl)) fun v7 H2 e2 i7 => ?_
    refine qs_asg (s := .l ((rowsA ++ rowsB ++ rowsC).map rowS)) (es_is (es_op (es_var (i := 7) (s := .l ((rowsA ++ rowsB).map rowS)) rfl i7) (es_lst (ss := ([([-3, -1, 1, 3], [0], [-3, -1, 1, 3], some [-3, -1]), ([0, 2], [1], [], none), ([-1, 0, 1, 2], [0, 1], [-1, 0, 1], some [-1])] : List Row).map rowS) (es_cons (es_tup (ss := [tI [-3, -1, 1, 3], tI [0], tI [-3, -1, 1, 3], oI (some [-3, -1])]) (es_cons (es_tup (ss := shs [-3, -1, 1, 3]) (es_cons (es_un (s1 := shI 3) (s3 := shI (-3)) es_c rus_neg) (es_cons (es_un (s1 := shI 1) (s3 := shI (-1)) es_c rus_neg) (es_cons es_c (es_cons es_c es_nil)))) (by decide)) (es_cons (es_tup (ss := shs [0]) (es_cons es_c es_nil) (by decide)) (es_cons (es_tup (ss := shs [-3, -1, 1, 3]) (es_cons (es_un (s1 := shI 3) (s3 := shI (-3)) es_c rus_neg) (es_cons (es_un (s1 := shI 1) (s3 := shI (-1)) es_c rus_neg) (es_cons es_c (es_cons es_c es_nil)))) (by decide)) (es_cons (es_tup (ss := shs [-3, -1]) (es_cons (es_un (s1 := shI 3) (s3 := shI (-3)) es_c rus_neg) (es_cons (es_un (s1 := shI 1) (s3 := shI (-1)) es_c rus_neg) es_nil)) (by decide)) es_nil)))) (by show 4 ≤ 100000; decide)) (es_cons (es_tup (ss := [tI [0, 2], tI [1], tI [], oI (none)]) (es_cons (es_tup (ss := shs [0, 2]) (es_cons es_c (es_cons es_c es_nil)) (by decide)) (es_cons (es_tup (ss := shs [1]) (es_cons es_c es_nil) (by decide)) (es_cons (es_tup (ss := shs []) es_nil (by decide)) (es_cons es_c es_nil)))) (by show 4 ≤ 100000; decide)) (es_cons (es_tup (ss := [tI [-1, 0, 1, 2], tI [0, 1], tI [-1, 0, 1], oI (some [-1])]) (es_cons (es_tup (ss := shs [-1, 0, 1, 2]) (es_cons (es_un (s1 := shI 1) (s3 := shI (-1)) es_c rus_neg) (es_cons es_c (es_cons es_c (es_cons es_c es_nil)))) (by decide)) (es_cons (es_tup (ss := shs [0, 1]) (es_cons es_c (es_cons es_c es_nil)) (by decide)) (es_cons (es_tup (ss := shs [-1, 0, 1]) (es_cons (es_un (s1 := shI 1) (s3 := shI (-1)) es_c rus_neg) (es_cons es_c (es_cons es_c es_nil))) (by decide)) (es_cons (es_tup (ss := shs [-1]) (es_cons (es_un (s1 := shI 1) (s3 := shI (-1)) es_c rus_neg) es_nil) (by decide)) es_nil)))) (by show 4 ≤ 100000; decide)) es_nil))) (by decide)) (rs_cat (by decide))) (by rw [List.map_append (l₁ := rowsA ++ rowsB)]; rfl)) fun v7 H3 e3 i7 => ?_
    have e03 := (e1.trans e2).trans e3
    refine (show tSeq _ _ _ _ _ from ?_)
    refine s_forS (D := { nx := _, rt := _, ct := _, bk := _ }) (ss := (rowsA ++ rowsB ++ rowsC).map rowS) (es_var (i := 7) rfl i7) fun al xs H4 e4 hal hxs => ?_
    refine ⟨fun i σ' H' => ∃ c3 c5 c8 c9, σ' = [v0, v1, c2, c3, c4, c5, c6, some v7, c8, c9, none, none, none] ∧ Ex H4 H', ⟨c3, c5, none, none, rfl, Ex.refl _⟩, fun i σ' H' ⟨_, _, _, _, _, e⟩ => e, fun i x sh σ' H' hi hs hP => ?_, fun σ' H' hP => ?_⟩
    · obtain ⟨c3', c5', c8', c9', rfl, e5⟩ := hP
      rw [List.getElem?_map] at hi
      obtain ⟨r, hr2, rfl⟩ : ∃ r, (rowsA ++ rowsB ++ rowsC)[i]? = some r ∧ sh = rowS r := by
        cases e : (rowsA ++ rowsB ++ rowsC)[i]? with
        | none => rw [e] at hi; cases hi
        | some r => rw [e] at hi; exact ⟨r, rfl, (Option.some.inj hi).symm⟩
      have ok := rows_ok r (List.mem_of_getElem? hr2)
      obtain ⟨lot, fs, pl, few⟩ := r
      obtain ⟨p, ys, rfl, hp, hys⟩ := is_t.mp hs
      obtain ⟨y1, r1, rfl, j1, k1⟩ := isA_cons.mp hys
      obtain ⟨y2, r2, rfl, j2, k2⟩ := isA_cons.mp k1
      obtain ⟨y3, r3, rfl, j3, k3⟩ := isA_cons.mp k2
      obtain ⟨y4, r4, rfl, j4, k4⟩ := isA_cons.mp k3
      rw [isA_nil.mp k4] at hp
      refine ⟨p, _, rfl, SqT.of hp, rfl, y1, _, rfl, y2, _, rfl, y3, _, rfl, y4, _, rfl, rfl, ?_⟩
      have og := ok.gr
      have of := ok.few
      have oc := ok.com
      have ol := ok.len
      have gg := ok.good
      dsimp only at j1 j2 j3 j4 og of oc ol gg
      have t1 : EvT (tOr (tTest (tOp (rNeD K) (tCall (spF fGreat (gBad a.cLot a.cFolds)) [] E0 (tCons (tVar 5) (tCons (tVar 3) tNil))) (tVar 8))) (tTest (tOp (rNeD K) (tCall (spF fFew (gFew a.cLot a.cFolds a.cMany)) [] E0 (tCons (tVar 5) (tCons (tVar 3) tNil))) (tVar 9)))) [v0, v1, c2, some y2, c4, some y1, c6, some v7, some y3, some y4, none, none, none] H' false := by
        refine et_is (et_or (b := false) (et_T (es_op (es_call (es_cons (es_var (i := 5) rfl j1) (es_cons (es_var (i := 3) rfl j2) es_nil)) (sps_F ⟨lot, fs, rfl, rfl, gg⟩)) (es_var (i := 8) rfl j3) (rs_neT _ _))) fun _ => ?_) (by rw [og]; simp)
        exact et_is (et_T (es_op (es_call (es_cons (es_var (i := 5) rfl j1) (es_cons (es_var (i := 3) rfl j2) es_nil)) (sps_F (F := fFew) ⟨lot, fs, rfl, rfl, gg, ol⟩)) (es_var (i := 9) rfl j4) (rs_neO _ _))) (by rw [of]; simp)
      refine q_when t1 (fun z => by cases z) fun _ H6 e6 => ?_
      have t2 : EvT (tOr (tNot (tB (tCall (spP fRight) [] E0 (tCons (tVar 5) (tCons (tVar 3) tNil))))) (tTest (tOp rNe (tCall (spF fComes (gBad a.cLot a.cFolds)) [] E0 (tCons (tVar 5) (tCons (tVar 3) tNil))) (tOp rNotNn (tVar 9) (tC .non))))) [v0, v1, c2, some y2, c4, some y1, c6, some v7, some y3, some y4, none, none, none] H6 false := by
        refine et_is (et_or (b := false) (et_not (et_S (es_call (es_cons (es_var (i := 5) rfl (j1.mono e6)) (es_cons (es_var (i := 3) rfl (j2.mono e6)) es_nil)) (sps_P (F := fRight) ⟨lot, fs, rfl, rfl, gg⟩)))) fun _ => ?_) rfl
        exact et_is (et_T (es_op (es_call (es_cons (es_var (i := 5) rfl (j1.mono e6)) (es_cons (es_var (i := 3) rfl (j2.mono e6)) es_nil)) (sps_F (F := fComes) ⟨lot, fs, rfl, rfl, gg⟩)) (es_op (es_var (i := 9) rfl (j4.mono e6)) es_c (rs_notO few)) (rs_neB _ _))) (by rw [oc]; simp)
      exact s_when t2 (fun z => by cases z) fun _ H7 e7 => ⟨_, _, _, _, rfl, (e5.trans e6).trans e7⟩
    · obtain ⟨c3', c5', c8', c9', rfl, e5⟩ := hP
      have e05 := (e03.trans e4).trans e5
      have t3 : EvT (tOr (tNot (tB (tCall (spP fTwo) [] E0 (tCons (tTup (tCons (tC (.int 0)) (tCons (tC (.int 2)) tNil))) (tCons (tTup (tCons (tC (.int 2)) tNil)) (tCons (tTup (tCons (tC (.int 0)) (tCons (tC (.int 2)) tNil))) tNil))))))
          (tTest (tOp (rNeD K) (tCall (spF fInkedBy fun _ _ _ => False) [] E0 (tCons (tTup (tCons (tC (.int 0)) (tCons (tC (.int 2)) tNil))) (tCons (tTup (tCons (tC (.int 0)) (tCons (tC (.int 2)) tNil))) tNil))) (tCall (spF fInkedBy fun _ _ _ => False) [] E0 (tCons (tTup (tCons (tC (.int 2)) tNil)) (tCons (tTup (tCons (tC (.int 0)) (tCons (tC (.int 2)) tNil))) tNil)))))) [v0, v1, c2, c3', c4, c5', c6, some v7, c8', c9', none, none, none] H' false := by
        refine et_is (et_or (b := false) (et_not (et_S (es_call (es_cons (es_tup (ss := shs [0, 2]) (es_cons es_c (es_cons es_c es_nil)) (by decide)) (es_cons (es_tup (ss := shs [2]) (es_cons es_c es_nil) (by decide)) (es_cons (es_tup (ss := shs [0, 2]) (es_cons es_c (es_cons es_c es_nil)) (by decide)) es_nil))) (sps_P (F := fTwo) ⟨[0, 2], [2], [0, 2], rfl, rfl, good_by (by decide +kernel), good_by (by decide +kernel), good_by (by decide +kernel), good_by (by decide +kernel)⟩)))) fun _ => ?_) rfl
        exact et_is (et_T (es_op (es_call (es_cons (es_tup (ss := shs [0, 2]) (es_cons es_c (es_cons es_c es_nil)) (by decide)) (es_cons (es_tup (ss := shs [0, 2]) (es_cons es_c (es_cons es_c es_nil)) (by decide)) es_nil)) (sps_F (F := fInkedBy) ⟨[0, 2], [0, 2], rfl, rfl, good_by (by decide +kernel), by decide +kernel⟩)) (es_call (es_cons (es_tup (ss := shs [2]) (es_cons es_c es_nil) (by decide)) (es_cons (es_tup (ss := shs [0, 2]) (es_cons es_c (es_cons es_c es_nil)) (by decide)) es_nil)) (sps_F (F := fInkedBy) ⟨[2], [0, 2], rfl, rfl, good_by (by decide +kernel), by decide +kernel⟩)) (rs_neT _ _))) (by decide +kernel)
      exact q_when t3 (fun z => by cases z) fun _ H6 e6 => k _ _ _ _ _ _ _ _ H6 (e05.trans e6)
  · have r6 : ∀ {H : Hp}, EvS (tTupRg (tRg1 (tC (.int 6)))) σ H (tI [0, 1, 2, 3, 4, 5]) := fun {H} => es_is (es_tupRg (n := 6) (by decide)) (congrArg tI (by decide +kernel))
    have t : EvT (tOr (tTest (tOp (rNeD K) (tCall (spF fFew (gFew a.cLot a.cFolds a.cMany)) [] E0 (tCons (tTupRg (tRg1 (tC (.int 6)))) (tCons (tTup tNil) tNil))) (tTupRg (tRg1 (tC (.int 6))))))
        (tTest (tOp (rNeD K) (tCall (spF fFew (gFew a.cLot a.cFolds a.cMany)) [] E0 (tCons (tTupRg (tRg1 (tC (.int 6)))) (tCons (tTup (tCons (tC (.int 5)) (tCons (tC (.int 5)) tNil))) tNil))) (tTup (tCons (tC (.int 0)) (tCons (tC (.int 1)) (tCons (tC (.int 2)) tNil))))))) σ H false := by
      refine et_is (et_or (b := false) (et_T (es_op (s1 := oI (some [0, 1, 2, 3, 4, 5])) (s2 := oI (some [0, 1, 2, 3, 4, 5])) (es_is (es_call (es_cons r6 (es_cons (es_tup (ss := shs []) es_nil (by decide)) es_nil)) (sps_F (F := fFew) ⟨[0, 1, 2, 3, 4, 5], [], rfl, rfl, good_by (by decide +kernel), by decide +kernel⟩)) (congrArg oI (by decide +kernel))) r6 (rs_neO _ _))) fun _ => ?_) (by decide)
      exact et_is (et_T (es_op (s1 := oI (some [0, 1, 2])) (s2 := oI (some [0, 1, 2])) (es_is (es_call (es_cons r6 (es_cons (es_tup (ss := shs [5, 5]) (es_cons es_c (es_cons es_c es_nil)) (by decide)) es_nil)) (sps_F (F := fFew) ⟨[0, 1, 2, 3, 4, 5], [5, 5], rfl, rfl, good_by (by decide +kernel), by decide +kernel⟩)) (congrArg oI (by decide +kernel))) (es_tup (ss := shs [0, 1, 2]) (es_cons es_c (es_cons es_c (es_cons es_c es_nil))) (by decide)) (rs_neO _ _))) (by decide)
    exact q_when t (fun z => by cases z) fun _ H6 e6 => k H6 e6
end
end K46

/-! K20: law, the lambdas. -/
namespace K46
open PySem PySem.Spec PyProof.Rows L2 Evl
open LamX (Tabs TabS ExtN CodeO LamS lamS_by tLam pe_lamcall lamCx lamEnv TabB)
/-! ### a call of a name that holds one of several defs, with errors -/
def tCallX (i : Nat) (ok : Addr → Prop) (sp : Sp) (E : XK) (t : TA) : TE := fun σ H Q => ∃ f, σ[i]? = some (some (.ref f)) ∧ ok f ∧ t σ H fun vs H1 => sp vs H1 Q E
section
variable {X : Cx} {CX : CXT} {k i : Nat} {ok : Addr → Prop} {sp : Sp} {E : XK} {x : Str} {p pos : Pos} {e : Expr} {es : List Expr} {t : TA}
theorem pe_callX (F : ∀ f, ok f → ∃ (fd : FuncData) (ps : List Str), FnOk X.prog X.w X.K X.mg X.base CX k f fd ps sp ∧ PySem.W.keepIn X.K (.ref f) = true ∧ Binds X.K fd ps []) (hr : Room k X.A) (hN : X.N[i]? = some x) (hv : Vis X.env.scope x) (hx : Passes CX X E) (ha : PA X (e :: es) t)
    (hdb : (x == ("__debug__" : Str)) = false := by decide) (hcd : (x == ("__classdict__" : Str)) = false := by decide)
    (he : starEach (e :: es) X.env = (false, eval e X.env) :: starEach es X.env := by rfl) (hpl : (backTo pos (starEach es X.env)).any (·.1) = false := by rfl) : PE X (.Call (.Name x p) (e :: es) [] pos) (tCallX i ok sp E t) := by
  refine ⟨fun pins s σ H Q I h => ?_⟩
  obtain ⟨f, hs, hok, ht⟩ := h
  obtain ⟨fd, ps, F, hk, hb⟩ := F f hok
  refine (pe_callL (i := i) (f := f) (sp := sp) (dvs := []) (E := E) F hr hN hv hk hb .nil hx ha hdb hcd he hpl).run pins s σ H Q I ⟨hs, ?_⟩
  have e0 : (fun (vs : List V) (H1 : Hp) => sp (vs ++ []) H1 Q E) = fun vs H1 => sp vs H1 Q E := by
    funext vs H1
    rw [List.append_nil]
  show t σ H (fun vs H1 => sp (vs ++ []) H1 Q E)
  rw [e0]
  exact ht
end
/-! ### all but the tables stays -/
mutual
theorem Is.extN {H H' : Hp} (e : ExtN H H') : ∀ {s : Sh} {x : V}, Is s x H → Is s x H'
  | .v w, x, h => is_v.mpr (is_v.mp h)
  | .t ss, x, h => by
    obtain ⟨p, xs, e1, e2, e3⟩ := is_t.mp h
    exact is_t.mpr ⟨p, xs, e1, e p _ e2 (fun ps z => by cases z), IsA.extN e e3⟩
  | .l ss, x, h => by
    obtain ⟨p, xs, e1, e2, e3⟩ := is_l.mp h
    exact is_l.mpr ⟨p, xs, e1, e p _ e2 (fun ps z => by cases z), IsA.extN e e3⟩
theorem IsA.extN {H H' : Hp} (e : ExtN H H') : ∀ {ss : List Sh} {xs : List V}, IsA ss xs H → IsA ss xs H'
  | [], xs, h => isA_nil.mpr (isA_nil.mp h)
  | s :: ss, xs, h => by
    obtain ⟨x, r, e1, e2, e3⟩ := isA_cons.mp h
    exact isA_cons.mpr ⟨x, r, e1, Is.extN e e2, IsA.extN e e3⟩
end
theorem extN_of {H H' : Hp} (e : Ex H H') : ExtN H H' := ExtN.of e
theorem tabs_ex {T : List (Addr × Str)} {H H' : Hp} (t : Tabs T H) (e : Ex H H') : Tabs T H' := t.ext e
theorem tabs_updL {T : List (Addr × Str)} {H : Hp} {D : Addr} {l l' : List V} (t : Tabs T H) (hD : H D = some (.lst l)) : Tabs T (upd H D (.lst l')) := fun p hp => by
  obtain ⟨ps, h1, h2, h3⟩ := t p hp
  refine ⟨ps, by rw [upd_ne (fun z => by rw [z, hD] at h1; cases h1)]; exact h1, h2, fun pos cv hc => ?_⟩
  obtain ⟨c, e1, e2⟩ := h3 pos cv hc
  refine ⟨c, e1, ?_⟩
  rw [upd_ne (fun z => by
    rw [z, hD] at e2
    have e3 := Option.some.inj e2
    unfold CodeO at e3
    cases e3)]
  exact e2
/-- [a(lambda: ..) for f in the defs]: each gives ret -/
theorem lam_comp {K : PySem.W.Frag} {T : List (Addr × Str)} {te : TE} {σ : L2.St} {H : Hp} {Q : VK} {ret : Str} {xs : List V} {ca : Addr} {ic jc : Nat} (hcv : σ[ic]? = some (some (.ref ca))) (hca : H ca = some (.tup xs)) (hn : xs.length ≤ 100) (hw : ∀ x, wipe ((wipe σ [jc]).set jc (some x)) [jc] = wipe σ [jc]) (hT : Tabs T H)
    (hte : ∀ (i : Nat) (x : V) (H1 : Hp) (Q : VK), xs[i]? = some x → ExtN H H1 → Tabs T H1 → (∀ H2, ExtN H1 H2 → Tabs T H2 → Q (.str ret) H2) → te ((wipe σ [jc]).set jc (some x)) H1 Q)
    (q : ∀ D H', Tabs T H' → ExtN H H' → H' D = some (.lst (List.replicate xs.length (.str ret))) → Q (.ref D) H') : tLc (iTup K (tVar ic)) (gName jc) tYes te [jc] σ H Q := by
  refine ⟨.ref ca, hcv, ca, rfl, ⟨xs, SqT.of hca⟩, fun D hD => lc_tup (xs := xs) (fun i H' => Tabs T H' ∧ ExtN H H' ∧ H' D = some (.lst (List.replicate i (.str ret)))) ⟨hT.ext (Ex.new hD), ExtN.of (Ex.new hD), upd_same⟩ (fun i H' _ p => SqT.of (p.2.1 ca _ hca fun ps z => by cases z)) (fun i x H' hi p => ⟨hw x, ?_⟩) (fun H' p => q D H' p.1 p.2.1 p.2.2)⟩
  obtain ⟨p1, p2, p3⟩ := p
  refine (show ∀ A B : Prop, A → (if true = true then A else B) from fun A B h => by rw [if_pos rfl]; exact h) _ (Tabs T H' ∧ ExtN H H' ∧ H' D = some (.lst (List.replicate (i + 1) (.str ret)))) ?_
  rw [if_pos rfl]
  have hlt : i < xs.length := (List.getElem?_eq_some_iff.mp hi).1
  refine hte i x H' _ hi p2 p1 fun H2 e2 t2 => ?_
  have hD2 := e2 D _ p3 fun ps z => by cases z
  refine ⟨_, hD2, sz_lt (by rw [List.length_replicate]; omega), tabs_updL t2 hD2, fun b o hb hn => ?_, ?_⟩
  · rw [upd_ne (fun z => by rw [z, hD] at hb; cases hb)]
    exact e2 b o (p2 b o hb hn) hn
  · rw [upd_same, List.replicate_succ']
theorem rs_rep {ss : List Sh} {k : Nat} (h : ss.length * k ≤ 100000) (hk : k ≤ 1000) : RS rRep (.l ss) (shI k) (.l (List.replicate k ss).flatten) := fun x y H h1 h2 Q q => by
  obtain ⟨p, xs, rfl, e2, e3⟩ := is_l.mp h1
  refine ⟨p, k, xs, rfl, is_v.mp h2, e2, by omega, by omega, ?_, fun o ho => q _ _ (Ex.new ho) (is_l.mpr ⟨o, _, rfl, upd_same, ?_⟩)⟩
  · rw [isA_len e3]
    exact sz_of (by simpa using h)
  · have ek : (k : Int).toNat = k := by omega
    rw [ek]
    have key : ∀ m : Nat, IsA (List.replicate m ss).flatten (List.replicate m xs).flatten H := by
      intro m
      induction m with
      | zero => exact isA_nil.mpr rfl
      | succ m ih =>
        rw [List.replicate_succ, List.replicate_succ, List.flatten_cons, List.flatten_cons]
        exact isA_app e3 ih
    exact (key k).mono (Ex.new ho)
theorem rs_repT {K : PySem.W.Frag} {ss : List Sh} {k : Nat} (h0 : ss ≠ []) (h : ss.length ≤ 1000) (hk : 2 ≤ k) (hk2 : k ≤ 1000) : RS (rRepT K) (.t ss) (shI k) (.t (List.replicate k ss).flatten) := fun x y H h1 h2 Q q => by
  obtain ⟨p, xs, rfl, e2, e3⟩ := is_t.mp h1
  have hl := isA_len e3
  refine ⟨p, k, xs, rfl, is_v.mp h2, SqT.of e2, fun z => h0 ?_, by omega, by omega, by omega, fun o ho => q _ _ (Ex.new ho) (is_t.mpr ⟨o, _, rfl, upd_same, ?_⟩)⟩
  · rw [z] at hl
    exact List.length_eq_zero_iff.mp hl.symm
  · have ek : (k : Int).toNat = k := by omega
    rw [ek]
    have key : ∀ m : Nat, IsA (List.replicate m ss).flatten (List.replicate m xs).flatten H := by
      intro m
      induction m with
      | zero => exact isA_nil.mpr rfl
      | succ m ih =>
        rw [List.replicate_succ, List.replicate_succ, List.flatten_cons, List.flatten_cons]
        exact isA_app e3 ih
    exact (key k).mono (Ex.new ho)
theorem scError : FnScope ["_law_call", "e"] ["_law_call"] (defScope sError) := ⟨rfl, rfl, rfl, by decide +kernel, rfl, by decide +kernel, by decide +kernel⟩
abbrev lamQ : Str := ("law" : Str) ++ ".<locals>." ++ "<lambda>"
def forLcScope : Stmt → Scope
  | .For _ _ [.If (.Compare (.ListComp _ _ sc _) _ _ _) _ _ _] _ _ => sc
  | _ => { kind := .function, names := [], isGenerator := false, isCoroutine := false }
section
variable {P : Program} {w : World} {K : PySem.W.Frag} {mg : Str → Option Value} {base : Heap} {a : Ad} {fa cc Pt : Addr} {A : Around} {outer : List Env} {s : Shared} {H0 : Hp} {E : XK}
/-- one of the three -/
def okC (a : Ad) (f : Addr) : Prop := f = a.greatL.a ∨ f = a.comes.a ∨ f = a.fewest.a
abbrev spBad (a : Ad) : Sp := spF (fun _ _ => False) (gBad a.cLot a.cFolds)
theorem held_all (T : Txt K mg a) (TI : InitT P K a.cMany a.init) (bI : Binds K a.init.fd ["self", "limit"] []) : ∀ f, okC a f → ∃ (fd : FuncData) (ps : List Str), FnOk P w K mg base (L2.CX P w) 5 f fd ps (spBad a) ∧ PySem.W.keepIn K (.ref f) = true ∧ Binds K fd ps [] := by
  intro f hf
  rcases hf with rfl | rfl | rfl
  · exact ⟨_, _, (ok_greatL T).imp (fun vs H Q E h => h.elim (fun ⟨_, _, z, _⟩ => z.elim) .inr), T.greatL.fn.kp, T.greatL.bd⟩
  · exact ⟨_, _, (ok_comes T).imp (fun vs H Q E h => h.elim (fun ⟨_, _, z, _⟩ => z.elim) .inr), T.comes.fn.kp, T.comes.bd⟩
  · exact ⟨_, _, (ok_fewest T TI bI).imp (fun vs H Q E h => h.elim (fun ⟨_, _, z, _⟩ => z.elim) fun ⟨ss, C, fs, g, r⟩ => .inr ⟨ss, C, fs, .inl g, r⟩), T.fewest.fn.kp, T.fewest.bd⟩
theorem terr_of {cF cL cM : Addr} {tl : XK → Hp → VK → Prop} {H : Hp} {Q : VK} (h : tl (EErr cF cL cM Q) H (fun _ H' => Q (.str "") H')) : TErr cF cL cM tl H Q := h
theorem tcall_err {F : List Sh → Sh → Prop} {G : List Sh → Value → Option (List (Str × V)) → Prop} {ss : List Sh} {C : Value} {fs : Option (List (Str × V))} {E : XK} {ta : TA} {σ : L2.St} {H : Hp} {Q : VK} (h : EvAS ta σ H ss) (hg : G ss C fs) (k : ∀ d H2, Ex H H2 → ErrD d fs H2 → E C d H2) :
    tCall (spF F G) [] E ta σ H Q := h H (Ex.refl _) _ fun vs H2 e2 iv => by
  show spF F G (vs ++ []) H2 _ _
  rw [List.append_nil]
  exact .inr ⟨ss, C, fs, hg, iv, fun d H3 e3 he => k d H3 (e2.trans e3) he⟩
theorem l_lam1 (L : All P K mg a) (TB : TabB base mg cc Pt) (hr : Room 7 (lawA fa cc A s)) : ∃ t, PS (lawX P w K mg base fa cc A outer s H0 E) (lawSt 7) t ∧
    ∀ (D : Ends) (σ : L2.St) (H : Hp), Tabs [(Pt, lamQ)] H → (∀ H', ExtN H H' → Tabs [(Pt, lamQ)] H' → D.nx σ H') → t D σ H := by
  obtain ⟨T, TI, bI, TE⟩ := L
  have GF := ok_fewest (P := P) (w := w) (base := base) T TI bI
  obtain ⟨oc, od, kV, doc, pm, an, cdv, ct, osl, hfd, lk, hcd⟩ := T.error.fn.ex
  have hb := T.error.bd
  rw [hfd] at hb lk
  refine ⟨_, ps_if (pt_cmpR op_ne (by
      refine pe_lamcall (X := lawX P w K mg base fa cc A outer s H0 E) (T := [(Pt, lamQ)]) (TT := TErr a.cFolds a.cLot a.cMany) (Ng := ["_law_call", "e"]) (a := "_law_call") (k := 5) (t := fun E => tCall (spF fFew (gFew a.cLot a.cFolds a.cMany)) [] E (tCons (tTupRg (tRg2 (tUn (rU fun i => .int (-i)) (tC (.int 7))) (tC (.int 8)))) (tCons (tTup (tCons (tC (.int 0)) tNil)) tNil)))
        (by rfl) T.error.mg T.error.fn.kp lk hcd hb scError rfl (.inl rfl) (error_gives T TE TI.nL) TB rfl (List.mem_singleton.mpr rfl) (fun p hp _ => by rw [List.mem_singleton.mp hp]; rfl) hr (by exact lamS_by (sc := defScope sLaw) (by decide +kernel)) (by rfl) (fun _ _ _ _ _ => by rfl) (fun A2 o2 s2 H2 E2 f c' hr2 => ?_)
      exact pe_call GF hr2 (by rfl) T.fewest.mg T.fewest.fn.kp T.fewest.bd .nil (passes_call (takes_of rfl rfl rfl rfl) (fun _ _ _ _ h => h)) (pa_cons (pe_tupRg rfl (by rfl) T.bTuple (prg_2 (by rfl) T.bRange (pe_un un_neg pe_int) pe_int)) (pa_cons (pe_tup (pa_cons pe_int pa_nil)) pa_nil))) pe_str (nomark _)) (pss_one (ps_ret pe_bl)) pss_nil, fun D σ H hT k => ?_⟩
  refine ⟨hT, fun H1 eN T1 => ?_⟩
  have args : EvAS (tCons (tTupRg (tRg2 (tUn (rU fun i => .int (-i)) (tC (.int 7))) (tC (.int 8)))) (tCons (tTup (tCons (tC (.int 0)) tNil)) tNil)) σ H1 [tI (rangeI (-7) 15), tI [0]] :=
    es_cons (es_tupRg2 (lo := -7) (hi := 8) (es_un (s1 := shI 7) (s3 := shI (-7)) es_c rus_neg) es_c (by decide) (by decide) (by decide)) (es_cons (es_tup (ss := shs [0]) (es_cons es_c es_nil) (by decide)) es_nil)
  refine terr_of ?_
  refine tcall_err args (.inr ⟨rangeI (-7) 15, [0], rfl, good_by (by decide +kernel), by decide +kernel, rfl, rfl⟩) fun d H3 e13 he => ?_
  cases d with
  | none => exact he.elim
  | some dd =>
    refine .inr (.inr ⟨rfl, dd, rfl, he, ?_⟩)
    refine ⟨rfl, ?_⟩
    have es : V.str ("many" ++ toString (14 : Int)) = V.str "many14" := by decide +kernel
    rw [decide_eq_true es]
    exact ⟨false, rfl, iteF (k H3 (eN.trans (ExtN.of e13)) (T1.ext e13))⟩
end
end K46

/-! K21: law, what is no lot and what are no folds. -/
namespace K46
open PySem PySem.Spec PyProof.Rows L2 Evl
open LamX (Tabs TabS ExtN CodeO LamS lamS_by tLam pe_lamcall lamCx lamEnv TabB)
def oddL : List Sh := [.v .non, lI [0], tI [0, 0], .t [shB true], tI [100001], shI 0, tI (rangeI 0 257)]
def oddF : List Sh := [.v .non, lI [0], .t [shB true], tI [1000001], tI [0, 0, 0, 0, 0, 0, 0, 0, 0, 0, 0, 0, 0], shI 0]
theorem oddL_ok : ∀ x ∈ oddL, topOk x = true ∧ lotB x = false := fun x hx => by
  have h := List.all_eq_true.mp (show (oddL.all fun x => topOk x && !lotB x) = true by decide +kernel) x hx
  simpa using h
theorem oddF_ok : ∀ x ∈ oddF, topOk x = true ∧ foldsB x = false := fun x hx => by
  have h := List.all_eq_true.mp (show (oddF.all fun x => topOk x && !foldsB x) = true by decide +kernel) x hx
  simpa using h
def tri3 (r : Str) : Sh := .l [.v (.str r), .v (.str r), .v (.str r)]
theorem rs_neStr {K : PySem.W.Frag} (r : Str) (h1 : SeqAt.shaped (dat (tri3 r)) = true) (hb : PyData.eqv (dat (tri3 r)) (dat (tri3 r)) = true) : RS (rNeD K) (tri3 r) (tri3 r) (shB (!true)) := rs_neD (by unfold tri3; simp only [isDat, isDatA, flatV]; rfl) (by unfold tri3; simp only [isDat, isDatA, flatV]; rfl) h1 h1 hb
section
variable {P : Program} {w : World} {K : PySem.W.Frag} {mg : Str → Option Value} {base : Heap} {a : Ad} {fa cc Pt : Addr} {A : Around} {outer : List Env} {s : Shared} {H0 : Hp} {E : XK}
abbrev callsS (a : Ad) : Sh := .t [.v (.ref a.greatL.a), .v (.ref a.comes.a), .v (.ref a.fewest.a)]
theorem calls_at {a : Ad} {v : V} {H : Hp} (h : Is (callsS a) v H) : ∃ ca, v = .ref ca ∧ H ca = some (.tup [.ref a.greatL.a, .ref a.comes.a, .ref a.fewest.a]) := by
  obtain ⟨p, xs, rfl, hp, hxs⟩ := is_t.mp h
  obtain ⟨y1, r1, rfl, j1, k1⟩ := isA_cons.mp hxs
  obtain ⟨y2, r2, rfl, j2, k2⟩ := isA_cons.mp k1
  obtain ⟨y3, r3, rfl, j3, k3⟩ := isA_cons.mp k2
  rw [is_v.mp j1, is_v.mp j2, is_v.mp j3, isA_nil.mp k3] at hp
  exact ⟨p, rfl, hp⟩
theorem calls_ok {a : Ad} {i : Nat} {x : V} (h : ([V.ref a.greatL.a, .ref a.comes.a, .ref a.fewest.a])[i]? = some x) : ∃ f, x = .ref f ∧ okC a f := by
  match i, h with
  | 0, h => exact ⟨_, (Option.some.inj h).symm, .inl rfl⟩
  | 1, h => exact ⟨_, (Option.some.inj h).symm, .inr (.inl rfl)⟩
  | 2, h => exact ⟨_, (Option.some.inj h).symm, .inr (.inr rfl)⟩
  | n + 3, h => simp at h
/-- f(..), f one of the three, told off -/
theorem callX_bad {i : Nat} {f : Addr} {E : XK} {ta : TA} {σ : L2.St} {H : Hp} {Q : VK} {ss : List Sh} {C : Value} {fs : Option (List (Str × V))} (hs : σ[i]? = some (some (.ref f))) (hf : okC a f) (h : EvAS ta σ H ss) (hg : gBad a.cLot a.cFolds ss C fs) (k : ∀ d H2, Ex H H2 → ErrD d fs H2 → E C d H2) :
    tCallX i (okC a) (spBad a) E ta σ H Q := ⟨f, hs, hf, h H (Ex.refl _) _ fun vs H2 e2 iv => .inr ⟨ss, C, fs, hg, iv, fun d H3 e3 he => k d H3 (e2.trans e3) he⟩⟩
abbrev lamSig (v0 v1 c2 c3 c4 c5 c6 c7 c8 c9 : Option V) (vc : V) (c11 : Option V) : L2.St := [v0, v1, c2, c3, c4, c5, c6, c7, c8, c9, some vc, c11, none]
theorem l_calls (L : All P K mg a) : ∃ t, PS (lawX P w K mg base fa cc A outer s H0 E) (lawSt 9) t ∧ ∀ (D : Ends) (tz : TS) (v0 v1 c2 c3 c4 c5 c6 c7 c8 c9 : Option V) (H : Hp),
    (∀ vc H', Ex H H' → Is (callsS a) vc H' → tz D (lamSig v0 v1 c2 c3 c4 c5 c6 c7 c8 c9 vc none) H') → tSeq t tz D [v0, v1, c2, c3, c4, c5, c6, c7, c8, c9, none, none, none] H := by
  have T := L.T
  refine ⟨_, ps_set (i := 10) scLaw.nd rfl (.inl rfl) (pe_tup (pa_cons (pe_glob (v := .ref a.greatL.a) (by rfl) T.greatL.mg rfl) (pa_cons (pe_glob (v := .ref a.comes.a) (by rfl) T.comes.mg rfl) (pa_cons (pe_glob (v := .ref a.fewest.a) (by rfl) T.fewest.mg rfl) pa_nil)))), fun D tz v0 v1 c2 c3 c4 c5 c6 c7 c8 c9 H k => ?_⟩
  exact qs_asg (s := callsS a) (es_tup (es_cons es_c (es_cons es_c (es_cons es_c es_nil))) (by show 3 ≤ 100000; decide)) fun vc H1 e1 ic => k vc H1 e1 ic
theorem ifop {r : R2} {ta tb : TE} {u v : TS} {D : Ends} {σ : L2.St} {H : Hp} (h : ta σ H fun x H1 => tb σ H1 fun y H2 => r x y H2 fun z H3 => ∃ k, z = V.bl k ∧ if k = true then u D σ H3 else v D σ H3) : tIfS (tTest (tOp r ta tb)) u v D σ H := h
/-- the loop's reading -/
theorem odd_loop {odds : List Sh} {ret : Str} {cls : Addr} {te ta : TE} {tl : TA} {v0 v1 c2 c3 c4 c5 c6 c7 c8 c9 c11 : Option V} {vc : V} {H : Hp} {D : Ends} {ss : Sh → List Sh}
    (hcls : ∀ (Q : VK) d H', Q (.str ret) H' → EErr a.cFolds a.cLot a.cMany Q (.ref cls) d H') (hodds : ∀ {H : Hp}, EvS te (lamSig v0 v1 c2 c3 c4 c5 c6 c7 c8 c9 vc c11) H (.t odds)) (hic : Is (callsS a) vc H) (hT : Tabs [(Pt, lamQ)] H)
    (hargs : ∀ (x : Sh) (vx vf : V) (H1 : Hp), x ∈ odds → Is x vx H1 → EvAS tl [v0, v1, c2, c3, c4, c5, c6, c7, c8, c9, some vc, some vx, some vf] H1 (ss x)) (hbad : ∀ x ∈ odds, gBad a.cLot a.cFolds (ss x) (.ref cls) none)
    (hright : ∀ {σ : L2.St} {H : Hp}, EvS ta σ H (tri3 ret)) (h1 : SeqAt.shaped (dat (tri3 ret)) = true) (h2 : PyData.eqv (dat (tri3 ret)) (dat (tri3 ret)) = true)
    (k : ∀ c11 H', ExtN H H' → Tabs [(Pt, lamQ)] H' → D.nx (lamSig v0 v1 c2 c3 c4 c5 c6 c7 c8 c9 vc c11) H') :
    tFor (iTup K te) (gName 11) (tIfS (tTest (tOp (rNeD K) (tLc (iTup K (tVar 10)) (gName 12) tYes (tLam [(Pt, lamQ)] (TErr a.cFolds a.cLot a.cMany) fun E => tCallX 12 (okC a) (spBad a) E tl) [12]) ta)) (tRet (tC (.bl false))) tNext) D (lamSig v0 v1 c2 c3 c4 c5 c6 c7 c8 c9 vc c11) H := by
  refine s_forST hodds fun ao xs H1 e1 hao hxs => ?_
  refine ⟨fun i σ' H' => ∃ c11, σ' = lamSig v0 v1 c2 c3 c4 c5 c6 c7 c8 c9 vc c11 ∧ Tabs [(Pt, lamQ)] H' ∧ ExtN H1 H', ⟨c11, rfl, hT.ext e1, ExtN.refl _⟩, fun i σ' H' ⟨_, _, _, e⟩ => e ao _ hao fun ps z => (by cases z), fun i x sh σ' H' hi hs hP => ?_, fun σ' H' hP => ?_⟩
  · obtain ⟨c11', rfl, hT', e2⟩ := hP
    have hmem := List.mem_of_getElem? hi
    obtain ⟨ca, rfl, hca⟩ := calls_at ((hic.mono e1).extN e2)
    have hs' := hs.extN e2
    show tIfS _ _ _ _ [v0, v1, c2, c3, c4, c5, c6, c7, c8, c9, some (.ref ca), some x, none] H'
    refine ifop ?_
    refine lam_comp (T := [(Pt, lamQ)]) (ret := ret) (σ := [v0, v1, c2, c3, c4, c5, c6, c7, c8, c9, some (.ref ca), some x, none]) (ic := 10) (jc := 12) rfl hca (by show 3 ≤ 100; decide) (fun _ => rfl) hT' (fun i y H3 Q hy e3 T3 k3 => ?_) fun Dl H3 T3 e3 hD => ?_
    · obtain ⟨f, rfl, hf⟩ := calls_ok hy
      refine ⟨T3, fun H4 e4 T4 => ?_⟩
      refine terr_of ?_
      refine callX_bad rfl hf (hargs sh x (.ref f) H4 hmem (hs'.extN (e3.trans e4))) (hbad sh hmem) fun d H5 e5 he => ?_
      exact hcls _ d H5 (k3 H5 (e4.trans (ExtN.of e5)) (T4.ext e5))
    · refine hright H3 (Ex.refl _) _ fun v H4 e4 iv => ?_
      have il : Is (tri3 ret) (.ref Dl) H4 := is_l.mpr ⟨Dl, _, rfl, e4 _ _ hD, isA_cons.mpr ⟨_, _, rfl, is_v.mpr rfl, isA_cons.mpr ⟨_, _, rfl, is_v.mpr rfl, isA_cons.mpr ⟨_, _, rfl, is_v.mpr rfl, isA_nil.mpr rfl⟩⟩⟩⟩
      refine rs_neStr ret h1 h2 _ _ _ il iv _ fun u H5 e5 iu => ?_
      refine ⟨false, is_v.mp iu, iteF ?_⟩
      exact ⟨some x, rfl, T3.ext (e4.trans e5), (e2.trans e3).trans (ExtN.of (e4.trans e5))⟩
  · obtain ⟨c11', rfl, hT', e2⟩ := hP
    exact k c11' H' ((ExtN.of e1).trans e2) hT'
theorem l_odd (L : All P K mg a) (TB : TabB base mg cc Pt) (hr : Room 7 (lawA fa cc A s)) : ∃ t t', PS (lawX P w K mg base fa cc A outer s H0 E) (lawSt 10) t ∧ PS (lawX P w K mg base fa cc A outer s H0 E) (lawSt 11) t' ∧
    (∀ (D : Ends) (v0 v1 c2 c3 c4 c5 c6 c7 c8 c9 c11 : Option V) (vc : V) (H : Hp), Is (callsS a) vc H → Tabs [(Pt, lamQ)] H → (∀ c11 H', ExtN H H' → Tabs [(Pt, lamQ)] H' → D.nx (lamSig v0 v1 c2 c3 c4 c5 c6 c7 c8 c9 vc c11) H') → t D (lamSig v0 v1 c2 c3 c4 c5 c6 c7 c8 c9 vc c11) H) ∧
    ∀ (D : Ends) (v0 v1 c2 c3 c4 c5 c6 c7 c8 c9 c11 : Option V) (vc : V) (H : Hp), Is (callsS a) vc H → Tabs [(Pt, lamQ)] H → (∀ c11 H', ExtN H H' → Tabs [(Pt, lamQ)] H' → D.nx (lamSig v0 v1 c2 c3 c4 c5 c6 c7 c8 c9 vc c11) H') → t' D (lamSig v0 v1 c2 c3 c4 c5 c6 c7 c8 c9 vc c11) H := by
  obtain ⟨T, TI, bI, TE⟩ := L
  have GH := held_all (P := P) (w := w) (base := base) T TI bI
  obtain ⟨oc, od, kV, doc, pm, an, cdv, ct, osl, hfd, lk, hcd⟩ := T.error.fn.ex
  have hb := T.error.bd
  rw [hfd] at hb lk
  refine ⟨_, _, ps_for PassesOwn.never rfl (pi_tup (pe_tup (pa_cons pe_non (pa_cons (pe_lst (pa_cons pe_int pa_nil)) (pa_cons (pe_tup (pa_cons pe_int (pa_cons pe_int pa_nil))) (pa_cons (pe_tup (pa_cons pe_bl pa_nil)) (pa_cons (pe_tup (pa_cons (pe_op op_add (pe_op op_pow pe_int pe_int) pe_int) pa_nil)) (pa_cons pe_int (pa_cons (pe_tupRg rfl (by rfl) T.bTuple (prg_1 (by rfl) T.bRange pe_int)) pa_nil))))))))) (pg_name (i := 11) scLaw.nd rfl (.inr rfl))
      (pss_one (ps_if (pt_cmpR (op_neD hr.units) (pe_lc (own := [("_law_call", 12)]) (g := gName 12) (tt := tYes) (te := tLam [(Pt, lamQ)] (TErr a.cFolds a.cLot a.cMany) fun E => tCallX 12 (okC a) (spBad a) E (tCons (tVar 11) (tCons (tC .non) tNil))) rfl scLaw.nd (pi_tup (pv 10)) (blkOk_by (N := nLaw) (sc := defScope sLaw) (by decide +kernel))
          (fun _ _ _ _ _ => pg_name (i := 12) scLaw.nd rfl (.inr rfl)) (fun _ _ _ _ _ => pts_nil) (fun s1 H1 C1 cl1 fp1 => ?_)) (pe_op op_rep (pe_lst (pa_cons pe_str pa_nil)) pe_int) (nomark _)) (pss_one (ps_ret pe_bl)) pss_nil)),
    ps_for PassesOwn.never rfl (pi_tup (pe_tup (pa_cons pe_non (pa_cons (pe_lst (pa_cons pe_int pa_nil)) (pa_cons (pe_tup (pa_cons pe_bl pa_nil)) (pa_cons (pe_tup (pa_cons (pe_op op_add (pe_op op_pow pe_int pe_int) pe_int) pa_nil)) (pa_cons (pe_op op_repT (pe_tup (pa_cons pe_int pa_nil)) pe_int) (pa_cons pe_int pa_nil)))))))) (pg_name (i := 11) scLaw.nd rfl (.inr rfl))
      (pss_one (ps_if (pt_cmpR (op_neD hr.units) (pe_lc (own := [("_law_call", 12)]) (g := gName 12) (tt := tYes) (te := tLam [(Pt, lamQ)] (TErr a.cFolds a.cLot a.cMany) fun E => tCallX 12 (okC a) (spBad a) E (tCons (tTup (tCons (tC (.int 0)) tNil)) (tCons (tVar 11) tNil))) rfl scLaw.nd (pi_tup (pv 10)) (blkOk_by (N := nLaw) (sc := defScope sLaw) (by decide +kernel))
          (fun _ _ _ _ _ => pg_name (i := 12) scLaw.nd rfl (.inr rfl)) (fun _ _ _ _ _ => pts_nil) (fun s1 H1 C1 cl1 fp1 => ?_)) (pe_op op_rep (pe_lst (pa_cons pe_str pa_nil)) pe_int) (nomark _)) (pss_one (ps_ret pe_bl)) pss_nil)), ?_, ?_⟩
  · refine pe_lamcall (T := [(Pt, lamQ)]) (TT := TErr a.cFolds a.cLot a.cMany) (Ng := ["_law_call", "e"]) (a := "_law_call") (k := 5) (t := fun E => tCallX 12 (okC a) (spBad a) E (tCons (tVar 11) (tCons (tC .non) tNil)))
        (by rfl) T.error.mg T.error.fn.kp lk hcd hb scError rfl (.inl rfl) (error_gives T TE TI.nL) TB rfl (List.mem_singleton.mpr rfl) (fun p hp _ => by rw [List.mem_singleton.mp hp]; rfl) hr (by exact lamS_by (sc := relS (forLcScope (lawSt 10)) (defScope sLaw)) (by decide +kernel)) (by rfl) (fun _ _ _ _ _ => by rfl) (fun A2 o2 s2 H2 E2 f c' hr2 => ?_)
    exact pe_callX (i := 12) GH hr2 rfl (.inr (.inr rfl)) (passes_call (takes_of rfl rfl rfl rfl) (fun _ _ _ _ h => h)) (pa_cons (pv 11) (pa_cons pe_non pa_nil))
  · refine pe_lamcall (T := [(Pt, lamQ)]) (TT := TErr a.cFolds a.cLot a.cMany) (Ng := ["_law_call", "e"]) (a := "_law_call") (k := 5) (t := fun E => tCallX 12 (okC a) (spBad a) E (tCons (tTup (tCons (tC (.int 0)) tNil)) (tCons (tVar 11) tNil)))
        (by rfl) T.error.mg T.error.fn.kp lk hcd hb scError rfl (.inl rfl) (error_gives T TE TI.nL) TB rfl (List.mem_singleton.mpr rfl) (fun p hp _ => by rw [List.mem_singleton.mp hp]; rfl) hr (by exact lamS_by (sc := relS (forLcScope (lawSt 11)) (defScope sLaw)) (by decide +kernel)) (by rfl) (fun _ _ _ _ _ => by rfl) (fun A2 o2 s2 H2 E2 f c' hr2 => ?_)
    exact pe_callX (i := 12) GH hr2 rfl (.inr (.inr rfl)) (passes_call (takes_of rfl rfl rfl rfl) (fun _ _ _ _ h => h)) (pa_cons (pe_tup (pa_cons pe_int pa_nil)) (pa_cons (pv 11) pa_nil))
  · intro D v0 v1 c2 c3 c4 c5 c6 c7 c8 c9 c11 vc H ic hT k
    · refine odd_loop (odds := oddL) (ret := "lot") (cls := a.cLot) (ss := fun x => [x, .v .non]) (fun Q d H' q => .inr (.inl ⟨rfl, q⟩)) ?_ ic hT (fun x vx vf H1 _ ix => es_cons (es_var rfl ix) (es_cons es_c es_nil)) (fun x hx => .inl ⟨x, .v .non, rfl, (oddL_ok x hx).1, (oddL_ok x hx).2, rfl, rfl⟩) ?_ (by decide +kernel) (by decide +kernel) k
      · intro H
        exact es_tup (ss := oddL) (es_cons es_c (es_cons (es_lst (ss := shs [0]) (es_cons es_c es_nil) (by decide)) (es_cons (es_tup (ss := shs [0, 0]) (es_cons es_c (es_cons es_c es_nil)) (by decide)) (es_cons (es_tup (ss := [shB true]) (es_cons es_c es_nil) (by decide)) (es_cons (es_tup (ss := shs [100001]) (es_cons (es_op (s1 := shI (10 ^ 5)) (s2 := shI 1) (es_op (s1 := shI 10) (s2 := shI 5) es_c es_c (rs_I (C := CPow) (g := fun i j => .int (i ^ j.toNat)) ⟨by decide, by decide, by decide⟩)) es_c (rs_I0 (g := fun i j => .int (i + j)))) es_nil) (by decide)) (es_cons es_c (es_cons (es_tupRg (n := 257) (by decide)) es_nil))))))) (by decide)
      · intro σ H
        exact es_op (s1 := .l [.v (.str "lot")]) (s2 := shI (3 : Nat)) (es_lst (es_cons es_c es_nil) (by show 1 ≤ 100000; decide)) es_c (rs_rep (by decide) (by decide))
  · intro D v0 v1 c2 c3 c4 c5 c6 c7 c8 c9 c11 vc H ic hT k
    · refine odd_loop (odds := oddF) (ret := "folds") (cls := a.cFolds) (ss := fun x => [tI [0], x]) (fun Q d H' q => .inl ⟨rfl, q⟩) ?_ ic hT (fun x vx vf H1 _ ix => es_cons (es_tup (ss := shs [0]) (es_cons es_c es_nil) (by decide)) (es_cons (es_var rfl ix) es_nil)) (fun x hx => .inr ⟨tI [0], x, rfl, by decide +kernel, by decide +kernel, (oddF_ok x hx).1, (oddF_ok x hx).2, rfl, rfl⟩) ?_ (by decide +kernel) (by decide +kernel) k
      · intro H
        exact es_tup (ss := oddF) (es_cons es_c (es_cons (es_lst (ss := shs [0]) (es_cons es_c es_nil) (by decide)) (es_cons (es_tup (ss := [shB true]) (es_cons es_c es_nil) (by decide)) (es_cons (es_tup (ss := shs [1000001]) (es_cons (es_op (s1 := shI (10 ^ 6)) (s2 := shI 1) (es_op (s1 := shI 10) (s2 := shI 6) es_c es_c (rs_I (C := CPow) (g := fun i j => .int (i ^ j.toNat)) ⟨by decide, by decide, by decide⟩)) es_c (rs_I0 (g := fun i j => .int (i + j)))) es_nil) (by decide)) (es_cons (es_op (s2 := shI (13 : Nat)) (es_tup (ss := shs [0]) (es_cons es_c es_nil) (by decide)) es_c (rs_repT (by decide) (by decide) (by decide) (by decide))) (es_cons es_c es_nil)))))) (by decide)
      · intro σ H
        exact es_op (s1 := .l [.v (.str "folds")]) (s2 := shI (3 : Nat)) (es_lst (es_cons es_c es_nil) (by show 1 ≤ 100000; decide)) es_c (rs_rep (by decide) (by decide))
end
end K46

/-! K22: law. -/
namespace K46
open PySem PySem.Spec PyProof.Rows L2 Evl
open LamX (Tabs TabS ExtN CodeO TabB)
def spLaw (K : PySem.W.Frag) (Pt : Addr) : Sp := fun vs H Q _ => ∃ (l : Addr) (ns : List Int), vs = [.ref l] ∧ SqL K H l (ns.map V.int) ∧ ns.length ≤ 63 ∧ H Pt = some (.tbl #[]) ∧ ∀ H', Q (.bl true) H'
theorem body_law : defBody sLaw = [lawSt 0, lawSt 1, lawSt 2, lawSt 3, lawSt 4, lawSt 5, lawSt 6, lawSt 7, lawSt 8, lawSt 9, lawSt 10, lawSt 11, lawSt 12] := rfl
section
variable {P : Program} {w : World} {K : PySem.W.Frag} {mg : Str → Option Value} {base : Heap} {a : Ad} {fa cc Pt : Addr}
theorem ok_law {kV doc pm ct oc : Value} {an od : Option Addr} {osl : Array (Option Value)} (L : All P K mg a) (TB : TabB base mg cc Pt)
    (lk : K.lookup fa = some ⟨oc, od, .func (PySem.W.fnOf "law" "law" (defArgs sLaw) (defBody sLaw) (defScope sLaw) .none kV doc pm an (.ref cc) ct), osl⟩) (hcd : PySem.W.codeIn K (.ref cc) "law" = true) :
    FnOk P w K mg base CX0 8 fa (PySem.W.fnOf "law" "law" (defArgs sLaw) (defBody sLaw) (defScope sLaw) .none kV doc pm an (.ref cc) ct) ["_law_script"] (spLaw K Pt) := by
  have T := L.T
  have GCu := ok_cup (P := P) (w := w) (base := base) T
  refine fn_of lk hcd scLaw (fun vs H Q E ⟨_, _, e, _⟩ => by rw [e]; rfl) fun A outer s H vs Q E hr hsp => ?_
  obtain ⟨l, ns, rfl, hS, hn, hP, q⟩ := hsp
  obtain ⟨t1, p1, r1⟩ := l_turns (P := P) (w := w) (base := base) (fa := fa) (cc := cc) (A := A) (outer := outer) (s := s) (H0 := H) (E := E) L hr
  obtain ⟨t2, t3, t4, t5, t6, t8, p2, p3, p4, p5, p6, p8, rr, r8⟩ := l_rows (P := P) (w := w) (base := base) (fa := fa) (cc := cc) (A := A) (outer := outer) (s := s) (H0 := H) (E := E) L hr
  obtain ⟨t7, p7, r7⟩ := l_lam1 (P := P) (w := w) (base := base) (fa := fa) (cc := cc) (A := A) (outer := outer) (s := s) (H0 := H) (E := E) L TB hr
  obtain ⟨t9, p9, r9⟩ := l_calls (P := P) (w := w) (base := base) (fa := fa) (cc := cc) (A := A) (outer := outer) (s := s) (H0 := H) (E := E) L
  obtain ⟨t10, t11, p10, p11, r10, r11⟩ := l_odd (P := P) (w := w) (base := base) (fa := fa) (cc := cc) (A := A) (outer := outer) (s := s) (H0 := H) (E := E) L TB hr
  have p0 : PS (lawX P w K mg base fa cc A outer s H E) (lawSt 0) (tAsg (tCall (spCup K) [] E0 (tCons (tVar 0) tNil)) (gName 1)) := ps_set (i := 1) scLaw.nd rfl (.inl rfl) (pe_call GCu (hr.mono (by decide)) (by rfl) T.cup.mg T.cup.fn.kp T.cup.bd .nil pass0 (pa_cons (pv 0) pa_nil))
  have p12 : PS (lawX P w K mg base fa cc A outer s H E) (lawSt 12) (tRet (tC (.bl true))) := ps_ret pe_bl
  have body := pss_cons p0 (pss_cons p1 (pss_cons p2 (pss_cons p3 (pss_cons p4 (pss_cons p5 (pss_cons p6 (pss_cons p7 (pss_cons p8 (pss_cons p9 (pss_cons p10 (pss_cons p11 (pss_one p12))))))))))))
  rw [← body_law] at body
  refine ⟨_, body.nox, ?_⟩
  refine ⟨.ref l, rfl, l, ns, rfl, hS, by omega, fun c H1 e1 hc => ?_⟩
  refine r1 _ c (.ref l) H1 hc fun c2 c3 c4 c5 c6 H2 hc2 ho2 => ?_
  have hP1 := e1 _ _ hP
  have hPc : Pt ≠ c := fun z => by
    obtain ⟨x, y, e⟩ := hc
    rw [z, e] at hP1
    cases hP1
  have hP2 := ho2 _ _ hPc hP1
  refine rr _ _ _ _ _ _ _ _ _ _ fun c2 c3 c4 c5 c6 c7 c8 c9 H3 e3 => ?_
  have hT3 : Tabs [(Pt, lamQ)] H3 := fun p hp => by
    rw [List.mem_singleton.mp hp]
    exact TabS.nil (e3 _ _ hP2)
  refine r7 _ _ H3 hT3 fun H4 e4 hT4 => ?_
  refine r8 _ _ _ H4 fun H5 e5 => ?_
  refine r9 _ _ _ _ _ _ _ _ _ _ _ _ H5 fun vc H6 e6 ic => ?_
  refine r10 _ _ _ _ _ _ _ _ _ _ _ _ vc H6 ic (hT4.ext (e5.trans e6)) fun c11 H7 e7 hT7 => ?_
  refine r11 _ _ _ _ _ _ _ _ _ _ _ _ vc H7 (ic.extN e7) hT7 fun c11 H8 e8 hT8 => ?_
  exact q H8
end
end K46

/-! K23: the end. -/
namespace K46
open PySem PySem.Spec PyProof.Rows L2
open PySem.W (nsIn findIn typeIn subIn keepIn codeIn isClsIn hasDictIn mroIn fnOf)
theorem exm_of {K : PySem.W.Frag} {c S : Addr} {b : Bool} (h1 : subIn K (.ref S) (.type "BaseException") = some true) (h2 : isClsIn K S = true) (h3 : typeIn K (.ref S) = some (.type "type")) (h4 : subIn K (.ref c) (.ref S) = some b) : PySem.W.exmOne K (.ref c) (.ref S) = some b := by
  have e1 : (subIn K (.ref S) (.type "BaseException") == some true) = true := by rw [h1] <;> rfl
  have e2 : ((PySem.W.clsIn K S).isSome && typeIn K (.ref S) == some (.type "type")) = true := by
    have h2' : (PySem.W.clsIn K S).isSome = true := h2
    rw [h2', h3] <;> rfl
  show (if (subIn K (.ref S) (.type "BaseException") == some true) = true then (if ((PySem.W.clsIn K S).isSome && typeIn K (.ref S) == some (.type "type")) = true then subIn K (.ref c) (.ref S) else none) else none) = some b
  rw [if_pos e1, if_pos e2]
  exact h4
theorem all_mk {w : World} {K : PySem.W.Frag} {h : Heap} {mg : Str → Option Value} {fa cF cM cL cE fI ccI cdI cc Pt : Addr} {f0 f1 f2 f3 f4 f5 f6 f7 f8 f9 f10 f11 f12 f13 f14 f15 f16 f17 f18 f19 f20 f21 f22 f23 f24 fL : Addr} {od0 an0 : Option Addr} {sl0 : Array (Option Value)} {oc0 kV0 dc0 pm0 ct0 : Value} {cd0 : Value} {od1 an1 : Option Addr} {sl1 : Array (Option Value)} {oc1 kV1 dc1 pm1 ct1 : Value} {cd1 : Value} {od2 an2 : Option Addr} {sl2 : Array (Option Value)} {oc2 kV2 dc2 pm2 ct2 : Value} {cd2 : Value} {od3 an3 : Option Addr} {sl3 : Array (Option Value)} {oc3 kV3 dc3 pm3 ct3 : Value} {cd3 : Value} {od4 an4 : Option Addr} {sl4 : Array (Option Value)} {oc4 kV4 dc4 pm4 ct4 : Value} {cd4 : Value} {od5 an5 : Option Addr} {sl5 : Array (Option Value)} {oc5 kV5 dc5 pm5 ct5 : Value} {cd5 : Value} {od6 an6 : Option Addr} {sl6 : Array (Option Value)} {oc6 kV6 dc6 pm6 ct6 : Value} {cd6 : Value} {od7 an7 : Option Addr} {sl7 : Array (Option Value)} {oc7 kV7 dc7 pm7 ct7 : Value} {cd7 : Value} {od8 an8 : Option Addr} {sl8 : Array (Option Value)} {oc8 kV8 dc8 pm8 ct8 : Value} {cd8 : Value} {od9 an9 : Option Addr} {sl9 : Array (Option Value)} {oc9 kV9 dc9 pm9 ct9 : Value} {cd9 : Value} {od10 an10 : Option Addr} {sl10 : Array (Option Value)} {oc10 kV10 dc10 pm10 ct10 : Value} {cd10 : Value} {od11 an11 : Option Addr} {sl11 : Array (Option Value)} {oc11 kV11 dc11 pm11 ct11 : Value} {cd11 : Value} {od12 an12 : Option Addr} {sl12 : Array (Option Value)} {oc12 kV12 dc12 pm12 ct12 : Value} {cd12 : Value} {od13 an13 : Option Addr} {sl13 : Array (Option Value)} {oc13 kV13 dc13 pm13 ct13 : Value} {cd13 : Value} {od14 an14 : Option Addr} {sl14 : Array (Option Value)} {oc14 kV14 dc14 pm14 ct14 : Value} {cd14 : Value} {od15 an15 : Option Addr} {sl15 : Array (Option Value)} {oc15 kV15 dc15 pm15 ct15 : Value} {cd15 : Value} {od16 an16 : Option Addr} {sl16 : Array (Option Value)} {oc16 kV16 dc16 pm16 ct16 : Value} {cd16 : Value} {od17 an17 : Option Addr} {sl17 : Array (Option Value)} {oc17 kV17 dc17 pm17 ct17 : Value} {cd17 : Value} {od18 an18 : Option Addr} {sl18 : Array (Option Value)} {oc18 kV18 dc18 pm18 ct18 : Value} {cd18 : Value} {od19 an19 : Option Addr} {sl19 : Array (Option Value)} {oc19 kV19 dc19 pm19 ct19 : Value} {cd19 : Value} {od20 an20 : Option Addr} {sl20 : Array (Option Value)} {oc20 kV20 dc20 pm20 ct20 : Value} {cd20 : Value} {od21 an21 : Option Addr} {sl21 : Array (Option Value)} {oc21 kV21 dc21 pm21 ct21 : Value} {cd21 : Value} {od22 an22 : Option Addr} {sl22 : Array (Option Value)} {oc22 kV22 dc22 pm22 ct22 : Value} {cd22 : Value} {od23 an23 : Option Addr} {sl23 : Array (Option Value)} {oc23 kV23 dc23 pm23 ct23 : Value} {cd23 : Value} {od24 an24 : Option Addr} {sl24 : Array (Option Value)} {oc24 kV24 dc24 pm24 ct24 : Value} {cd24 : Value} {odL anL : Option Addr} {slL : Array (Option Value)} {ocL kVL dcL pmL ctL : Value} {ecc : Value} {ddc : Option Addr} {vsc : Array Value} {slc : Array (Option Value)} {t_cCrease : Tok} {t_cFOLDS : Tok} {t_cPLACES : Tok} {t_cFAR : Tok} {t_cMOST : Tok} {t_cP14 : Tok} {nm qn : Str} {N : Addr} {bs bm : List Value} {sn : List Str} {sub : List Value} {ab : Bool} {col : Option Bool} {dd : Option Addr} {m0 m1 m2 m3 m5 : Option Value} {ocI kVI dcI pmI ctI : Value} {odI anI : Option Addr} {slI : Array (Option Value)} {clC ccl : Value} {cldC cddI : Option Addr} {cslC ccs : Array (Option Value)} {vsI : Array Value} {file : Str} {tf : Tok}
    (X : K.In h) (G : h.Ns mainGlobals mg) (hfa : mg "law" = some (.ref fa)) (own : LamX.OwnTab K fa h)
    (a0 : nsIn K mainGlobals "is_whole" = some (some (.ref f0)))
    (l0 : K.lookup f0 = some ⟨oc0, od0, .func (fnOf "is_whole" "is_whole" (defArgs sWhole) (defBody sWhole) (defScope sWhole) .none kV0 dc0 pm0 an0 cd0 ct0), sl0⟩)
    (c0 : codeIn K cd0 "is_whole" = true)
    (k0 : keepIn K (.ref f0) = true)
    (a1 : nsIn K mainGlobals "is_tuple_of" = some (some (.ref f1)))
    (l1 : K.lookup f1 = some ⟨oc1, od1, .func (fnOf "is_tuple_of" "is_tuple_of" (defArgs sTupOf) (defBody sTupOf) (defScope sTupOf) .none kV1 dc1 pm1 an1 cd1 ct1), sl1⟩)
    (c1 : codeIn K cd1 "is_tuple_of" = true)
    (k1 : keepIn K (.ref f1) = true)
    (a2 : nsIn K mainGlobals "fits_crease" = some (some (.ref f2)))
    (l2 : K.lookup f2 = some ⟨oc2, od2, .func (fnOf "fits_crease" "fits_crease" (defArgs sCrease) (defBody sCrease) (defScope sCrease) .none kV2 dc2 pm2 an2 cd2 ct2), sl2⟩)
    (c2 : codeIn K cd2 "fits_crease" = true)
    (k2 : keepIn K (.ref f2) = true)
    (a3 : nsIn K mainGlobals "fits_folds" = some (some (.ref f3)))
    (l3 : K.lookup f3 = some ⟨oc3, od3, .func (fnOf "fits_folds" "fits_folds" (defArgs sFoldsF) (defBody sFoldsF) (defScope sFoldsF) .none kV3 dc3 pm3 an3 cd3 ct3), sl3⟩)
    (c3 : codeIn K cd3 "fits_folds" = true)
    (k3 : keepIn K (.ref f3) = true)
    (a4 : nsIn K mainGlobals "need_folds" = some (some (.ref f4)))
    (l4 : K.lookup f4 = some ⟨oc4, od4, .func (fnOf "need_folds" "need_folds" (defArgs sNeedF) (defBody sNeedF) (defScope sNeedF) .none kV4 dc4 pm4 an4 cd4 ct4), sl4⟩)
    (c4 : codeIn K cd4 "need_folds" = true)
    (k4 : keepIn K (.ref f4) = true)
    (a5 : nsIn K mainGlobals "fits_lot" = some (some (.ref f5)))
    (l5 : K.lookup f5 = some ⟨oc5, od5, .func (fnOf "fits_lot" "fits_lot" (defArgs sLotF) (defBody sLotF) (defScope sLotF) .none kV5 dc5 pm5 an5 cd5 ct5), sl5⟩)
    (c5 : codeIn K cd5 "fits_lot" = true)
    (k5 : keepIn K (.ref f5) = true)
    (a6 : nsIn K mainGlobals "inked" = some (some (.ref f6)))
    (l6 : K.lookup f6 = some ⟨oc6, od6, .func (fnOf "inked" "inked" (defArgs sInked) (defBody sInked) (defScope sInked) .none kV6 dc6 pm6 an6 cd6 ct6), sl6⟩)
    (c6 : codeIn K cd6 "inked" = true)
    (k6 : keepIn K (.ref f6) = true)
    (a7 : nsIn K mainGlobals "need_lot" = some (some (.ref f7)))
    (l7 : K.lookup f7 = some ⟨oc7, od7, .func (fnOf "need_lot" "need_lot" (defArgs sNeedL) (defBody sNeedL) (defScope sNeedL) .none kV7 dc7 pm7 an7 cd7 ct7), sl7⟩)
    (c7 : codeIn K cd7 "need_lot" = true)
    (k7 : keepIn K (.ref f7) = true)
    (a8 : nsIn K mainGlobals "inked_by" = some (some (.ref f8)))
    (l8 : K.lookup f8 = some ⟨oc8, od8, .func (fnOf "inked_by" "inked_by" (defArgs sInkedBy) (defBody sInkedBy) (defScope sInkedBy) .none kV8 dc8 pm8 an8 cd8 ct8), sl8⟩)
    (c8 : codeIn K cd8 "inked_by" = true)
    (k8 : keepIn K (.ref f8) = true)
    (a9 : nsIn K mainGlobals "greatest_in" = some (some (.ref f9)))
    (l9 : K.lookup f9 = some ⟨oc9, od9, .func (fnOf "greatest_in" "greatest_in" (defArgs sGreatIn) (defBody sGreatIn) (defScope sGreatIn) .none kV9 dc9 pm9 an9 cd9 ct9), sl9⟩)
    (c9 : codeIn K cd9 "greatest_in" = true)
    (k9 : keepIn K (.ref f9) = true)
    (a10 : nsIn K mainGlobals "lots_with" = some (some (.ref f10)))
    (l10 : K.lookup f10 = some ⟨oc10, od10, .func (fnOf "lots_with" "lots_with" (defArgs sLotsW) (defBody sLotsW) (defScope sLotsW) .none kV10 dc10 pm10 an10 cd10 ct10), sl10⟩)
    (c10 : codeIn K cd10 "lots_with" = true)
    (k10 : keepIn K (.ref f10) = true)
    (a11 : nsIn K mainGlobals "greatest_lot" = some (some (.ref f11)))
    (l11 : K.lookup f11 = some ⟨oc11, od11, .func (fnOf "greatest_lot" "greatest_lot" (defArgs sGreatL) (defBody sGreatL) (defScope sGreatL) .none kV11 dc11 pm11 an11 cd11 ct11), sl11⟩)
    (c11 : codeIn K cd11 "greatest_lot" = true)
    (k11 : keepIn K (.ref f11) = true)
    (a12 : nsIn K mainGlobals "comes_of_some" = some (some (.ref f12)))
    (l12 : K.lookup f12 = some ⟨oc12, od12, .func (fnOf "comes_of_some" "comes_of_some" (defArgs sComes) (defBody sComes) (defScope sComes) .none kV12 dc12 pm12 an12 cd12 ct12), sl12⟩)
    (c12 : codeIn K cd12 "comes_of_some" = true)
    (k12 : keepIn K (.ref f12) = true)
    (a13 : nsIn K mainGlobals "fewest_before" = some (some (.ref f13)))
    (l13 : K.lookup f13 = some ⟨oc13, od13, .func (fnOf "fewest_before" "fewest_before" (defArgs sFewest) (defBody sFewest) (defScope sFewest) .none kV13 dc13 pm13 an13 cd13 ct13), sl13⟩)
    (c13 : codeIn K cd13 "fewest_before" = true)
    (k13 : keepIn K (.ref f13) = true)
    (a14 : nsIn K mainGlobals "_law_cup" = some (some (.ref f14)))
    (l14 : K.lookup f14 = some ⟨oc14, od14, .func (fnOf "_law_cup" "_law_cup" (defArgs sCup) (defBody sCup) (defScope sCup) .none kV14 dc14 pm14 an14 cd14 ct14), sl14⟩)
    (c14 : codeIn K cd14 "_law_cup" = true)
    (k14 : keepIn K (.ref f14) = true)
    (a15 : nsIn K mainGlobals "_law_roll" = some (some (.ref f15)))
    (l15 : K.lookup f15 = some ⟨oc15, od15, .func (fnOf "_law_roll" "_law_roll" (defArgs sRoll) (defBody sRoll) (defScope sRoll) .none kV15 dc15 pm15 an15 cd15 ct15), sl15⟩)
    (c15 : codeIn K cd15 "_law_roll" = true)
    (k15 : keepIn K (.ref f15) = true)
    (a16 : nsIn K mainGlobals "_law_some" = some (some (.ref f16)))
    (l16 : K.lookup f16 = some ⟨oc16, od16, .func (fnOf "_law_some" "_law_some" (defArgs sSome) (defBody sSome) (defScope sSome) .none kV16 dc16 pm16 an16 cd16 ct16), sl16⟩)
    (c16 : codeIn K cd16 "_law_some" = true)
    (k16 : keepIn K (.ref f16) = true)
    (a17 : nsIn K mainGlobals "_law_folds" = some (some (.ref f17)))
    (l17 : K.lookup f17 = some ⟨oc17, od17, .func (fnOf "_law_folds" "_law_folds" (defArgs sFolds) (defBody sFolds) (defScope sFolds) .none kV17 dc17 pm17 an17 cd17 ct17), sl17⟩)
    (c17 : codeIn K cd17 "_law_folds" = true)
    (k17 : keepIn K (.ref f17) = true)
    (a18 : nsIn K mainGlobals "_law_inked" = some (some (.ref f18)))
    (l18 : K.lookup f18 = some ⟨oc18, od18, .func (fnOf "_law_inked" "_law_inked" (defArgs sLInk) (defBody sLInk) (defScope sLInk) .none kV18 dc18 pm18 an18 cd18 ct18), sl18⟩)
    (c18 : codeIn K cd18 "_law_inked" = true)
    (k18 : keepIn K (.ref f18) = true)
    (a19 : nsIn K mainGlobals "_law_lot" = some (some (.ref f19)))
    (l19 : K.lookup f19 = some ⟨oc19, od19, .func (fnOf "_law_lot" "_law_lot" (defArgs sLLot) (defBody sLLot) (defScope sLLot) .none kV19 dc19 pm19 an19 cd19 ct19), sl19⟩)
    (c19 : codeIn K cd19 "_law_lot" = true)
    (k19 : keepIn K (.ref f19) = true)
    (a20 : nsIn K mainGlobals "_law_error" = some (some (.ref f20)))
    (l20 : K.lookup f20 = some ⟨oc20, od20, .func (fnOf "_law_error" "_law_error" (defArgs sError) (defBody sError) (defScope sError) .none kV20 dc20 pm20 an20 cd20 ct20), sl20⟩)
    (c20 : codeIn K cd20 "_law_error" = true)
    (k20 : keepIn K (.ref f20) = true)
    (a21 : nsIn K mainGlobals "_law_greatest" = some (some (.ref f21)))
    (l21 : K.lookup f21 = some ⟨oc21, od21, .func (fnOf "_law_greatest" "_law_greatest" (defArgs sLGreat) (defBody sLGreat) (defScope sLGreat) .none kV21 dc21 pm21 an21 cd21 ct21), sl21⟩)
    (c21 : codeIn K cd21 "_law_greatest" = true)
    (k21 : keepIn K (.ref f21) = true)
    (a22 : nsIn K mainGlobals "_law_fewest" = some (some (.ref f22)))
    (l22 : K.lookup f22 = some ⟨oc22, od22, .func (fnOf "_law_fewest" "_law_fewest" (defArgs sLFew) (defBody sLFew) (defScope sLFew) .none kV22 dc22 pm22 an22 cd22 ct22), sl22⟩)
    (c22 : codeIn K cd22 "_law_fewest" = true)
    (k22 : keepIn K (.ref f22) = true)
    (a23 : nsIn K mainGlobals "_law_right" = some (some (.ref f23)))
    (l23 : K.lookup f23 = some ⟨oc23, od23, .func (fnOf "_law_right" "_law_right" (defArgs sRight) (defBody sRight) (defScope sRight) .none kV23 dc23 pm23 an23 cd23 ct23), sl23⟩)
    (c23 : codeIn K cd23 "_law_right" = true)
    (k23 : keepIn K (.ref f23) = true)
    (a24 : nsIn K mainGlobals "_law_two_right" = some (some (.ref f24)))
    (l24 : K.lookup f24 = some ⟨oc24, od24, .func (fnOf "_law_two_right" "_law_two_right" (defArgs sTwo) (defBody sTwo) (defScope sTwo) .none kV24 dc24 pm24 an24 cd24 ct24), sl24⟩)
    (c24 : codeIn K cd24 "_law_two_right" = true)
    (k24 : keepIn K (.ref f24) = true)
    (aLw : nsIn K mainGlobals "law" = some (some (.ref fL)))
    (lLw : K.lookup fL = some ⟨ocL, odL, .func (fnOf "law" "law" (defArgs sLaw) (defBody sLaw) (defScope sLaw) .none kVL dcL pmL anL (.ref cc) ctL), slL⟩)
    (cLw : codeIn K (.ref cc) "law" = true)
    (lcc : K.lookup cc = some ⟨ecc, ddc, .fields vsc, slc⟩)
    (v11 : vsc[11]? = some (.ref Pt))
    (hPt : K.lookup Pt = none)
    (hdc : PySem.W.codeHdIn K cc Pt = true)
    (gF : nsIn K mainGlobals "InvalidFolds" = some (some (.ref cF)))
    (kcF : keepIn K (.ref cF) = true)
    (bF : subIn K (.ref cF) (.type "BaseException") = some true)
    (tF : typeIn K (.ref cF) = some (.type "type"))
    (iF : isClsIn K cF = true)
    (gM : nsIn K mainGlobals "TooMany" = some (some (.ref cM)))
    (kcM : keepIn K (.ref cM) = true)
    (bM : subIn K (.ref cM) (.type "BaseException") = some true)
    (tM : typeIn K (.ref cM) = some (.type "type"))
    (iM : isClsIn K cM = true)
    (gL : nsIn K mainGlobals "InvalidLot" = some (some (.ref cL)))
    (kcL : keepIn K (.ref cL) = true)
    (bL : subIn K (.ref cL) (.type "BaseException") = some true)
    (tL : typeIn K (.ref cL) = some (.type "type"))
    (iL : isClsIn K cL = true)
    (gE : nsIn K mainGlobals "FoldError" = some (some (.ref cE)))
    (kcE : keepIn K (.ref cE) = true)
    (bE : subIn K (.ref cE) (.type "BaseException") = some true)
    (tE : typeIn K (.ref cE) = some (.type "type"))
    (iE : isClsIn K cE = true)
    (xF : PySem.W.excIn K cF [.type "ValueError", .type "Exception", .type "BaseException", .type "object"] "ValueError.__new__" = true)
    (xL : PySem.W.excIn K cL [.type "ValueError", .type "Exception", .type "BaseException", .type "object"] "ValueError.__new__" = true)
    (sFF : subIn K (.ref cF) (.ref cF) = some true)
    (sLF : subIn K (.ref cL) (.ref cF) = some false)
    (sLL : subIn K (.ref cL) (.ref cL) = some true)
    (sMF : subIn K (.ref cM) (.ref cF) = some false)
    (sML : subIn K (.ref cM) (.ref cL) = some false)
    (sMM : subIn K (.ref cM) (.ref cM) = some true)
    (n_cCrease : nsIn K mainGlobals "CREASE" = some (some (.int 1000000 t_cCrease)))
    (n_cFOLDS : nsIn K mainGlobals "FOLDS" = some (some (.int 12 t_cFOLDS)))
    (n_cPLACES : nsIn K mainGlobals "PLACES_inkedplaces" = some (some (.int 256 t_cPLACES)))
    (n_cFAR : nsIn K mainGlobals "FARTHEST" = some (some (.int 100000 t_cFAR)))
    (n_cMOST : nsIn K mainGlobals "MOST" = some (some (.int 10000 t_cMOST)))
    (n_cP14 : nsIn K mainGlobals "PLACES_greatestlots" = some (some (.int 14 t_cP14)))
    (z_isinstance : nsIn K mainGlobals "isinstance" = some none)
    (z_int : nsIn K mainGlobals "int" = some none)
    (z_bool : nsIn K mainGlobals "bool" = some none)
    (z_tuple : nsIn K mainGlobals "tuple" = some none)
    (z_len : nsIn K mainGlobals "len" = some none)
    (z_all : nsIn K mainGlobals "all" = some none)
    (z_zip : nsIn K mainGlobals "zip" = some none)
    (z_list : nsIn K mainGlobals "list" = some none)
    (z_sorted : nsIn K mainGlobals "sorted" = some none)
    (z_set : nsIn K mainGlobals "set" = some none)
    (z_dict : nsIn K mainGlobals "dict" = some none)
    (z_range : nsIn K mainGlobals "range" = some none)
    (z_abs : nsIn K mainGlobals "abs" = some none)
    (z_str : nsIn K mainGlobals "str" = some none)
    (z_super : nsIn K mainGlobals "super" = some none)
    (lM : K.lookup cM = some (excClassObj nm qn cM N bs bm true sn sub ab col dd m0 m1 m2 m3 m5 "ValueError.__new__"))
    (hbm : PySem.HandSPX.refsVE bm = true)
    (saM : findIn K (.ref cM) "__setattr__" = some (some (.builtin "object.__setattr__")))
    (gaM : findIn K (.ref cM) "__getattribute__" = some (some (.builtin "BaseException.__getattribute__")))
    (ggM : findIn K (.ref cM) "__getattr__" = some none)
    (nLM : findIn K (.ref cM) "limit" = some none)
    (iMM : findIn K (.ref cM) "__init__" = some (some (.ref fI)))
    (tIM : typeIn K (.ref fI) = some (.type "function"))
    (hdM : hasDictIn K cM = true)
    (supM : PySem.W.ks_superIn K cM cM "__init__" = some (some (.builtin "ValueError.__init__")))
    (veM : subIn K (.ref cM) (.type "ValueError") = some true)
    (mrM : mroIn K cM (.ref cM) = some true)
    (opq : nsIn K cStatics "thirdparty.any" = some none)
    (lI : K.lookup fI = some ⟨ocI, odI, .func (PySem.W.fnX "__init__" "TooMany.__init__" (defArgs sInit) (defBody sInit) (defScope sInit) [("__class__", ccI)] .none kVI dcI pmI anI (.ref cdI) ctI), slI⟩)
    (cI : codeIn K (.ref cdI) "TooMany.__init__" = true)
    (lcI : K.lookup ccI = some ⟨clC, cldC, .cell (some (.ref cM)), cslC⟩)
    (ldI : K.lookup cdI = some ⟨ccl, cddI, .fields vsI, ccs⟩)
    (v2 : vsI[2]? = some (.str file tf))
    (hfl : ((PySem.Challenge.rw_wetfolds_k46_whole_greatest_lots.prog.main.file : Str) == file) = true)
    : LamX.LawAtS PySem.Challenge.rw_wetfolds_k46_whole_greatest_lots w K CX0 8 63 "_law_script" mg fa h := by
  have e := hfa.symm.trans (PySem.W.mg_of X G aLw)
  cases e
  let fI1 : FuncData := PySem.W.fnX "__init__" "TooMany.__init__" (defArgs sInit) (defBody sInit) (defScope sInit) [("__class__", ccI)] .none kVI dcI pmI anI (.ref cdI) ctI
  let ad : Ad := ⟨⟨f0, fnOf "is_whole" "is_whole" (defArgs sWhole) (defBody sWhole) (defScope sWhole) .none kV0 dc0 pm0 an0 cd0 ct0⟩, ⟨f1, fnOf "is_tuple_of" "is_tuple_of" (defArgs sTupOf) (defBody sTupOf) (defScope sTupOf) .none kV1 dc1 pm1 an1 cd1 ct1⟩, ⟨f2, fnOf "fits_crease" "fits_crease" (defArgs sCrease) (defBody sCrease) (defScope sCrease) .none kV2 dc2 pm2 an2 cd2 ct2⟩, ⟨f3, fnOf "fits_folds" "fits_folds" (defArgs sFoldsF) (defBody sFoldsF) (defScope sFoldsF) .none kV3 dc3 pm3 an3 cd3 ct3⟩, ⟨f4, fnOf "need_folds" "need_folds" (defArgs sNeedF) (defBody sNeedF) (defScope sNeedF) .none kV4 dc4 pm4 an4 cd4 ct4⟩, ⟨f5, fnOf "fits_lot" "fits_lot" (defArgs sLotF) (defBody sLotF) (defScope sLotF) .none kV5 dc5 pm5 an5 cd5 ct5⟩, ⟨f6, fnOf "inked" "inked" (defArgs sInked) (defBody sInked) (defScope sInked) .none kV6 dc6 pm6 an6 cd6 ct6⟩, ⟨f7, fnOf "need_lot" "need_lot" (defArgs sNeedL) (defBody sNeedL) (defScope sNeedL) .none kV7 dc7 pm7 an7 cd7 ct7⟩, ⟨f8, fnOf "inked_by" "inked_by" (defArgs sInkedBy) (defBody sInkedBy) (defScope sInkedBy) .none kV8 dc8 pm8 an8 cd8 ct8⟩, ⟨f9, fnOf "greatest_in" "greatest_in" (defArgs sGreatIn) (defBody sGreatIn) (defScope sGreatIn) .none kV9 dc9 pm9 an9 cd9 ct9⟩, ⟨f10, fnOf "lots_with" "lots_with" (defArgs sLotsW) (defBody sLotsW) (defScope sLotsW) .none kV10 dc10 pm10 an10 cd10 ct10⟩, ⟨f11, fnOf "greatest_lot" "greatest_lot" (defArgs sGreatL) (defBody sGreatL) (defScope sGreatL) .none kV11 dc11 pm11 an11 cd11 ct11⟩, ⟨f12, fnOf "comes_of_some" "comes_of_some" (defArgs sComes) (defBody sComes) (defScope sComes) .none kV12 dc12 pm12 an12 cd12 ct12⟩, ⟨f13, fnOf "fewest_before" "fewest_before" (defArgs sFewest) (defBody sFewest) (defScope sFewest) .none kV13 dc13 pm13 an13 cd13 ct13⟩, ⟨f14, fnOf "_law_cup" "_law_cup" (defArgs sCup) (defBody sCup) (defScope sCup) .none kV14 dc14 pm14 an14 cd14 ct14⟩, ⟨f15, fnOf "_law_roll" "_law_roll" (defArgs sRoll) (defBody sRoll) (defScope sRoll) .none kV15 dc15 pm15 an15 cd15 ct15⟩, ⟨f16, fnOf "_law_some" "_law_some" (defArgs sSome) (defBody sSome) (defScope sSome) .none kV16 dc16 pm16 an16 cd16 ct16⟩, ⟨f17, fnOf "_law_folds" "_law_folds" (defArgs sFolds) (defBody sFolds) (defScope sFolds) .none kV17 dc17 pm17 an17 cd17 ct17⟩, ⟨f18, fnOf "_law_inked" "_law_inked" (defArgs sLInk) (defBody sLInk) (defScope sLInk) .none kV18 dc18 pm18 an18 cd18 ct18⟩, ⟨f19, fnOf "_law_lot" "_law_lot" (defArgs sLLot) (defBody sLLot) (defScope sLLot) .none kV19 dc19 pm19 an19 cd19 ct19⟩, ⟨f20, fnOf "_law_error" "_law_error" (defArgs sError) (defBody sError) (defScope sError) .none kV20 dc20 pm20 an20 cd20 ct20⟩, ⟨f21, fnOf "_law_greatest" "_law_greatest" (defArgs sLGreat) (defBody sLGreat) (defScope sLGreat) .none kV21 dc21 pm21 an21 cd21 ct21⟩, ⟨f22, fnOf "_law_fewest" "_law_fewest" (defArgs sLFew) (defBody sLFew) (defScope sLFew) .none kV22 dc22 pm22 an22 cd22 ct22⟩, ⟨f23, fnOf "_law_right" "_law_right" (defArgs sRight) (defBody sRight) (defScope sRight) .none kV23 dc23 pm23 an23 cd23 ct23⟩, ⟨f24, fnOf "_law_two_right" "_law_two_right" (defArgs sTwo) (defBody sTwo) (defScope sTwo) .none kV24 dc24 pm24 an24 cd24 ct24⟩, ⟨fI, fI1⟩, cE, cF, cM, cL⟩
  have F0 := fun_mk (st := sWhole) l0 c0 k0
  have D0 : DefAt K mg "is_whole" sWhole ["value", "low", "high"] ⟨f0, fnOf "is_whole" "is_whole" (defArgs sWhole) (defBody sWhole) (defScope sWhole) .none kV0 dc0 pm0 an0 cd0 ct0⟩ := ⟨F0, PySem.W.mg_of X G a0, F0.binds (ps := ["value", "low", "high"]) fun _ _ _ _ _ _ us hl => match us, hl with | [_, _, _], _ => rfl⟩
  have F1 := fun_mk (st := sTupOf) l1 c1 k1
  have D1 : DefAt K mg "is_tuple_of" sTupOf ["value", "low", "high"] ⟨f1, fnOf "is_tuple_of" "is_tuple_of" (defArgs sTupOf) (defBody sTupOf) (defScope sTupOf) .none kV1 dc1 pm1 an1 cd1 ct1⟩ := ⟨F1, PySem.W.mg_of X G a1, F1.binds (ps := ["value", "low", "high"]) fun _ _ _ _ _ _ us hl => match us, hl with | [_, _, _], _ => rfl⟩
  have F2 := fun_mk (st := sCrease) l2 c2 k2
  have D2 : DefAt K mg "fits_crease" sCrease ["value"] ⟨f2, fnOf "fits_crease" "fits_crease" (defArgs sCrease) (defBody sCrease) (defScope sCrease) .none kV2 dc2 pm2 an2 cd2 ct2⟩ := ⟨F2, PySem.W.mg_of X G a2, F2.binds (ps := ["value"]) fun _ _ _ _ _ _ us hl => match us, hl with | [_], _ => rfl⟩
  have F3 := fun_mk (st := sFoldsF) l3 c3 k3
  have D3 : DefAt K mg "fits_folds" sFoldsF ["value"] ⟨f3, fnOf "fits_folds" "fits_folds" (defArgs sFoldsF) (defBody sFoldsF) (defScope sFoldsF) .none kV3 dc3 pm3 an3 cd3 ct3⟩ := ⟨F3, PySem.W.mg_of X G a3, F3.binds (ps := ["value"]) fun _ _ _ _ _ _ us hl => match us, hl with | [_], _ => rfl⟩
  have F4 := fun_mk (st := sNeedF) l4 c4 k4
  have D4 : DefAt K mg "need_folds" sNeedF ["value"] ⟨f4, fnOf "need_folds" "need_folds" (defArgs sNeedF) (defBody sNeedF) (defScope sNeedF) .none kV4 dc4 pm4 an4 cd4 ct4⟩ := ⟨F4, PySem.W.mg_of X G a4, F4.binds (ps := ["value"]) fun _ _ _ _ _ _ us hl => match us, hl with | [_], _ => rfl⟩
  have F5 := fun_mk (st := sLotF) l5 c5 k5
  have D5 : DefAt K mg "fits_lot" sLotF ["value"] ⟨f5, fnOf "fits_lot" "fits_lot" (defArgs sLotF) (defBody sLotF) (defScope sLotF) .none kV5 dc5 pm5 an5 cd5 ct5⟩ := ⟨F5, PySem.W.mg_of X G a5, F5.binds (ps := ["value"]) fun _ _ _ _ _ _ us hl => match us, hl with | [_], _ => rfl⟩
  have F6 := fun_mk (st := sInked) l6 c6 k6
  have D6 : DefAt K mg "inked" sInked ["lot", "folds"] ⟨f6, fnOf "inked" "inked" (defArgs sInked) (defBody sInked) (defScope sInked) .none kV6 dc6 pm6 an6 cd6 ct6⟩ := ⟨F6, PySem.W.mg_of X G a6, F6.binds (ps := ["lot", "folds"]) fun _ _ _ _ _ _ us hl => match us, hl with | [_, _], _ => rfl⟩
  have F7 := fun_mk (st := sNeedL) l7 c7 k7
  have D7 : DefAt K mg "need_lot" sNeedL ["value"] ⟨f7, fnOf "need_lot" "need_lot" (defArgs sNeedL) (defBody sNeedL) (defScope sNeedL) .none kV7 dc7 pm7 an7 cd7 ct7⟩ := ⟨F7, PySem.W.mg_of X G a7, F7.binds (ps := ["value"]) fun _ _ _ _ _ _ us hl => match us, hl with | [_], _ => rfl⟩
  have F8 := fun_mk (st := sInkedBy) l8 c8 k8
  have D8 : DefAt K mg "inked_by" sInkedBy ["lot", "folds"] ⟨f8, fnOf "inked_by" "inked_by" (defArgs sInkedBy) (defBody sInkedBy) (defScope sInkedBy) .none kV8 dc8 pm8 an8 cd8 ct8⟩ := ⟨F8, PySem.W.mg_of X G a8, F8.binds (ps := ["lot", "folds"]) fun _ _ _ _ _ _ us hl => match us, hl with | [_, _], _ => rfl⟩
  have F9 := fun_mk (st := sGreatIn) l9 c9 k9
  have D9 : DefAt K mg "greatest_in" sGreatIn ["lot", "folds"] ⟨f9, fnOf "greatest_in" "greatest_in" (defArgs sGreatIn) (defBody sGreatIn) (defScope sGreatIn) .none kV9 dc9 pm9 an9 cd9 ct9⟩ := ⟨F9, PySem.W.mg_of X G a9, F9.binds (ps := ["lot", "folds"]) fun _ _ _ _ _ _ us hl => match us, hl with | [_, _], _ => rfl⟩
  have F10 := fun_mk (st := sLotsW) l10 c10 k10
  have D10 : DefAt K mg "lots_with" sLotsW ["places", "many"] ⟨f10, fnOf "lots_with" "lots_with" (defArgs sLotsW) (defBody sLotsW) (defScope sLotsW) .none kV10 dc10 pm10 an10 cd10 ct10⟩ := ⟨F10, PySem.W.mg_of X G a10, F10.binds (ps := ["places", "many"]) fun _ _ _ _ _ _ us hl => match us, hl with | [_, _], _ => rfl⟩
  have F11 := fun_mk (st := sGreatL) l11 c11 k11
  have D11 : DefAt K mg "greatest_lot" sGreatL ["lot", "folds"] ⟨f11, fnOf "greatest_lot" "greatest_lot" (defArgs sGreatL) (defBody sGreatL) (defScope sGreatL) .none kV11 dc11 pm11 an11 cd11 ct11⟩ := ⟨F11, PySem.W.mg_of X G a11, F11.binds (ps := ["lot", "folds"]) fun _ _ _ _ _ _ us hl => match us, hl with | [_, _], _ => rfl⟩
  have F12 := fun_mk (st := sComes) l12 c12 k12
  have D12 : DefAt K mg "comes_of_some" sComes ["lot", "folds"] ⟨f12, fnOf "comes_of_some" "comes_of_some" (defArgs sComes) (defBody sComes) (defScope sComes) .none kV12 dc12 pm12 an12 cd12 ct12⟩ := ⟨F12, PySem.W.mg_of X G a12, F12.binds (ps := ["lot", "folds"]) fun _ _ _ _ _ _ us hl => match us, hl with | [_, _], _ => rfl⟩
  have F13 := fun_mk (st := sFewest) l13 c13 k13
  have D13 : DefAt K mg "fewest_before" sFewest ["lot", "folds"] ⟨f13, fnOf "fewest_before" "fewest_before" (defArgs sFewest) (defBody sFewest) (defScope sFewest) .none kV13 dc13 pm13 an13 cd13 ct13⟩ := ⟨F13, PySem.W.mg_of X G a13, F13.binds (ps := ["lot", "folds"]) fun _ _ _ _ _ _ us hl => match us, hl with | [_, _], _ => rfl⟩
  have F14 := fun_mk (st := sCup) l14 c14 k14
  have D14 : DefAt K mg "_law_cup" sCup ["_law_script"] ⟨f14, fnOf "_law_cup" "_law_cup" (defArgs sCup) (defBody sCup) (defScope sCup) .none kV14 dc14 pm14 an14 cd14 ct14⟩ := ⟨F14, PySem.W.mg_of X G a14, F14.binds (ps := ["_law_script"]) fun _ _ _ _ _ _ us hl => match us, hl with | [_], _ => rfl⟩
  have F15 := fun_mk (st := sRoll) l15 c15 k15
  have D15 : DefAt K mg "_law_roll" sRoll ["_law_cup_here", "_law_many"] ⟨f15, fnOf "_law_roll" "_law_roll" (defArgs sRoll) (defBody sRoll) (defScope sRoll) .none kV15 dc15 pm15 an15 cd15 ct15⟩ := ⟨F15, PySem.W.mg_of X G a15, F15.binds (ps := ["_law_cup_here", "_law_many"]) fun _ _ _ _ _ _ us hl => match us, hl with | [_, _], _ => rfl⟩
  have F16 := fun_mk (st := sSome) l16 c16 k16
  have D16 : DefAt K mg "_law_some" sSome ["_law_cup_here", "_law_things"] ⟨f16, fnOf "_law_some" "_law_some" (defArgs sSome) (defBody sSome) (defScope sSome) .none kV16 dc16 pm16 an16 cd16 ct16⟩ := ⟨F16, PySem.W.mg_of X G a16, F16.binds (ps := ["_law_cup_here", "_law_things"]) fun _ _ _ _ _ _ us hl => match us, hl with | [_, _], _ => rfl⟩
  have F17 := fun_mk (st := sFolds) l17 c17 k17
  have D17 : DefAt K mg "_law_folds" sFolds ["_law_cup_here", "_law_most"] ⟨f17, fnOf "_law_folds" "_law_folds" (defArgs sFolds) (defBody sFolds) (defScope sFolds) .none kV17 dc17 pm17 an17 cd17 ct17⟩ := ⟨F17, PySem.W.mg_of X G a17, F17.binds (ps := ["_law_cup_here", "_law_most"]) fun _ _ _ _ _ _ us hl => match us, hl with | [_, _], _ => rfl⟩
  have F18 := fun_mk (st := sLInk) l18 c18 k18
  have D18 : DefAt K mg "_law_inked" sLInk ["_law_places", "_law_folds_here"] ⟨f18, fnOf "_law_inked" "_law_inked" (defArgs sLInk) (defBody sLInk) (defScope sLInk) .none kV18 dc18 pm18 an18 cd18 ct18⟩ := ⟨F18, PySem.W.mg_of X G a18, F18.binds (ps := ["_law_places", "_law_folds_here"]) fun _ _ _ _ _ _ us hl => match us, hl with | [_, _], _ => rfl⟩
  have F19 := fun_mk (st := sLLot) l19 c19 k19
  have D19 : DefAt K mg "_law_lot" sLLot ["_law_cup_here", "_law_most"] ⟨f19, fnOf "_law_lot" "_law_lot" (defArgs sLLot) (defBody sLLot) (defScope sLLot) .none kV19 dc19 pm19 an19 cd19 ct19⟩ := ⟨F19, PySem.W.mg_of X G a19, F19.binds (ps := ["_law_cup_here", "_law_most"]) fun _ _ _ _ _ _ us hl => match us, hl with | [_, _], _ => rfl⟩
  have F20 := fun_mk (st := sError) l20 c20 k20
  have D20 : DefAt K mg "_law_error" sError ["_law_call"] ⟨f20, fnOf "_law_error" "_law_error" (defArgs sError) (defBody sError) (defScope sError) .none kV20 dc20 pm20 an20 cd20 ct20⟩ := ⟨F20, PySem.W.mg_of X G a20, F20.binds (ps := ["_law_call"]) fun _ _ _ _ _ _ us hl => match us, hl with | [_], _ => rfl⟩
  have F21 := fun_mk (st := sLGreat) l21 c21 k21
  have D21 : DefAt K mg "_law_greatest" sLGreat ["_law_lot_here", "_law_folds_here"] ⟨f21, fnOf "_law_greatest" "_law_greatest" (defArgs sLGreat) (defBody sLGreat) (defScope sLGreat) .none kV21 dc21 pm21 an21 cd21 ct21⟩ := ⟨F21, PySem.W.mg_of X G a21, F21.binds (ps := ["_law_lot_here", "_law_folds_here"]) fun _ _ _ _ _ _ us hl => match us, hl with | [_, _], _ => rfl⟩
  have F22 := fun_mk (st := sLFew) l22 c22 k22
  have D22 : DefAt K mg "_law_fewest" sLFew ["_law_lot_here", "_law_folds_here", "_law_places"] ⟨f22, fnOf "_law_fewest" "_law_fewest" (defArgs sLFew) (defBody sLFew) (defScope sLFew) .none kV22 dc22 pm22 an22 cd22 ct22⟩ := ⟨F22, PySem.W.mg_of X G a22, F22.binds (ps := ["_law_lot_here", "_law_folds_here", "_law_places"]) fun _ _ _ _ _ _ us hl => match us, hl with | [_, _, _], _ => rfl⟩
  have F23 := fun_mk (st := sRight) l23 c23 k23
  have D23 : DefAt K mg "_law_right" sRight ["_law_lot_here", "_law_folds_here"] ⟨f23, fnOf "_law_right" "_law_right" (defArgs sRight) (defBody sRight) (defScope sRight) .none kV23 dc23 pm23 an23 cd23 ct23⟩ := ⟨F23, PySem.W.mg_of X G a23, F23.binds (ps := ["_law_lot_here", "_law_folds_here"]) fun _ _ _ _ _ _ us hl => match us, hl with | [_, _], _ => rfl⟩
  have F24 := fun_mk (st := sTwo) l24 c24 k24
  have D24 : DefAt K mg "_law_two_right" sTwo ["_law_one", "_law_other", "_law_folds_here"] ⟨f24, fnOf "_law_two_right" "_law_two_right" (defArgs sTwo) (defBody sTwo) (defScope sTwo) .none kV24 dc24 pm24 an24 cd24 ct24⟩ := ⟨F24, PySem.W.mg_of X G a24, F24.binds (ps := ["_law_one", "_law_other", "_law_folds_here"]) fun _ _ _ _ _ _ us hl => match us, hl with | [_, _, _], _ => rfl⟩
  have EF : ErrC K mg "InvalidFolds" cF := ⟨PySem.W.mg_of X G gF, kcF, bF, tF, iF⟩
  have EM : ErrC K mg "TooMany" cM := ⟨PySem.W.mg_of X G gM, kcM, bM, tM, iM⟩
  have EL : ErrC K mg "InvalidLot" cL := ⟨PySem.W.mg_of X G gL, kcL, bL, tL, iL⟩
  have EE : ErrC K mg "FoldError" cE := ⟨PySem.W.mg_of X G gE, kcE, bE, tE, iE⟩
  have T : Txt K mg ad := ⟨D0, D1, D2, D3, D4, D5, D6, D7, D8, D9, D10, D11, D12, D13, D14, D15, D16, D17, D18, D19, D20, D21, D22, D23, D24, EF, EM, EL, EE, xF, xL, ⟨_, PySem.W.mg_of X G n_cCrease⟩, ⟨_, PySem.W.mg_of X G n_cFOLDS⟩, ⟨_, PySem.W.mg_of X G n_cPLACES⟩, ⟨_, PySem.W.mg_of X G n_cFAR⟩, ⟨_, PySem.W.mg_of X G n_cMOST⟩, ⟨_, PySem.W.mg_of X G n_cP14⟩, PySem.W.mg_none_of X G z_isinstance, PySem.W.mg_none_of X G z_int, PySem.W.mg_none_of X G z_bool, PySem.W.mg_none_of X G z_tuple, PySem.W.mg_none_of X G z_len, PySem.W.mg_none_of X G z_all, PySem.W.mg_none_of X G z_zip, PySem.W.mg_none_of X G z_list, PySem.W.mg_none_of X G z_sorted, PySem.W.mg_none_of X G z_set, PySem.W.mg_none_of X G z_dict, PySem.W.mg_none_of X G z_range, PySem.W.mg_none_of X G z_abs, PySem.W.mg_none_of X G z_str, PySem.W.mg_none_of X G z_super⟩
  have oex : OexC K cM := ⟨⟨nm, qn, N, bs, bm, sn, sub, ab, col, dd, m0, m1, m2, m3, m5, lM, hbm⟩, saM, bM, tM, kcM⟩
  have TI : InitT PySem.Challenge.rw_wetfolds_k46_whole_greatest_lots.prog K ad.cMany ad.init := ⟨⟨ccI, cdI, ocI, odI, kVI, dcI, pmI, anI, ctI, slI, rfl, lI, cI, ⟨clC, cldC, cslC, lcI⟩, ccl, cddI, vsI, ccs, file, tf, ldI, v2, hfl⟩, oex, supM, veM, mrM, nLM, opq, by decide +kernel, iMM, tIM⟩
  have bI : Binds K ad.init.fd ["self", "limit"] [] := .all fun us hl => match us, hl with | [_, _], _ => rfl
  have TE : ErrT K ad.cFolds ad.cLot ad.cMany ad.cErr := ⟨exm_of bF iF tF sFF, exm_of bF iF tF sLF, exm_of bL iL tL sLL, exm_of bF iF tF sMF, exm_of bL iL tL sML, exm_of bM iM tM sMM, ⟨gaM, ggM, bM, hdM⟩⟩
  have hP : h.get? Pt = some { cls := .none, data := .fields #[] } := own cc Pt _ _ _ _ _ _ lLw rfl rfl lcc v11
  refine ⟨fnOf "law" "law" (defArgs sLaw) (defBody sLaw) (defScope sLaw) .none kVL dcL pmL anL (.ref cc) ctL, [(cc, Pt)], spLaw K Pt, ?_, ?_, ?_, fun s u => .of_eq rfl, ?_, ?_⟩
  · intro p hp
    rw [List.mem_singleton.mp hp]
    exact hP
  · intro p hp
    rw [List.mem_singleton.mp hp]
    exact hPt
  · intro p hp
    rw [List.mem_singleton.mp hp]
    exact PySem.W.codeHd_of_K X hdc
  · intro H a ns hn _ hT hS
    exact ⟨a, ns, rfl, hS, hn, hT (cc, Pt) (List.mem_singleton.mpr rfl), fun _ => rfl⟩
  · intro base hK hG hTB
    exact ok_law ⟨T, TI, bI, TE⟩ (hTB (cc, Pt) (List.mem_singleton.mpr rfl)) lLw cLw
end K46

open PySem PySem.W PyProof.Rows
set_option maxRecDepth 100000 in
set_option maxHeartbeats 0 in
theorem PySem.Challenge.cw_wetfolds_k46_whole_greatest_lots_holds : PySem.Challenge.rw_wetfolds_k46_whole_greatest_lots.Holds := by
  w_on; o_law; k_head; (case hw => w_witness2)
  k_fill
  refine LamX.walk_ofOwn (l := PySem.Challenge.rw_wetfolds_k46_whole_greatest_lots) (n := 63) (k := 8) (CX := fun _ => L2.CX0) (x := "_law_script") rfl (by decide) rfl ⟨rfl, by decide, by decide⟩ (by decide +kernel) (fun w h Y => PySem.W.km_in_of Y) ?F (fun _ _ _ _ _ z => z)
  case F =>
    intro w mg fa h Y KX G hmg own
    refine' K46.all_mk KX G hmg own ?a0 ?l0 ?c0 ?k0 ?a1 ?l1 ?c1 ?k1 ?a2 ?l2 ?c2 ?k2 ?a3 ?l3 ?c3 ?k3 ?a4 ?l4 ?c4 ?k4 ?a5 ?l5 ?c5 ?k5 ?a6 ?l6 ?c6 ?k6 ?a7 ?l7 ?c7 ?k7 ?a8 ?l8 ?c8 ?k8 ?a9 ?l9 ?c9 ?k9 ?a10 ?l10 ?c10 ?k10 ?a11 ?l11 ?c11 ?k11 ?a12 ?l12 ?c12 ?k12 ?a13 ?l13 ?c13 ?k13 ?a14 ?l14 ?c14 ?k14 ?a15 ?l15 ?c15 ?k15 ?a16 ?l16 ?c16 ?k16 ?a17 ?l17 ?c17 ?k17 ?a18 ?l18 ?c18 ?k18 ?a19 ?l19 ?c19 ?k19 ?a20 ?l20 ?c20 ?k20 ?a21 ?l21 ?c21 ?k21 ?a22 ?l22 ?c22 ?k22 ?a23 ?l23 ?c23 ?k23 ?a24 ?l24 ?c24 ?k24 ?aLw ?lLw ?cLw ?lcc ?v11 ?hPt ?hdc ?gF ?kcF ?bF ?tF ?iF ?gM ?kcM ?bM ?tM ?iM ?gL ?kcL ?bL ?tL ?iL ?gE ?kcE ?bE ?tE ?iE ?xF ?xL ?sFF ?sLF ?sLL ?sMF ?sML ?sMM ?n_cCrease ?n_cFOLDS ?n_cPLACES ?n_cFAR ?n_cMOST ?n_cP14 ?z_isinstance ?z_int ?z_bool ?z_tuple ?z_len ?z_all ?z_zip ?z_list ?z_sorted ?z_set ?z_dict ?z_range ?z_abs ?z_str ?z_super ?lM ?hbm ?saM ?gaM ?ggM ?nLM ?iMM ?tIM ?hdM ?supM ?veM ?mrM ?opq ?lI ?cI ?lcI ?ldI ?v2 ?hfl
    (case a0 => k_is)
    (case l0 => k_is)
    (case c0 => k_is)
    (case k0 => k_is)
    (case a1 => k_is)
    (case l1 => k_is)
    (case c1 => k_is)
    (case k1 => k_is)
    (case a2 => k_is)
    (case l2 => k_is)
    (case c2 => k_is)
    (case k2 => k_is)
    (case a3 => k_is)
    (case l3 => k_is)
    (case c3 => k_is)
    (case k3 => k_is)
    (case a4 => k_is)
    (case l4 => k_is)
    (case c4 => k_is)
    (case k4 => k_is)
    (case a5 => k_is)
    (case l5 => k_is)
    (case c5 => k_is)
    (case k5 => k_is)
    (case a6 => k_is)
    (case l6 => k_is)
    (case c6 => k_is)
    (case k6 => k_is)
    (case a7 => k_is)
    (case l7 => k_is)
    (case c7 => k_is)
    (case k7 => k_is)
    (case a8 => k_is)
    (case l8 => k_is)
    (case c8 => k_is)
    (case k8 => k_is)
    (case a9 => k_is)
    (case l9 => k_is)
    (case c9 => k_is)
    (case k9 => k_is)
    (case a10 => k_is)
    (case l10 => k_is)
    (case c10 => k_is)
    (case k10 => k_is)
    (case a11 => k_is)
    (case l11 => k_is)
    (case c11 => k_is)
    (case k11 => k_is)
    (case a12 => k_is)
    (case l12 => k_is)
    (case c12 => k_is)
    (case k12 => k_is)
    (case a13 => k_is)
    (case l13 => k_is)
    (case c13 => k_is)
    (case k13 => k_is)
    (case a14 => k_is)
    (case l14 => k_is)
    (case c14 => k_is)
    (case k14 => k_is)
    (case a15 => k_is)
    (case l15 => k_is)
    (case c15 => k_is)
    (case k15 => k_is)
    (case a16 => k_is)
    (case l16 => k_is)
    (case c16 => k_is)
    (case k16 => k_is)
    (case a17 => k_is)
    (case l17 => k_is)
    (case c17 => k_is)
    (case k17 => k_is)
    (case a18 => k_is)
    (case l18 => k_is)
    (case c18 => k_is)
    (case k18 => k_is)
    (case a19 => k_is)
    (case l19 => k_is)
    (case c19 => k_is)
    (case k19 => k_is)
    (case a20 => k_is)
    (case l20 => k_is)
    (case c20 => k_is)
    (case k20 => k_is)
    (case a21 => k_is)
    (case l21 => k_is)
    (case c21 => k_is)
    (case k21 => k_is)
    (case a22 => k_is)
    (case l22 => k_is)
    (case c22 => k_is)
    (case k22 => k_is)
    (case a23 => k_is)
    (case l23 => k_is)
    (case c23 => k_is)
    (case k23 => k_is)
    (case a24 => k_is)
    (case l24 => k_is)
    (case c24 => k_is)
    (case k24 => k_is)
    (case aLw => k_is)
    (case lLw => k_is)
    (case cLw => k_is)
    (case lcc => k_is)
    (case v11 => first | k_is | rfl | kernel_rfl | decide +kernel)
    (case hPt => first | k_is | rfl | kernel_rfl | decide +kernel)
    (case hdc => first | k_is | rfl | kernel_rfl | decide +kernel)
    (case gF => k_is)
    (case kcF => k_is)
    (case bF => k_is)
    (case tF => k_is)
    (case iF => k_is)
    (case gM => k_is)
    (case kcM => k_is)
    (case bM => k_is)
    (case tM => k_is)
    (case iM => k_is)
    (case gL => k_is)
    (case kcL => k_is)
    (case bL => k_is)
    (case tL => k_is)
    (case iL => k_is)
    (case gE => k_is)
    (case kcE => k_is)
    (case bE => k_is)
    (case tE => k_is)
    (case iE => k_is)
    (case xF => k_exc)
    (case xL => k_exc)
    (case sFF => k_is)
    (case sLF => k_is)
    (case sLL => k_is)
    (case sMF => k_is)
    (case sML => k_is)
    (case sMM => k_is)
    (case n_cCrease => k_is)
    (case n_cFOLDS => k_is)
    (case n_cPLACES => k_is)
    (case n_cFAR => k_is)
    (case n_cMOST => k_is)
    (case n_cP14 => k_is)
    (case z_isinstance => k_is)
    (case z_int => k_is)
    (case z_bool => k_is)
    (case z_tuple => k_is)
    (case z_len => k_is)
    (case z_all => k_is)
    (case z_zip => k_is)
    (case z_list => k_is)
    (case z_sorted => k_is)
    (case z_set => k_is)
    (case z_dict => k_is)
    (case z_range => k_is)
    (case z_abs => k_is)
    (case z_str => k_is)
    (case z_super => k_is)
    (case lM => k_is)
    (case hbm => first | k_is | rfl | kernel_rfl | decide +kernel)
    (case saM => k_is)
    (case gaM => k_is)
    (case ggM => k_is)
    (case nLM => k_is)
    (case iMM => k_is)
    (case tIM => k_is)
    (case hdM => k_is)
    (case supM => first | k_is | rfl | kernel_rfl | decide +kernel)
    (case veM => k_is)
    (case mrM => k_is)
    (case opq => k_is)
    (case lI => k_is)
    (case cI => k_is)
    (case lcI => k_is)
    (case ldI => k_is)
    (case v2 => first | k_is | rfl | kernel_rfl | decide +kernel)
    (case hfl => first | k_is | rfl | kernel_rfl | decide +kernel)

