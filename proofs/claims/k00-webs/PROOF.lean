import PyProof.Rows.All
import Wide.All
import OpenK.AllK
import Wide.FinOn
import PyProof.EqAt
import PyProof.EqKinds
import PyProof.TupleCall
import HandS.ForMost
import HandS.ForExc
import HandS.ExcInit
import HandS.ExcField
import HandS.ExcIs
import HandS.TupSets
import HandS.Conv
import HandS.More
import HandS.NoneIn
import HandS.IsInst
import HandS.Codes
import HandS.Property
import HandS.IterVal
import HandS.OwnEq
import HandS.Deep
import HandS.Defaults
import KE.KOwnIter
import KE.KExcIs
import PySem.Challenge.RW_treedeals_k00_whole_webs_kept_and_refuse
set_option Elab.async false
set_option linter.all false
set_option maxRecDepth 100000
set_option maxHeartbeats 2000000
/-! Plain mathematics of webs: the marks of the pieces, the webs that are drawn. No Python here. -/
namespace TDm
abbrev Tie := Int × Int
/-! ### marks -/
def mstep (n : Nat) (ms : List Int) (t : Tie) : List Int :=
  ms.map fun x => if x = ms.getD (n + t.2.toNat) 0 then ms.getD t.1.toNat 0 else x
def marks0 (N : Nat) : List Int := (List.range N).map fun (i : Nat) => (i : Int)
def marks (n m : Nat) (ts : List Tie) : List Int := ts.foldl (mstep n) (marks0 (n + m))
/-- a tie within n things and m clubs -/
def InR (n m : Nat) (t : Tie) : Prop := 0 ≤ t.1 ∧ t.1 < n ∧ 0 ≤ t.2 ∧ t.2 < m
instance (n m : Nat) (t : Tie) : Decidable (InR n m t) := by unfold InR; exact inferInstance
/-- all alike -/
def One (ms : List Int) : Prop := ∀ i j, i < ms.length → j < ms.length → ms.getD i 0 = ms.getD j 0
/-- whatever is alike at both ends of each tie is alike everywhere -/
def Conn (n N : Nat) (ts : List Tie) : Prop := ∀ g : Nat → Int, (∀ t ∈ ts, g t.1.toNat = g (n + t.2.toNat)) → ∀ i j, i < N → j < N → g i = g j

theorem len_mstep (n : Nat) (ms : List Int) (t : Tie) : (mstep n ms t).length = ms.length := by simp [mstep]
theorem getD_mstep {n : Nat} {ms : List Int} {t : Tie} {i : Nat} (h : i < ms.length) :
    (mstep n ms t).getD i 0 = if ms.getD i 0 = ms.getD (n + t.2.toNat) 0 then ms.getD t.1.toNat 0 else ms.getD i 0 := by
  simp [mstep, List.getD_eq_getElem?_getD, List.getElem?_map, h]
theorem len_fold (n : Nat) : ∀ (ts : List Tie) (ms : List Int), (ts.foldl (mstep n) ms).length = ms.length
  | [], _ => rfl
  | t :: ts, ms => by rw [List.foldl_cons, len_fold n ts, len_mstep]
theorem len_marks0 (N : Nat) : (marks0 N).length = N := by simp [marks0]
theorem getD_marks0 {N i : Nat} (h : i < N) : (marks0 N).getD i 0 = i := by simp [marks0, List.getD_eq_getElem?_getD, List.getElem?_map, h]
theorem len_marks (n m : Nat) (ts : List Tie) : (marks n m ts).length = n + m := by rw [marks, len_fold, len_marks0]
theorem marks_snoc (n m : Nat) (ts : List Tie) (t : Tie) : marks n m (ts ++ [t]) = mstep n (marks n m ts) t := by simp [marks, List.foldl_append]

theorem inR_ix {n m : Nat} {t : Tie} (h : InR n m t) : t.1.toNat < n + m ∧ n + t.2.toNat < n + m := by
  obtain ⟨h1, h2, h3, h4⟩ := h
  omega
/-- a tie's ends stay alike -/
theorem fold_alike (n N : Nat) (i j : Nat) (hi : i < N) (hj : j < N) : ∀ (ts : List Tie) (ms : List Int), ms.length = N → ms.getD i 0 = ms.getD j 0 →
    (ts.foldl (mstep n) ms).getD i 0 = (ts.foldl (mstep n) ms).getD j 0
  | [], _, _, h => h
  | t :: ts, ms, hl, h => by
    rw [List.foldl_cons]
    refine fold_alike n N i j hi hj ts _ (by rw [len_mstep, hl]) ?_
    rw [getD_mstep (by omega), getD_mstep (by omega), h]
theorem marks_ends (n m : Nat) : ∀ (ts : List Tie) (ms : List Int), ms.length = n + m → (∀ t ∈ ts, InR n m t) → ∀ t ∈ ts,
    (ts.foldl (mstep n) ms).getD t.1.toNat 0 = (ts.foldl (mstep n) ms).getD (n + t.2.toNat) 0
  | [], _, _, _, t, ht => by cases ht
  | u :: ts, ms, hl, hr, t, ht => by
    rw [List.foldl_cons]
    have hl' : (mstep n ms u).length = n + m := by rw [len_mstep, hl]
    rcases List.mem_cons.mp ht with e | ht'
    · subst e
      obtain ⟨h1, h2⟩ := inR_ix (hr t List.mem_cons_self)
      refine fold_alike n (n + m) _ _ h1 h2 ts _ hl' ?_
      rw [getD_mstep (by omega), getD_mstep (by omega), if_pos rfl]
      split <;> rfl
    · exact marks_ends n m ts _ hl' (fun x hx => hr x (List.mem_cons_of_mem _ hx)) t ht'
/-- alike marks: alike for whatever is alike along the ties -/
theorem marks_fine (n m : Nat) (g : Nat → Int) : ∀ (ts : List Tie) (ms : List Int), ms.length = n + m → (∀ t ∈ ts, InR n m t) → (∀ t ∈ ts, g t.1.toNat = g (n + t.2.toNat)) →
    (∀ i j, i < n + m → j < n + m → ms.getD i 0 = ms.getD j 0 → g i = g j) →
    ∀ i j, i < n + m → j < n + m → (ts.foldl (mstep n) ms).getD i 0 = (ts.foldl (mstep n) ms).getD j 0 → g i = g j
  | [], _, _, _, _, h, i, j, hi, hj, e => h i j hi hj e
  | t :: ts, ms, hl, hr, hg, h, i, j, hi, hj, e => by
    rw [List.foldl_cons] at e
    refine marks_fine n m g ts (mstep n ms t) (by rw [len_mstep, hl]) (fun x hx => hr x (List.mem_cons_of_mem _ hx)) (fun x hx => hg x (List.mem_cons_of_mem _ hx)) ?_ i j hi hj e
    intro i j hi hj e
    obtain ⟨h1, h2⟩ := inR_ix (hr t List.mem_cons_self)
    have gt := hg t List.mem_cons_self
    rw [getD_mstep (by omega), getD_mstep (by omega)] at e
    by_cases c1 : ms.getD i 0 = ms.getD (n + t.2.toNat) 0
    · have g1 := h _ _ hi h2 c1
      by_cases c2 : ms.getD j 0 = ms.getD (n + t.2.toNat) 0
      · have g2 := h _ _ hj h2 c2
        rw [g1, g2]
      · rw [if_pos c1, if_neg c2] at e
        have g2 := h _ _ h1 hj e
        rw [g1, ← g2, gt]
    · by_cases c2 : ms.getD j 0 = ms.getD (n + t.2.toNat) 0
      · have g2 := h _ _ hj h2 c2
        rw [if_neg c1, if_pos c2] at e
        have g1 := h _ _ hi h1 e
        rw [g1, g2, gt]
      · rw [if_neg c1, if_neg c2] at e
        exact h _ _ hi hj e
theorem one_iff {n m : Nat} {ts : List Tie} (hr : ∀ t ∈ ts, InR n m t) : One (marks n m ts) ↔ Conn n (n + m) ts := by
  have hl := len_marks n m ts
  constructor
  · intro h g hg i j hi hj
    refine marks_fine n m g ts (marks0 (n + m)) (len_marks0 _) hr hg (fun i j hi hj e => ?_) i j hi hj (h i j (by omega) (by omega))
    rw [getD_marks0 hi, getD_marks0 hj] at e
    have e' : i = j := by omega
    rw [e']
  · intro h i j hi hj
    exact h (fun i => (marks n m ts).getD i 0) (fun t ht => marks_ends n m ts _ (len_marks0 _) hr t ht) i j (by omega) (by omega)
theorem Conn.mem {n N : Nat} {ts us : List Tie} (h : Conn n N ts) (hs : ∀ t ∈ ts, t ∈ us) : Conn n N us := fun g hg => h g fun t ht => hg t (hs t ht)
/-- the decision -/
def oneB (ms : List Int) : Bool := ms.all fun x => decide (x = ms.headD 0)
theorem oneB_iff (ms : List Int) : oneB ms = true ↔ One ms := by
  cases ms with
  | nil => simp [oneB, One]
  | cons a r =>
    constructor
    · intro h i j hi hj
      have all : ∀ x ∈ a :: r, x = a := fun x hx => by
        have := List.all_eq_true.mp h x hx
        simpa using this
      have hx : ∀ i, i < (a :: r).length → (a :: r).getD i 0 = a := fun i hi => by
        rw [List.getD_eq_getElem?_getD, List.getElem?_eq_getElem hi]
        exact all _ (List.getElem_mem hi)
      rw [hx i hi, hx j hj]
    · intro h
      refine List.all_eq_true.mpr fun x hx => ?_
      obtain ⟨i, hi, e⟩ := List.getElem_of_mem hx
      have := h i 0 hi (by simp)
      rw [List.getD_eq_getElem?_getD, List.getElem?_eq_getElem hi] at this
      have e2 : x = a := by rw [← e]; simpa using this
      simp [e2]
def joined (n m : Nat) (ts : List Tie) : Bool := oneB (marks n m ts)
/-- the ties' order, and how often they stand, is nothing to it -/
theorem joined_mem {n m : Nat} {ts us : List Tie} (hr : ∀ t ∈ ts, InR n m t) (h : ∀ t, t ∈ ts ↔ t ∈ us) : joined n m ts = joined n m us := by
  have hu : ∀ t ∈ us, InR n m t := fun t ht => hr t ((h t).mpr ht)
  rw [Bool.eq_iff_iff]
  unfold joined
  rw [oneB_iff, oneB_iff, one_iff hr, one_iff hu]
  exact ⟨fun c => c.mem fun t ht => (h t).mp ht, fun c => c.mem fun t ht => (h t).mpr ht⟩

/-! ### how many unlike ones -/
def ddStep (σ : List Int) (k : Int) : List Int := if σ.any (· == k) then σ else σ ++ [k]
theorem dd_mem (k : Int) : ∀ (l σ : List Int), k ∈ l.foldl ddStep σ ↔ k ∈ σ ∨ k ∈ l
  | [], σ => by simp
  | a :: l, σ => by
    rw [List.foldl_cons, dd_mem k l]
    unfold ddStep
    by_cases h : σ.any (· == a) = true
    · rw [if_pos h]
      obtain ⟨x, hx, e⟩ := List.any_eq_true.mp h
      have e' : x = a := by simpa using e
      subst e'
      constructor
      · rintro (c | c)
        · exact .inl c
        · exact .inr (List.mem_cons_of_mem _ c)
      · rintro (c | c)
        · exact .inl c
        · rcases List.mem_cons.mp c with c | c
          · subst c
            exact .inl hx
          · exact .inr c
    · rw [if_neg h]
      simp only [List.mem_append, List.mem_singleton, List.mem_cons, List.not_mem_nil, or_false]
      constructor
      · rintro ((c | c) | c)
        · exact .inl c
        · exact .inr (.inl c)
        · exact .inr (.inr c)
      · rintro (c | c | c)
        · exact .inl (.inl c)
        · exact .inl (.inr c)
        · exact .inr c
theorem dd_nodup : ∀ (l σ : List Int), σ.Nodup → (l.foldl ddStep σ).Nodup
  | [], σ, h => h
  | a :: l, σ, h => by
    rw [List.foldl_cons]
    refine dd_nodup l _ ?_
    unfold ddStep
    by_cases c : σ.any (· == a) = true
    · rw [if_pos c]; exact h
    · rw [if_neg c]
      refine List.nodup_append.mpr ⟨h, by simp, fun x hx y hy => ?_⟩
      have e : y = a := by simpa using hy
      subst e
      rintro rfl
      exact c (List.any_eq_true.mpr ⟨x, hx, by simp⟩)
def card (l : List Int) : Nat := (l.foldl ddStep []).length
theorem card_one {l : List Int} (h0 : l ≠ []) : card l = 1 ↔ oneB l = true := by
  unfold card
  have nd := dd_nodup l [] List.nodup_nil
  have mem := fun k => dd_mem k l []
  generalize l.foldl ddStep [] = d at nd mem
  cases l with
  | nil => exact absurd rfl h0
  | cons a r =>
    constructor
    · intro hl
      match d, hl with
      | [x], _ =>
        have ha : a = x := by simpa using (mem a).mpr (.inr List.mem_cons_self)
        refine List.all_eq_true.mpr fun y hy => ?_
        have hy' : y = x := by simpa using (mem y).mpr (.inr hy)
        simp [ha, hy']
    · intro h
      have all : ∀ x ∈ a :: r, x = a := fun x hx => by
        have := List.all_eq_true.mp h x hx
        simpa using this
      have ha : a ∈ d := (mem a).mpr (.inr List.mem_cons_self)
      have hd : ∀ x ∈ d, x = a := fun x hx => by
        rcases (mem x).mp hx with c | c
        · cases c
        · exact all x c
      match d, nd, ha, hd with
      | [x], _, _, _ => rfl
      | x :: y :: z, nd, _, hd =>
        have e1 := hd x List.mem_cons_self
        have e2 := hd y (List.mem_cons_of_mem _ List.mem_cons_self)
        rw [e1, e2] at nd
        simp at nd

/-! ### tuples' order -/
def tieLe (a b : Tie) : Prop := a.1 < b.1 ∨ (a.1 = b.1 ∧ a.2 ≤ b.2)
theorem tieLe_anti {a b : Tie} (h1 : tieLe a b) (h2 : tieLe b a) : a = b := by
  obtain ⟨a1, a2⟩ := a
  obtain ⟨b1, b2⟩ := b
  unfold tieLe at h1 h2
  simp only at h1 h2
  have e1 : a1 = b1 := by omega
  have e2 : a2 = b2 := by omega
  rw [e1, e2]
def Asc (l : List Tie) : Prop := l.Pairwise tieLe
theorem asc_unique : ∀ {l k : List Tie}, Asc l → Asc k → l.Perm k → l = k
  | [], k, _, _, p => (List.Perm.nil_eq p)
  | a :: l, [], _, _, p => by
    have := p.length_eq
    simp at this
  | a :: l, b :: k, hl, hk, p => by
    obtain ⟨l1, l2⟩ := List.pairwise_cons.mp hl
    obtain ⟨k1, k2⟩ := List.pairwise_cons.mp hk
    have hab : a = b := by
      rcases List.mem_cons.mp (p.mem_iff.mp List.mem_cons_self) with e | ha
      · exact e
      · rcases List.mem_cons.mp (p.mem_iff.mpr List.mem_cons_self) with e | hb
        · exact e.symm
        · exact tieLe_anti (l1 b hb) (k1 a ha)
    subst hab
    rw [asc_unique l2 k2 (List.Perm.cons_inv p)]

/-! ### webs -/
structure GoodWeb (n m : Nat) (ts : List Tie) : Prop where
  n1 : 1 ≤ n
  n6 : n ≤ 6
  m1 : 1 ≤ m
  m6 : m ≤ 6
  inr : ∀ t ∈ ts, InR n m t
  nd : ts.Nodup
  len : ts.length ≤ 12
  conn : Conn n (n + m) ts
theorem GoodWeb.perm {n m : Nat} {ts us : List Tie} (h : GoodWeb n m ts) (p : us.Perm ts) : GoodWeb n m us :=
  ⟨h.n1, h.n6, h.m1, h.m6, fun t ht => h.inr t (p.mem_iff.mp ht), p.nodup_iff.mpr h.nd, by rw [p.length_eq]; exact h.len, h.conn.mem fun t ht => p.mem_iff.mpr ht⟩
theorem GoodWeb.joined {n m : Nat} {ts : List Tie} (h : GoodWeb n m ts) : TDm.joined n m ts = true := (oneB_iff _).mpr ((one_iff h.inr).mpr h.conn)

/-- behind some turns of the drawn tree: what is left, the things and clubs that are ready, the ties -/
structure Grow (n m : Nat) (left : List Tie) (r0 r1 : List Int) (ts : List Tie) : Prop where
  lnd : left.Nodup
  lok : ∀ p ∈ left, (p.1 = 0 ∧ 0 ≤ p.2 ∧ p.2 < n) ∨ (p.1 = 1 ∧ 0 ≤ p.2 ∧ p.2 < m)
  apart0 : ∀ p ∈ left, p.1 = 0 → p.2 ∉ r0
  apart1 : ∀ p ∈ left, p.1 = 1 → p.2 ∉ r1
  all0 : ∀ x : Int, 0 ≤ x → x < n → x ∈ r0 ∨ ((0 : Int), x) ∈ left
  all1 : ∀ x : Int, 0 ≤ x → x < m → x ∈ r1 ∨ ((1 : Int), x) ∈ left
  ends : ∀ t ∈ ts, t.1 ∈ r0 ∧ t.2 ∈ r1
  in0 : ∀ x ∈ r0, 0 ≤ x ∧ x < n
  in1 : ∀ x ∈ r1, 0 ≤ x ∧ x < m
  nd : ts.Nodup
  conn : ∀ g : Nat → Int, (∀ t ∈ ts, g t.1.toNat = g (n + t.2.toNat)) → (∀ x ∈ r0, g x.toNat = g 0) ∧ (∀ y ∈ r1, g (n + y.toNat) = g 0)
  z0 : (0 : Int) ∈ r0
  z1 : r1 ≠ []
theorem Grow.start {n m : Nat} {f : Int} (hn : 1 ≤ n) (hf : 0 ≤ f ∧ f < m) {left : List Tie} (lnd : left.Nodup)
    (hl : ∀ p : Tie, p ∈ left ↔ (p.1 = 0 ∧ 1 ≤ p.2 ∧ p.2 < n) ∨ (p.1 = 1 ∧ 0 ≤ p.2 ∧ p.2 < m ∧ p.2 ≠ f)) : Grow n m left [0] [f] [(0, f)] where
  lnd := lnd
  lok := fun p hp => by
    rcases (hl p).mp hp with h | h
    · exact .inl ⟨h.1, by omega, h.2.2⟩
    · exact .inr ⟨h.1, h.2.1, h.2.2.1⟩
  apart0 := fun p hp e hc => by
    have e2 : p.2 = 0 := by simpa using hc
    rcases (hl p).mp hp with h | h <;> omega
  apart1 := fun p hp e hc => by
    have e2 : p.2 = f := by simpa using hc
    rcases (hl p).mp hp with h | h
    · omega
    · exact h.2.2.2 e2
  all0 := fun x h1 h2 => by
    by_cases c : x = 0
    · exact .inl (by simp [c])
    · exact .inr ((hl _).mpr (.inl ⟨rfl, by show (1 : Int) ≤ x; omega, h2⟩))
  all1 := fun x h1 h2 => by
    by_cases c : x = f
    · exact .inl (by simp [c])
    · exact .inr ((hl _).mpr (.inr ⟨rfl, h1, h2, c⟩))
  ends := fun t ht => by
    have e : t = (0, f) := by simpa using ht
    subst e
    simp
  in0 := fun x hx => by
    have e : x = 0 := by simpa using hx
    subst e
    omega
  in1 := fun x hx => by
    have e : x = f := by simpa using hx
    subst e
    exact hf
  nd := by simp
  conn := fun g hg => by
    have e := hg (0, f) (by simp)
    refine ⟨fun x hx => ?_, fun y hy => ?_⟩
    · have e : x = 0 := by simpa using hx
      subst e
      rfl
    · have e2 : y = f := by simpa using hy
      subst e2
      exact e.symm
  z0 := by simp
  z1 := by simp
theorem nodup_eraseIdx {α : Type} {l : List α} (h : l.Nodup) (k : Nat) : (l.eraseIdx k).Nodup := h.sublist (List.eraseIdx_sublist l k)
theorem mem_eraseIdx_of_nodup {α : Type} : ∀ {l : List α} {k : Nat} {a : α}, l.Nodup → l[k]? = some a → ∀ x, x ∈ l.eraseIdx k ↔ x ∈ l ∧ x ≠ a
  | [], k, a, _, h, x => by simp at h
  | b :: l, 0, a, nd, h, x => by
    have e : b = a := by simpa using h
    subst e
    obtain ⟨n1, n2⟩ := List.nodup_cons.mp nd
    show x ∈ l ↔ _
    constructor
    · intro hx
      exact ⟨List.mem_cons_of_mem _ hx, fun e => n1 (e ▸ hx)⟩
    · rintro ⟨hx, ne⟩
      rcases List.mem_cons.mp hx with e | hx
      · exact absurd e ne
      · exact hx
  | b :: l, k + 1, a, nd, h, x => by
    have h' : l[k]? = some a := by simpa using h
    obtain ⟨n1, n2⟩ := List.nodup_cons.mp nd
    have ih := mem_eraseIdx_of_nodup n2 h' x
    show x ∈ b :: l.eraseIdx k ↔ _
    have ha : a ∈ l := List.mem_of_getElem? h'
    constructor
    · intro hx
      rcases List.mem_cons.mp hx with e | hx
      · subst e
        exact ⟨List.mem_cons_self, fun e => n1 (e ▸ ha)⟩
      · obtain ⟨h1, h2⟩ := ih.mp hx
        exact ⟨List.mem_cons_of_mem _ h1, h2⟩
    · rintro ⟨hx, ne⟩
      rcases List.mem_cons.mp hx with e | hx
      · subst e
        exact List.mem_cons_self
      · exact List.mem_cons_of_mem _ (ih.mpr ⟨hx, ne⟩)
/-- a thing x is tied to a ready club y -/
theorem Grow.thing {n m : Nat} {left : List Tie} {r0 r1 : List Int} {ts : List Tie} (G : Grow n m left r0 r1 ts) {k : Nat} {x y : Int} (hk : left[k]? = some (0, x)) (hy : y ∈ r1) :
    Grow n m (left.eraseIdx k) (r0 ++ [x]) r1 (ts ++ [(x, y)]) := by
  have hx := List.mem_of_getElem? hk
  have mem := mem_eraseIdx_of_nodup G.lnd hk
  have nx : x ∉ r0 := G.apart0 _ hx rfl
  have bx : 0 ≤ x ∧ x < n := by
    rcases G.lok _ hx with h | h
    · exact h.2
    · exact absurd (show (0 : Int) = 1 from h.1) (by decide)
  exact {
    lnd := nodup_eraseIdx G.lnd k
    lok := fun p hp => G.lok p ((mem p).mp hp).1
    apart0 := fun p hp e hc => by
      obtain ⟨h1, h2⟩ := (mem p).mp hp
      rcases List.mem_append.mp hc with c | c
      · exact G.apart0 p h1 e c
      · have e2 : p.2 = x := by simpa using c
        exact h2 (Prod.ext e e2)
    apart1 := fun p hp e hc => G.apart1 p ((mem p).mp hp).1 e hc
    all0 := fun z h1 h2 => by
      by_cases c : z = x
      · exact .inl (by simp [c])
      · rcases G.all0 z h1 h2 with h | h
        · exact .inl (List.mem_append_left _ h)
        · exact .inr ((mem _).mpr ⟨h, fun e => c (congrArg Prod.snd e)⟩)
    all1 := fun z h1 h2 => by
      rcases G.all1 z h1 h2 with h | h
      · exact .inl h
      · exact .inr ((mem _).mpr ⟨h, fun e => absurd (show (1 : Int) = 0 from congrArg Prod.fst e) (by decide)⟩)
    ends := fun t ht => by
      rcases List.mem_append.mp ht with h | h
      · exact ⟨List.mem_append_left _ (G.ends t h).1, (G.ends t h).2⟩
      · have e : t = (x, y) := by simpa using h
        subst e
        exact ⟨by simp, hy⟩
    in0 := fun z hz => by
      rcases List.mem_append.mp hz with h | h
      · exact G.in0 z h
      · have e : z = x := by simpa using h
        subst e
        exact bx
    in1 := G.in1
    nd := by
      refine List.nodup_append.mpr ⟨G.nd, by simp, fun a ha b hb => ?_⟩
      have e : b = (x, y) := by simpa using hb
      subst e
      rintro rfl
      exact nx (G.ends _ ha).1
    conn := fun g hg => by
      obtain ⟨c0, c1⟩ := G.conn g fun t ht => hg t (List.mem_append_left _ ht)
      refine ⟨fun z hz => ?_, c1⟩
      rcases List.mem_append.mp hz with h | h
      · exact c0 z h
      · have e : z = x := by simpa using h
        subst e
        have := hg (z, y) (by simp)
        exact this.trans (c1 y hy)
    z0 := List.mem_append_left _ G.z0
    z1 := G.z1 }
/-- a club y is tied to a ready thing x -/
theorem Grow.club {n m : Nat} {left : List Tie} {r0 r1 : List Int} {ts : List Tie} (G : Grow n m left r0 r1 ts) {k : Nat} {x y : Int} (hk : left[k]? = some (1, y)) (hx : x ∈ r0) :
    Grow n m (left.eraseIdx k) r0 (r1 ++ [y]) (ts ++ [(x, y)]) := by
  have hy := List.mem_of_getElem? hk
  have mem := mem_eraseIdx_of_nodup G.lnd hk
  have ny : y ∉ r1 := G.apart1 _ hy rfl
  have by_ : 0 ≤ y ∧ y < m := by
    rcases G.lok _ hy with h | h
    · exact absurd (show (1 : Int) = 0 from h.1) (by decide)
    · exact h.2
  exact {
    lnd := nodup_eraseIdx G.lnd k
    lok := fun p hp => G.lok p ((mem p).mp hp).1
    apart0 := fun p hp e hc => G.apart0 p ((mem p).mp hp).1 e hc
    apart1 := fun p hp e hc => by
      obtain ⟨h1, h2⟩ := (mem p).mp hp
      rcases List.mem_append.mp hc with c | c
      · exact G.apart1 p h1 e c
      · have e2 : p.2 = y := by simpa using c
        exact h2 (Prod.ext e e2)
    all0 := fun z h1 h2 => by
      rcases G.all0 z h1 h2 with h | h
      · exact .inl h
      · exact .inr ((mem _).mpr ⟨h, fun e => absurd (show (0 : Int) = 1 from congrArg Prod.fst e) (by decide)⟩)
    all1 := fun z h1 h2 => by
      by_cases c : z = y
      · exact .inl (by simp [c])
      · rcases G.all1 z h1 h2 with h | h
        · exact .inl (List.mem_append_left _ h)
        · exact .inr ((mem _).mpr ⟨h, fun e => c (congrArg Prod.snd e)⟩)
    ends := fun t ht => by
      rcases List.mem_append.mp ht with h | h
      · exact ⟨(G.ends t h).1, List.mem_append_left _ (G.ends t h).2⟩
      · have e : t = (x, y) := by simpa using h
        subst e
        exact ⟨hx, by simp⟩
    in0 := G.in0
    in1 := fun z hz => by
      rcases List.mem_append.mp hz with h | h
      · exact G.in1 z h
      · have e : z = y := by simpa using h
        subst e
        exact by_
    nd := by
      refine List.nodup_append.mpr ⟨G.nd, by simp, fun a ha b hb => ?_⟩
      have e : b = (x, y) := by simpa using hb
      subst e
      rintro rfl
      exact ny (G.ends _ ha).2
    conn := fun g hg => by
      obtain ⟨c0, c1⟩ := G.conn g fun t ht => hg t (List.mem_append_left _ ht)
      refine ⟨c0, fun z hz => ?_⟩
      rcases List.mem_append.mp hz with h | h
      · exact c1 z h
      · have e : z = y := by simpa using h
        subst e
        have := hg (x, z) (by simp)
        exact this.symm.trans (c0 x hx)
    z0 := G.z0
    z1 := by simp }
/-- behind the last turn, and with further ties -/
structure Web0 (n m : Nat) (ts : List Tie) : Prop where
  inr : ∀ t ∈ ts, InR n m t
  nd : ts.Nodup
  conn : Conn n (n + m) ts
theorem Grow.web {n m : Nat} {r0 r1 : List Int} {ts : List Tie} (G : Grow n m [] r0 r1 ts) : Web0 n m ts where
  inr := fun t ht => by
    obtain ⟨h1, h2⟩ := G.ends t ht
    have a := G.in0 _ h1
    have b := G.in1 _ h2
    exact ⟨a.1, a.2, b.1, b.2⟩
  nd := G.nd
  conn := fun g hg => by
    obtain ⟨c0, c1⟩ := G.conn g hg
    have all : ∀ i, i < n + m → g i = g 0 := fun i hi => by
      by_cases c : i < n
      · have h : (i : Int) ∈ r0 := by
          rcases G.all0 i (by omega) (by omega) with h | h
          · exact h
          · cases h
        have := c0 _ h
        simpa using this
      · have h : ((i - n : Nat) : Int) ∈ r1 := by
          rcases G.all1 ((i - n : Nat) : Int) (by omega) (by omega) with h | h
          · exact h
          · cases h
        have := c1 _ h
        have e : n + ((i - n : Nat) : Int).toNat = i := by omega
        rw [e] at this
        exact this
    intro i j hi hj
    rw [all i hi, all j hj]
theorem Web0.more {n m : Nat} {ts : List Tie} (W : Web0 n m ts) {t : Tie} (ht : InR n m t) (hn : t ∉ ts) : Web0 n m (ts ++ [t]) where
  inr := fun u hu => by
    rcases List.mem_append.mp hu with h | h
    · exact W.inr u h
    · have e : u = t := by simpa using h
      subst e
      exact ht
  nd := by
    refine List.nodup_append.mpr ⟨W.nd, by simp, fun a ha b hb => ?_⟩
    have e : b = t := by simpa using hb
    subst e
    rintro rfl
    exact hn ha
  conn := W.conn.mem fun t ht => List.mem_append_left _ ht
theorem Web0.good {n m : Nat} {ts : List Tie} (W : Web0 n m ts) (n1 : 1 ≤ n) (n6 : n ≤ 6) (m1 : 1 ≤ m) (m6 : m ≤ 6) (hl : ts.length ≤ 12) : GoodWeb n m ts := ⟨n1, n6, m1, m6, W.inr, W.nd, hl, W.conn⟩
end TDm

namespace L2.TD
open PySem PySem.Spec PyProof.Rows

theorem small12' {n : Nat} (h : n ≤ 100000) : n ≤ sizeLine := Nat.le_trans h (by rw [sizeLine_eq]; decide)
/-! ### own exception classes: Base.__init__(self, ..), Base a class of the program -/
/-- what the written part says of the base class at D -/
structure BaseTxt (K : PySem.W.Frag) (D : Addr) : Prop where
  ga : PySem.W.specialIn K (.ref D) "__getattribute__" = some (some (.builtin "type.__getattribute__"))
  rd : PySem.W.readsIn K D (.type "type") = true
  vi : PySem.W.findCls K (.ref D) (.type "type") "__init__" = some (.val (.builtin "ValueError.__init__"))
section
variable {X : Cx} {e : Expr} {es : List Expr} {ta : TA} {p1 p2 pos : Pos} {D : Addr} {x : Str}
theorem pe_baseinit {pl : Sem Bool} (hg : Gl X x) (hm : X.mg x = some (.ref D)) (B : BaseTxt X.K D) (ha : PA X (e :: es) ta)
    (hc : eval (.Call (.Attribute (.Name x p1) "__init__" p2) (e :: es) [] pos) X.env = (do
      let ov ← eval (.Name x p1) X.env
      standAt p2.atName
      let (f, first) ← holding [ov] (getMethod ov "__init__" pl)
      callWith pos f first (backTo pos (starEach (e :: es) X.env)) (backToKw pos (keywordEach [] X.env))) := by rfl)
    (hdb : (x == ("__debug__" : Str)) = false := by decide)
    (he : starEach (e :: es) X.env = (false, eval e X.env) :: starEach es X.env := by rfl) (hpl : (backTo pos (starEach es X.env)).any (·.1) = false := by rfl) :
    PE X (.Call (.Attribute (.Name x p1) "__init__" p2) (e :: es) [] pos) (tVeI X.K ta) := by
  refine ⟨fun pins s σ H Q I h => ?_⟩
  refine PySem.W.methodCall_KW (ld_glob I hg hm ?_ hdb) hc
  refine PySem.W.method_cls I.kIn B.ga (PySem.W.cls_value I.kIn B.rd B.vi (by decide +kernel) ?_)
  refine PyProof.Rows.callWith_method1 (id := "ValueError.__init__") (thn (ha.run pos pins _ σ H _ (I.tok _) h) ?_) he hpl
  rintro _ s' ⟨_, Ha, J, rs, a, C, ws, rfl, few, T, at_, q⟩
  cases rs with
  | cons ra rest =>
    cases ra
    have size := Paired.length rest
    exact oinit_ok T J at_ (by rw [← size]; exact small12' (by omega)) fun _ J' => ⟨.non, Ha, J', rfl, q⟩
end
/-! ### an exception made with no argument, which gets no field -/
/-- C(), C's own __init__ keeping sp; no field -/
def tMkO0 (C : Addr) (sp : Sp) : St → Hp → XK → Prop := fun _ H1 Q => ∀ a, H1 a = none → sp [.ref a] (upd H1 a (exo a C none))
  (fun v H2 => v = .non ∧ H2 a = some (exo a C none) ∧ Q (.ref C) none (del H2 a)) (fun _ _ _ => False)
section
variable {X : Cx} {p pos : Pos}
/-- an object that is new behind hp is taken away again: the others stand -/
theorem un_free {fs : List Addr} {H1 H2 : Hp} {hp hp2 h2 G : Heap} {a : Addr} {w : HO} (old : ∀ b u, hp.get? b = some u → b ≠ a) (kp : ∀ b u, hp.get? b = some u → hp2.get? b = some u) (na : H1 a = none)
    (un : Un fs [] (upd H1 a w) H2 hp2 h2) (g : ∀ b, b ≠ a → G.get? b = h2.get? b) : Un fs [] H1 (del H2 a) hp G := by
  have miss : ∀ {b : Addr} {u : Obj}, hp.get? b = some u → H1 b = none → upd H1 a w b = none := fun e n => (upd_ne (old _ _ e)).trans n
  have held : ∀ {b : Addr} {u : HO}, H1 b = some u → upd H1 a w b = some u := fun e => (upd_ne (ne_of_none e na)).trans e
  have apart : ∀ {b : Addr} {u : HO}, H1 b = some u → del H2 a b = H2 b := fun e => del_ne (ne_of_none e na)
  constructor
  case keep =>
    intro b u e n nf nx
    rw [g b (old b u e)]
    exact un.keep b u (kp b u e) (miss e n) nf nx
  case slot =>
    intro b u e n nf nx
    rw [g b (old b u e)]
    exact un.slot b u (kp b u e) (miss e n) nf nx
  case free =>
    intro b u e n nx
    rw [del_ne (old b u e)]
    exact un.free b u (kp b u e) (miss e n) nx
  case there =>
    intro b u e nx
    rw [g b (old b u e)]
    exact un.there b u (kp b u e) nx
  case tups =>
    intro b xs e
    exact (apart e).trans (un.tups b xs (held e))
  case frzs =>
    intro b u v e
    exact (apart e).trans (un.frzs b u v (held e))
  case tbls =>
    intro b ps e
    rw [apart e]
    exact un.tbls b ps (held e)
theorem hok_free {P : Program} {w : World} {H2 : Hp} {h2 G : Heap} {a C : Addr} (hok : HOk P w H2 h2) (ea : H2 a = some (exo a C none)) (g : ∀ b, b ≠ a → G.get? b = h2.get? b) : HOk P w (del H2 a) G := by
  intro b u e
  have ba : b ≠ a := by
    rintro rfl
    rw [del_same] at e
    exact nomatch e
  refine (hok b u ((del_ne ba).symm.trans e)).stay ?_ (fun c hc => (del_ne (at_ne ea hc exo_own)).trans hc) (fun c xs hc => (del_ne (at_ne ea hc exo_tup)).trans hc)
  rintro c v (hc | hc) y
  · exact (g c (by rw [hc]; exact ba)).trans y
  · exact (g c (at_ne ea hc exo_own)).trans y
theorem mk_endN {pins : List (Addr × Obj)} {σ : St} {Ha Hb : Hp} {Q : XK} {ha hb hc : Heap} {ga gb : Array GenState} {da db : Drawn} {ta tb : Nat} {oa ob : OsState} {a C : Addr} (T : Raises X (.ref C)) (I : Inv X pins σ Ha ⟨ha, ga, da, ta, oa⟩)
    (young : ha.objs.size ≤ a) (kp : ∀ b u, ha.get? b = some u → hb.get? b = some u) (un : Un (frs X.stack) [] (upd Ha a (exo a C none)) Hb hb hc) (ok : HOk X.prog X.w Hb hc) (eo : ob = oa) (bare : AllBare gb)
    (ea : Hb a = some (exo a C none)) (q : Q (.ref C) none (del Hb a)) : MkP X pins σ Q (.ref a) ⟨hc, gb, db, tb, ob⟩ := by
  obtain ⟨G, stay, gone⟩ := restrict hc fun b => !(b == a)
  have same : ∀ b, b ≠ a → G.get? b = hc.get? b := fun b nb => stay b (by simpa using nb)
  have none_ : G.get? a = none := gone a (by simp)
  have U := un_free (fun b u e => Nat.ne_of_lt (Nat.lt_of_lt_of_le (Heap.lt_size e) young)) kp (I.hok.fresh young) un same
  have J : Inv X pins σ (del Hb a) ⟨G, gb, db, tb, ob⟩ := I.call' (ch := []) eo U (hok_free ok ea same) bare fun b z => by simp at z
  obtain ⟨t0, there⟩ := exo_at ok ea
  refine ⟨a, _, _, ⟨G, gb, db, tb, ob⟩, _, .ref C, none, rfl, J, fun b u e => ?_, none_, there, ⟨rfl, rfl⟩, rfl, rfl, del_same, rfl, bare, T, q⟩
  have nb : b ≠ a := by
    rintro rfl
    have e' : G.get? b = some u := e
    rw [none_] at e'
    exact nomatch e'
  exact (same b nb).symm.trans e
theorem pmk_oex0 {CX : CXT} {x : Str} {C fI : Addr} {k : Nat} {fd : FuncData} {ps : List Str} {sp : Sp} (T : OexC X.K C) (iC : PySem.W.findIn X.K (.ref C) "__init__" = some (some (.ref fI))) (tI : PySem.W.typeIn X.K (.ref fI) = some (.type "function"))
    (F1 : FnOk X.prog X.w X.K X.mg X.base CX k fI fd ps sp) (hr : Room (k + 1) X.A) (hb : Binds X.K fd ps []) (hx : Passes CX X (fun _ _ _ => False)) (hg : Gl X x) (hm : X.mg x = some (.ref C))
    (hdb : (x == ("__debug__" : Str)) = false := by decide) :
    PMk X (.Call (.Name x p) [] [] pos) (tMkO0 C sp) := by
  intro pins s₀ σ Ha Q I h
  obtain ⟨_, _, _, _, bm, _, _, _, _, _, _, _, _, _, _, row, low⟩ := T.cls
  refine wpAny_Call_Name_kw (ld_glob I hg hm ?_ hdb)
  refine PySem.W.callWith_K0 I.kIn T.kC (show wpAny _ _ (call (.ref C) []) _ _ _ from ?_)
  obtain ⟨m0, gs, dr, tk, os⟩ := s₀
  have late : m0.objs.size ≤ m0.objs.size + 1 := by omega
  have wish := h _ (I.hok.fresh late)
  generalize hm1 : (m0.push (PySem.W.kdv_tup [])).push (PySem.HandSPX.excO C m0.objs.size) = m1
  have old : ∀ b u, m0.get? b = some u → m1.get? b = some u := fun b u e => by
    rw [← hm1]
    exact Heap.get?_push_of_some _ (Heap.get?_push_of_some _ e)
  have own : m1.get? (m0.objs.size + 1) = some (PySem.HandSPX.excO C m0.objs.size) := by
    rw [← hm1]
    heap_get
  have J : Inv X pins σ (upd Ha (m0.objs.size + 1) (exo (m0.objs.size + 1) C none)) ⟨m1, gs, dr, tk, os⟩ := I.laid old late (exo_ok own)
  have args : Vals [V.ref (m0.objs.size + 1)] [Value.ref (m0.objs.size + 1)] := .cons rfl .nil
  have named := hb _ [Value.ref (m0.objs.size + 1)] J.kIn (F1.len _ _ _ _ wish)
  have walk := F1.run _ X.stack _ _ ⟨[_], []⟩ _ _ _ (fun _ _ _ => False) (hr.make C [] []) (J.env0.make C [] []) named args wish
  refine wpAny_call (PySem.HandSPX.call_own F.excBase_ValueError (fun Y => PySem.HandSPX.refsVE_contains Y bm low) (I.kIn _ _ row) (PySem.W.looks_findIn I.kIn iC) (fun self => PySem.W.bind_fn I.kIn self tI) (Nat.zero_le _)
    (codeAny_mono (by rw [hm1]; exact walk) fun out s' got => ?_))
  match out, got with
  | .error er, got => exact hx pins σ _ _ er s' J got
  | .ok (.ret u), got =>
    obtain ⟨v, Hb, eo, bare, un, ok, rv, rfl, ea, q⟩ := got
    obtain ⟨m2, g2, d2, t2, o2⟩ := s'
    exact ⟨rv, mk_endN (raises_own T.exC T.tyC) I late old un ok eo bare ea q⟩
  | .ok .next, got => exact got.elim
  | .ok .brk, got => exact got.elim
  | .ok .cont, got => exact got.elim
end
/-! ### a class's call whose __init__ may raise, wished for at the caller's slots -/
def tMakeS (C : Addr) (sp : Sp) (E : St → XK) (t : TA) : TE := fun σ H Q => t σ H fun vs H1 => ∀ x dx, H1 x = none → H1 dx = none → dx ≠ x →
  sp (.ref x :: vs) (upd (upd H1 dx (.own x)) x (.ins C dx [])) (fun v H2 => v = .non ∧ Q (.ref x) H2) (E σ)
section
variable {X : Cx} {CX : CXT} {k : Nat} {f C : Addr} {fd : FuncData} {ps : List Str} {sp : Sp} {E : St → XK} {x : Str} {p pos : Pos} {e : Expr} {es : List Expr} {t : TA}
theorem run_makeS {pins : List (Addr × Obj)} {σ : St} {H : Hp} {s : Shared} {Q : VK} {us : List Value} {vs : List V} (M : Mk X.K C f) (F : FnOk X.prog X.w X.K X.mg X.base CX k f fd ps sp) (hr : Room (k + 1) X.A) (hb : Binds X.K fd ps [])
    (hx : PassesAt CX X σ (E σ)) (I : Inv X pins σ H s) (r : Vals vs us)
    (h : ∀ x dx, H x = none → H dx = none → dx ≠ x → sp (.ref x :: vs) (upd (upd H dx (.own x)) x (.ins C dx [])) (fun v H2 => v = .non ∧ Q (.ref x) H2) (E σ)) :
    wpAny (model X.prog X.w) X.A (call (.ref C) us) (EP X pins σ Q) X.xe s := by
  have young := Inv.made (C := C) I
  have wish := h _ _ (I.hok.fresh (Nat.le_succ s.heap.objs.size)) (I.hok.fresh (Nat.le_refl s.heap.objs.size)) (show s.heap.objs.size ≠ s.heap.objs.size + 1 by omega)
  have args : Vals (V.ref (s.heap.objs.size + 1) :: vs) (Value.ref (s.heap.objs.size + 1) :: us) := r.cons rfl
  have named := hb _ (Value.ref (s.heap.objs.size + 1) :: us) young.kIn (by rw [List.append_nil, ← args.length]; exact F.len _ _ _ _ wish)
  rw [List.append_nil] at named
  have walk := F.run _ X.stack _ _ ⟨_ :: us, []⟩ _ _ _ (E σ) (hr.make C us []) (young.env0.make C us []) named args wish
  refine wpAny_call (make_map I.kIn M.makes M.init (beq_iff_eq.mp M.fn) (codeAny_mono walk fun out s' got => ?_))
  match out, got with
  | .error er, got => exact hx pins _ _ er s' young got
  | .ok (.ret u), got =>
    obtain ⟨v, Hb, J, rv, rfl, q⟩ := young.after got
    exact ⟨rv, .ref _, Hb, J, rfl, q⟩
  | .ok .next, got => exact got.elim
  | .ok .brk, got => exact got.elim
  | .ok .cont, got => exact got.elim
theorem pe_makeS (M : Mk X.K C f) (F : FnOk X.prog X.w X.K X.mg X.base CX k f fd ps sp) (hr : Room (k + 1) X.A) (hg : Gl X x) (hm : X.mg x = some (.ref C)) (hb : Binds X.K fd ps []) (hx : ∀ σ, PassesAt CX X σ (E σ))
    (ha : PA X (e :: es) t) (hdb : (x == ("__debug__" : Str)) = false := by decide) (he : starEach (e :: es) X.env = (false, eval e X.env) :: starEach es X.env := by rfl) (hpl : (backTo pos (starEach es X.env)).any (·.1) = false := by rfl) :
    PE X (.Call (.Name x p) (e :: es) [] pos) (tMakeS C sp E t) := by
  refine ⟨fun pins s σ H Q I h => ?_⟩
  refine wpAny_Call_Name_kw (ld_glob I hg hm ?_ hdb)
  refine PySem.W.callWith_K (h₀ := X.base) I.ok.mod.kin M.kp (thn (ha.run pos pins s σ H _ I h) fun us s1 ⟨vs, H1, I1, r, q⟩ => ⟨I1.kIn, ?_⟩) he hpl
  exact run_makeS M F hr hb (hx σ) I1 r q
end

/-! ### isinstance of a caught exception that has its own dict -/
def rIsED (K : PySem.W.Frag) (a : Addr) (cls : Value) (d : Option Addr) : List V → Hp → VK → Prop := fun xs H Q => ∃ (C dd : Addr) (fs : List (Str × V)) (c : V) (cv : Value) (b : Bool),
  xs = [.ref a, c] ∧ cls = .ref C ∧ d = some dd ∧ ExcC K C ∧ H dd = some (.xd fs) ∧ ClsV c cv ∧ PySem.W.kitOne K (.ref C) cv = some b ∧ Q (.bl b) H
theorem call_isED {X : Cx} {a : Addr} {oe : Obj} {cls : Value} {d : Option Addr} {pn : List (Addr × Obj)} (hz : Zc cls d oe) (hf : ∃ vs, oe.data = .fields vs) : CallR (X.suite a ((a, oe) :: pn)) (.builtin "isinstance") (rIsED X.K a cls d) := by
  intro pins s σ H xs us Q I r h
  obtain ⟨C, dd, fs, c, cv, b, rfl, rfl, rfl, EC, hdd, kc, e, q⟩ := h
  cases r with
  | cons rx rr =>
    cases rr with
    | cons rt rr =>
      cases rr
      cases rx
      have ec := kc.eq rt
      subst ec
      obtain ⟨hget, _⟩ := I.pin (a, oe) (List.mem_append.mpr (.inl List.mem_cons_self))
      obtain ⟨vs, hv⟩ := hf
      have hx : ObjOk X.prog X.w H s.heap dd (.xd fs) := I.hok dd _ hdd
      obtain ⟨mA, hns, hr⟩ := hx
      obtain ⟨od, ho, hl⟩ := lookIn_ns hns
      have J : PySem.W.InstAt s.heap a oe C (some od) := ⟨hget, hz.1, by unfold PySem.W.notCls; rw [hv] <;> rfl, by rw [hz.2]; exact ho⟩
      obtain ⟨cd, hcl, _⟩ := PySem.W.any_some EC.hd
      exact PySem.W.kia_one (PySem.W.kitx_exc (by rw [hcl]; rfl) EC.hg EC.hk EC.hs EC.ha EC.hn EC.ht EC.hm) I.kIn J e (fun z => nomatch z) fun tk => ⟨.bl b, H, I.kept (t' := tk) fun _ _ z => z, rfl, q⟩

/-! ### len(set(xs)), xs ints, alike or not -/
theorem firstMet_card (ns : List Int) : (firstMet (fun i => ns.getD i 0) ns.length).length = TDm.card ns := by
  have e : (List.range ns.length).map (fun i => ns.getD i 0) = ns := by
    apply List.ext_getElem?
    intro i
    rw [List.getElem?_map]
    by_cases h : i < ns.length
    · rw [List.getElem?_range h]
      simp [List.getD_eq_getElem?_getD, h]
    · rw [List.getElem?_eq_none (by simpa using h), List.getElem?_eq_none (by simpa using h)]
      rfl
  unfold firstMet
  rw [e]
  rfl
def tLenSetN (K : PySem.W.Frag) (ta : TE) : TE := fun σ H Q => ta σ H fun x H1 => ∃ (l : Addr) (ns : List Int), x = V.ref l ∧ SqL K H1 l (ns.map V.int) ∧ ns.length < 64 ∧ Q (.int (TDm.card ns)) H1
section
variable {X : Cx}
theorem pe_lenSetN {a : Expr} {ta : TE} {p p2 q pos : Pos} (hc : X.calm = true) (hg : Gl X "len") (hm : X.mg "len" = none) (hg2 : Gl X "set") (hm2 : X.mg "set" = none) (ha : PE X a ta)
    (na : starEach [a] X.env = (false, eval a X.env) :: starEach [] X.env := by rfl) : PE X (.Call (.Name "len" p) [.Call (.Name "set" p2) [a] [] q] [] pos) (tLenSetN X.K ta) := by
  refine ⟨fun pins s σ H Q I h => Call_ (ld_blt I hg hm PySem.boot_len (PyProof.Rows.callWith_builtin1 (PyProof.Rows.args_cons ?_ rfl) rfl rfl))⟩
  refine Call_ (ld_blt I hg2 hm2 PyProof.Rows.boot_set (PyProof.Rows.callWith_type1 (PyProof.Rows.args_cons (thn (ha.run pins s σ H _ I h) fun v s' z => PyProof.Rows.args_nil ?_) na) na rfl))
  obtain ⟨x, Ha, J, rx, l, ns, rfl, inl, few, q⟩ := z
  cases rx
  obtain ⟨us, ru, plain, _⟩ := J.list inl
  have size : us.toArray.size = ns.length := by simpa using ru.length.symm
  have most : (firstMet (fun i => ns.getD i 0) ns.length).length ≤ ns.length := firstMet_length_le _ _
  refine call_set_list (J.ok.hd hc) plain.isList (ns := ns) (by simpa using ru.ints) (by unfold scanBound; omega) fun m tk made kp => PyProof.Rows.args_nil ?_
  rw [size] at made
  obtain ⟨o, es, ep, t, h1, h2, h3, _, _, _, h4, h5⟩ := made
  have J' : Inv X pins σ Ha { s' with heap := m, toks := tk } := J.kept fun b u e => kp b u (Heap.lt_size e) e
  exact call_len_set h1 h2 h3 h4 (by rw [h5]; omega) ⟨.int (TDm.card ns), Ha, J'.tok _, ⟨_, by rw [h5, firstMet_card]⟩, q⟩

/-! ### len of a set of tuples of ints -/
theorem call_len_setT : CallR X (.builtin "len") (fun xs H Q => ∃ (a : Addr) (L : List (Addr × List Int)), xs = [V.ref a] ∧ H a = some (SetTO X.prog X.w a L) ∧ ((L.map (·.2)).Nodup → Q (.int L.length) H)) := by
  rintro pins s σ H _ us Q I r ⟨a, L, rfl, at_, q⟩
  rw [Vals.ref1 r]
  obtain ⟨es, ep, t, ⟨o, h1, h2, h3⟩, rows, tab, nd, _⟩ := (I.hok a _ at_).1.ex
  have size : es.size = L.length := by simpa [rowsOf] using congrArg List.length rows
  have fits : t.fits es.size = true := by
    have e := tab.sz
    rw [List.length_map] at e
    simp only [SetTable.fits, SetTable.fill, tab.dm, Bool.and_eq_true, beq_iff_eq, decide_eq_true_eq]
    refine ⟨by omega, ?_⟩
    show t.place.size + 0 ≤ _
    omega
  exact call_len_set h1 h2 h3 fits (by omega) ⟨.int L.length, H, I.tok _, ⟨_, by rw [size]⟩, q nd⟩
end

/-! ### for over a list or a tuple; unpacking a list or a tuple -/
section
variable {X : Cx} {tg : Expr}
def iSeq (K : PySem.W.Frag) (tl : TE) : TI := fun σ H R => tl σ H fun x H1 => ∃ a, x = .ref a ∧ (((∃ xs, SqL K H1 a xs) ∧ R (Itl K a) H1) ∨ ((∃ xs, SqT K H1 a xs) ∧ R (Itt K a) H1))
theorem pi_seq {l : Expr} {tl : TE} (hl : PE X l tl) : PI X tg l (iSeq X.K tl) := by
  refine ⟨fun pins s σ H R I h => thn (hl.run pins s σ H _ I h) fun v s' z => ?_⟩
  obtain ⟨x, Ha, J, rx, a, rfl, q⟩ := z
  cases rx
  have foot : ∀ b ∈ [s'.heap.objs.size], FpOk X pins Ha b := fun b hb => by
    rw [List.mem_singleton.mp hb]
    exact J.fpOk (Nat.le_refl _) (J.hok.fresh (Nat.le_refl _))
  have push : ∀ o : Obj, Inv X pins σ Ha { s' with heap := s'.heap.push o } := fun o => J.kept (t' := s'.toks) fun _ _ e => Heap.get?_push_of_some _ e
  rcases q with ⟨⟨xs, inl⟩, q⟩ | ⟨⟨xs, inl⟩, q⟩
  · obtain ⟨_, _, plain, _⟩ := J.list inl
    exact wpAny_pyIter_list plain.isList ⟨_, [_], _, _, Ha, rfl, push _, turn_list a _, ⟨_, Heap.get?_push_size _ rfl, rfl, rfl⟩, foot, q⟩
  · obtain ⟨us, _, plain, _⟩ := J.tuple inl
    exact wpAny_pyIter_tuple (show s'.heap.IsTuple a us.toArray from plain) ⟨_, [_], _, _, Ha, rfl, push _, turn_tuple a _, ⟨_, Heap.get?_push_size _ rfl, rfl, rfl⟩, foot, q⟩
def gSeq (K : PySem.W.Frag) (n : Nat) (t : TGs) : TG := fun v σ H Q => ∃ a xs, v = .ref a ∧ (SqL K H a xs ∨ SqT K H a xs) ∧ xs.length = n ∧ t xs σ H Q
theorem pg_seq {es : List Expr} {k : Nat} {pos : Pos} {t : TGs} {n : Nat} (hc : X.calm = true) (h : PGs X es t)
    (hn : (assignEach es X.env).length = n := by rfl) (hst : (assignEach es X.env).findIdx? (·.1) = none := by rfl) : PG X (.Tuple es k pos) (gSeq X.K n t) := by
  refine ⟨fun pins s σ H v u Q I r hw => ?_⟩
  obtain ⟨a, xs, e1, hq, hl, hw⟩ := hw
  rcases hq with hq | hq
  · exact (pg_unl hc h hn hst).run pins s σ H v u Q I r ⟨a, xs, e1, hq, hl, hw⟩
  · exact (pg_tup hc h hn hst).run pins s σ H v u Q I r ⟨a, xs, e1, hq, hl, hw⟩
end

/-! ### iter(t), t a tuple; the iteration over an object of a class whose __iter__ hands that back -/
abbrev itTob (t : Addr) : Obj := { cls := .type "tuple_iterator", data := .fields #[.ref t, .int 0 0] }
def ItT (t it : Addr) : HO := .ext fun h => h.get? it = some (itTob t)
theorem itT_ok {P : Program} {w : World} {H : Hp} {h : Heap} {t it : Addr} (e : h.get? it = some (itTob t)) : ObjOk P w H h it (ItT t it) := ⟨e, ⟨_, e⟩, fun h1 h2 q k => k _ q⟩
def rIterT (K : PySem.W.Frag) : List V → Hp → VK → Prop := fun xs H Q => ∃ (t : Addr) (zs : List V), xs = [.ref t] ∧ SqT K H t zs ∧ ∀ it, H it = none → (∀ b o, H b = some o → b < it) → Q (.ref it) (upd H it (ItT t it))
section
variable {X : Cx}
theorem call_iterT : CallR X (.builtin "iter") (rIterT X.K) := by
  intro pins s σ H xs us Q I r h
  obtain ⟨t, zs, rfl, hq, q⟩ := h
  obtain rfl := Vals.ref1 r
  obtain ⟨its, rv, pl, hz⟩ := I.tuple hq
  refine Calls.call_function_entry (by decide +kernel) (by decide +kernel) PySem.W.kdk_entry_iter (PySem.W.kdk_args_iter _) ?_
  unfold Builtin.«iter»
  refine wpAny_bind (m := someArgs "iter" 1 2 _) (wpAny_of_eq (a := [Value.ref t]) (by first | rfl | kernel_rfl!) ?_)
  show wpAny _ _ (pyIter (.ref t) >>= _) _ _ _
  refine wpAny_bind (wpAny_pyIter_tuple (show s.heap.IsTuple t its.toArray from pl) ?_)
  refine wpAny_pure ⟨_, rfl, ?_⟩
  exact ⟨.ref s.heap.objs.size, _, I.laid (t' := s.toks) (fun b u e => Heap.get?_push_of_some _ e) (Nat.le_refl _) (itT_ok (Heap.get?_push_size _ rfl)), rfl, q _ (I.hok.fresh (Nat.le_refl _)) fun b o e => I.hok.lt e⟩
/-- tuple(xs), the new one beyond the def's entry -/
theorem call_tuple_young : CallR X (.type "tuple") (fun xs H Q => ∃ p ys, xs = [.ref p] ∧ SqL X.K H p ys ∧ ∀ l, H l = none → X.s_0.heap.objs.size ≤ l → Q (.ref l) (upd H l (.tup ys))) := by
  intro pins s σ H zs us Q I r h
  obtain ⟨p, ys, rfl, inl, q⟩ := h
  obtain ⟨its, ri, plain, small⟩ := I.list inl
  rw [Vals.ref1 r]
  refine call_tuple_list plain.isList (fun m kp => ?_) (by rw [List.size_toArray, ← ri.length]; exact small)
  have J : Inv X pins σ H { s with heap := m } := I.kept (t' := s.toks) kp
  refine ⟨.ref m.objs.size, _, J.laid (t' := s.toks) (o := .tup ys) (fun _ _ e => Heap.get?_push_of_some _ e) (Nat.le_refl _) ?_, rfl, q _ (J.hok.fresh (Nat.le_refl _)) J.sz⟩
  exact ⟨small, its, ri, IsTup.new _ _⟩
/-- what __iter__ promises -/
def spIter (K : PySem.W.Frag) (C : Addr) : Sp := fun vs H Q _ => ∃ (a dx : Addr) (fs : List (Str × V)) (t : Addr) (xs : List V), vs = [.ref a] ∧ H a = some (.ins C dx fs) ∧ fs.lookup ("ties" : Str) = some (.ref t) ∧ SqT K H t xs ∧
  ∀ it, H it = none → (∀ b o, H b = some o → b < it) → Q (.ref it) (upd H it (ItT t it))
/-- for .. in o, o of the class at C: its ties; some young thing stands already (n0: the entry's size) -/
def iOwn (K : PySem.W.Frag) (n0 : Nat) (C : Addr) (te : TE) : TI := fun σ H R => te σ H fun x H1 => ∃ (a dx : Addr) (fs : List (Str × V)) (t : Addr) (xs : List V) (p : Addr) (o : HO), x = .ref a ∧ H1 a = some (.ins C dx fs) ∧
  fs.lookup ("ties" : Str) = some (.ref t) ∧ SqT K H1 t xs ∧ H1 p = some o ∧ n0 ≤ p ∧ R (Itt K t) H1
theorem pi_own {CX : CXT} {tg e : Expr} {te : TE} {C g : Addr} {k : Nat} {fd : FuncData} {ps : List Str} {E : XK} (he : PE X e te) (hs : PySem.W.findIn X.K (.ref C) "__iter__" = some (some (.ref g))) (hf : PySem.W.isFn X.K (.ref g) = true)
    (F : FnOk X.prog X.w X.K X.mg X.base CX k g fd ps (spIter X.K C)) (hr : Room k X.A) (hb : Binds X.K fd ps []) (hx : Passes CX X E) : PI X tg e (iOwn X.K X.s_0.heap.objs.size C te) := by
  refine ⟨fun pins s σ H R I h => ?_⟩
  refine thn (he.run pins s σ H _ I h) fun v s1 ⟨x, H1, I1, r1, q1⟩ => ?_
  obtain ⟨a, dx, fs, t, xs, p, o, rfl, ea, el, ht, ep, hp, q⟩ := q1
  cases r1
  obtain ⟨mA, O, _, _, _, _⟩ := ins_get I1.hok ea
  obtain ⟨od, J, _⟩ := O.look
  obtain ⟨m, hF⟩ := I1.fr
  refine PySem.W.owit_iter hF I1.ok.mod.kin J hs hf ?_
  refine thn (run_fn (ds := []) (dvs := []) (E := E) (Q := fun v H2 => ∃ it, v = .ref it ∧ H1 it = none ∧ (∀ b o, H1 b = some o → b < it) ∧ H2 = upd H1 it (ItT t it)) (us := [.ref a]) (vs := [.ref a]) F hr hb .nil hx I1 (.cons rfl .nil)
    ⟨a, dx, fs, t, xs, rfl, ea, el, ht, fun it n1 n2 => ⟨it, rfl, n1, n2, rfl⟩⟩) fun u s2 ⟨v, H2, I2, rv, it, ev, n1, n2, e2⟩ => ?_
  subst ev
  subst e2
  cases rv
  have hit : upd H1 it (ItT t it) it = some (ItT t it) := upd_same
  have ho : s2.heap.get? it = some (itTob t) := (I2.hok it _ hit).1
  have hT : s2.TypeIs (.ref it) "tuple_iterator" := ⟨_, ho, rfl⟩
  unfold PySem.W.OwitIt
  refine wpAny_specialOf hT PySem.F.slot_tuple_iterator_next.lookup ?_
  have I3 := ItX.inv_drop I2 hit
  refine ⟨it, [it], _, Itt X.K t, ItX.dropH (upd H1 it (ItT t it)) it, rfl, I3, turn_tuple t it, ⟨_, ho, rfl, rfl⟩, fun b hb => ?_, ?_⟩
  · have e : b = it := by simpa using hb
    rw [e]
    exact ItX.inv_fp I2 hit (Nat.le_trans hp (Nat.le_of_lt (n2 p o ep)))
  · rw [ItX.dropH_upd n1]
    exact q
/-- a == b by the text's own ==, whatever it says -/
def rEqOwn (C : Addr) (sp : Sp) (E : XK) : R2 := fun x y H Q => ∃ a b dx dy fs gs, x = .ref a ∧ y = .ref b ∧ H a = some (.ins C dx fs) ∧ H b = some (.ins C dy gs) ∧ sp [.ref a, .ref b] H (fun v H' => (∃ k, v = .bl k) ∧ Q v H') E
theorem op_eqOwn {CX : CXT} {C f : Addr} {k : Nat} {fd : FuncData} {ps : List Str} {sp : Sp} {E : XK} (F : FnOk X.prog X.w X.K X.mg X.base CX k f fd ps sp)
    (hs : PySem.W.findIn X.K (.ref C) "__eq__" = some (some (.ref f))) (hf : PySem.W.isFn X.K (.ref f) = true) (hr : Room k X.A) (hb : Binds X.K fd ps []) (hx : Passes CX X E) : OpR X (compareOp .Eq) (rEqOwn C sp E) := by
  rintro pins s σ H _ _ v u Q I rx ry ⟨a, b, dx, dy, fs, gs, rfl, rfl, at1, at2, wish⟩
  cases rx
  cases ry
  obtain ⟨_, O1, _⟩ := ins_get I.hok at1
  obtain ⟨_, O2, _⟩ := ins_get I.hok at2
  obtain ⟨_, L1, _⟩ := O1.look
  obtain ⟨_, L2, _⟩ := O2.look
  obtain ⟨_, fr⟩ := I.fr
  refine PySem.W.cmp_K (op := .Eq) (tb := .ref C) hr.units0 fr I.ok.mod.kin L1 L2.type (by simp [PySem.W.notFirst]) hs hf ?_
  refine thn (run_fn (ds := []) (dvs := []) (us := [_, _]) (vs := [.ref a, .ref b]) F hr hb .nil hx I (.cons rfl (.cons rfl .nil)) wish) ?_
  rintro _ s' ⟨_, H', J, rz, ⟨k', rfl⟩, q⟩
  cases rz
  exact ⟨.bl k', H', J, rfl, q⟩
end
end L2.TD

/-! what stays of the abstract heap; data; the hand -/
namespace L2.TD
open PySem PySem.Spec PyProof.Rows

/-! ### all but some stands as it was -/
def Keeps (S : List Addr) (H H' : Hp) : Prop := ∀ b o, b ∉ S → H b = some o → H' b = some o
def wo (S : List Addr) (H : Hp) : Hp := fun b => if b ∈ S then none else H b
section
variable {S T : List Addr} {H H' H1 H2 : Hp} {a b p : Addr} {o u : HO}
theorem Keeps.refl : Keeps S H H := fun _ _ _ h => h
theorem Keeps.trans (k : Keeps S H H1) (l : Keeps S H1 H2) : Keeps S H H2 := fun b o n h => l b o n (k b o n h)
theorem Keeps.of (k : Same H H') : Keeps S H H' := fun b o _ h => k b o h
theorem Keeps.mono (k : Keeps S H H') (h : ∀ x ∈ S, x ∈ T) : Keeps T H H' := fun b o n e => k b o (fun z => n (h b z)) e
theorem Keeps.new (n : H p = none) : Keeps S H (upd H p o) := fun b u _ e => by rw [upd_ne (ne_of_none e n)]; exact e
theorem Keeps.mut (h : p ∈ S) : Keeps S H (upd H p o) := fun b u n e => by rw [upd_ne (fun z => n (by rw [z]; exact h))]; exact e
theorem Keeps.at (k : Keeps S H H') (h : H b = some o) (n : b ∉ S) : H' b = some o := k b o n h
theorem Keeps.same (k : Keeps [] H H') : Same H H' := fun b o e => k b o (by simp) e
theorem wo_out (h : b ∉ S) : wo S H b = H b := if_neg h
theorem wo_in (h : b ∈ S) : wo S H b = none := if_pos h
theorem wo_at (h : wo S H b = some o) : H b = some o ∧ b ∉ S := by
  by_cases e : b ∈ S
  · rw [wo_in e] at h; cases h
  · rw [wo_out e] at h; exact ⟨h, e⟩
theorem wo_same : Same (wo S H) H := fun b o h => (wo_at h).1
theorem wo_mono (h : ∀ x ∈ S, x ∈ T) : Same (wo T H) (wo S H) := fun b o e => by
  obtain ⟨e1, n⟩ := wo_at e
  rw [wo_out fun z => n (h b z)]
  exact e1
theorem Keeps.wo (k : Keeps S H H') : Same (wo S H) (wo S H') := fun b o e => by
  obtain ⟨e1, n⟩ := wo_at e
  rw [wo_out n]
  exact k b o n e1
theorem _root_.L2.Same.wo (k : Same H H') : Same (wo S H) (TD.wo S H') := (Keeps.of k).wo
/-- what is new is not among the old ones -/
theorem fresh_ne (n : H p = none) (h : H b = some o) : p ≠ b := fun z => by rw [z, h] at n; cases n
theorem Keeps.free (k : Keeps S H H') (n : H' p = none) (h : p ∉ S) : H p = none := by
  cases e : H p with
  | none => rfl
  | some o => rw [k p o h e] at n; cases n
theorem Keeps.new' (k : Keeps S H H1) (n : H1 p = none) : Keeps S H (upd H1 p o) := k.trans (Keeps.new n)
theorem Keeps.mut' (k : Keeps S H H1) (h : p ∈ S) : Keeps S H (upd H1 p o) := k.trans (Keeps.mut h)
/-- one that is new to H may be changed, too -/
theorem Keeps.late (k : Keeps S H H1) (n : H p = none) : Keeps S H (upd H1 p o) := fun b u ns e => by
  rw [upd_ne (ne_of_none e n)]
  exact k b u ns e
/-- .. and may be left out of the list -/
theorem Keeps.drop (k : Keeps (p :: S) H H1) (n : H p = none) : Keeps S H H1 := fun b u ns e => k b u (fun z => by
  rcases List.mem_cons.mp z with z | z
  · rw [z, n] at e; cases e
  · exact ns z) e
end
theorem _root_.L2.SqT.sm {K : PySem.W.Frag} {H H' : Hp} {a : Addr} {xs : List V} (h : SqT K H a xs) (e : Same H H') : SqT K H' a xs := L2.SqT.ext h e
theorem _root_.L2.SqL.sm {K : PySem.W.Frag} {H H' : Hp} {a : Addr} {xs : List V} (h : SqL K H a xs) (e : Same H H') : SqL K H' a xs := L2.SqL.ext h e
mutual
theorem dp_same {K : PySem.W.Frag} {H H' : Hp} (e : Same H H') : ∀ (d : PyData) (v : V), Dp K H v d → Dp K H' v d
  | .none, _, h => by cases h; exact .non
  | .bool _, _, h => by cases h; exact .bl _
  | .int _, _, h => by cases h; exact .int _
  | .str _, _, h => by cases h; exact .str _
  | .list ds, _, h => by
    cases h with
    | lst hs ha => exact .lst (SqL.sm hs e) (dpAll_same e ds _ ha)
  | .tuple ds, _, h => by
    cases h with
    | tup hs ha => exact .tup (SqT.sm hs e) (dpAll_same e ds _ ha)
  | .dict _, _, h => nomatch h
theorem dpAll_same {K : PySem.W.Frag} {H H' : Hp} (e : Same H H') : ∀ (ds : List PyData) (vs : List V), DpAll K H vs ds → DpAll K H' vs ds
  | [], _, h => by cases h; exact .nil
  | d :: ds, _, h => by
    cases h with
    | cons h1 h2 => exact .cons (dp_same e d _ h1) (dpAll_same e ds _ h2)
end
section
variable {K : PySem.W.Frag} {H H' : Hp} {v : V} {vs ws : List V} {d : PyData} {ds es : List PyData} {a : Addr}
theorem _root_.L2.Dp.sm (h : Dp K H v d) (e : Same H H') : Dp K H' v d := dp_same e d v h
theorem _root_.L2.DpAll.sm (h : DpAll K H vs ds) (e : Same H H') : DpAll K H' vs ds := dpAll_same e ds vs h
theorem _root_.L2.DpAll.length : ∀ {vs : List V} {ds : List PyData}, DpAll K H vs ds → vs.length = ds.length
  | _, _, .nil => rfl
  | _, _, .cons _ t => by rw [List.length_cons, List.length_cons, DpAll.length t]
theorem _root_.L2.DpAll.get : ∀ {vs : List V} {ds : List PyData} {i : Nat} {v : V}, DpAll K H vs ds → vs[i]? = some v → ∃ d, ds[i]? = some d ∧ Dp K H v d
  | _, _, _, _, .nil, e => by simp at e
  | _, _, 0, _, .cons r _, e => by simp at e; subst e; exact ⟨_, rfl, r⟩
  | _, _, i + 1, v, .cons _ t, e => by
    obtain ⟨d, h1, h2⟩ := DpAll.get (i := i) (v := v) t (by simpa using e)
    exact ⟨d, by simpa using h1, h2⟩
theorem _root_.L2.DpAll.getd : ∀ {vs : List V} {ds : List PyData} {i : Nat} {d : PyData}, DpAll K H vs ds → ds[i]? = some d → ∃ v, vs[i]? = some v ∧ Dp K H v d
  | _, _, _, _, .nil, e => by simp at e
  | _, _, 0, _, .cons r _, e => by simp at e; subst e; exact ⟨_, rfl, r⟩
  | _, _, i + 1, d, .cons _ t, e => by
    obtain ⟨v, h1, h2⟩ := DpAll.getd (i := i) (d := d) t (by simpa using e)
    exact ⟨v, by simpa using h1, h2⟩
theorem _root_.L2.DpAll.append : ∀ {vs ws : List V} {ds es : List PyData}, DpAll K H vs ds → DpAll K H ws es → DpAll K H (vs ++ ws) (ds ++ es)
  | _, _, _, _, .nil, s => s
  | _, _, _, _, .cons r t, s => .cons r (DpAll.append t s)
theorem _root_.L2.DpAll.snoc (h : DpAll K H vs ds) (k : Dp K H v d) : DpAll K H (vs ++ [v]) (ds ++ [d]) := h.append (.cons k .nil)
theorem _root_.L2.DpAll.take : ∀ {vs : List V} {ds : List PyData} (n : Nat), DpAll K H vs ds → DpAll K H (vs.take n) (ds.take n)
  | _, _, 0, _ => .nil
  | _, _, _ + 1, .nil => .nil
  | _, _, n + 1, .cons r t => .cons r (DpAll.take n t)
theorem _root_.L2.DpAll.drop : ∀ {vs : List V} {ds : List PyData} (n : Nat), DpAll K H vs ds → DpAll K H (vs.drop n) (ds.drop n)
  | _, _, 0, r => r
  | _, _, _ + 1, .nil => .nil
  | _, _, n + 1, .cons _ t => DpAll.drop n t
theorem _root_.L2.DpAll.erase : ∀ {vs : List V} {ds : List PyData} (n : Nat), DpAll K H vs ds → DpAll K H (vs.eraseIdx n) (ds.eraseIdx n)
  | _, _, _, .nil => .nil
  | _, _, 0, .cons _ t => t
  | _, _, n + 1, .cons r t => .cons r (DpAll.erase n t)
theorem _root_.L2.DpAll.dropLast (h : DpAll K H vs ds) : DpAll K H vs.dropLast ds.dropLast := by
  rw [List.dropLast_eq_take, List.dropLast_eq_take, h.length]
  exact h.take _
end

/-! ### ties as data -/
abbrev Tie := TDm.Tie
def tieD (t : Tie) : PyData := .tuple [.int t.1, .int t.2]
def tieV (t : Tie) : List V := [.int t.1, .int t.2]
theorem two_ok : (2 : Nat) ≤ sizeLine := by rw [sizeLine_eq]; decide
section
variable {K : PySem.W.Frag} {H : Hp} {v : V} {t : Tie} {p : Addr}
theorem _root_.L2.Dp.tie (h : Dp K H v (tieD t)) : ∃ p, v = .ref p ∧ SqT K H p (tieV t) := by
  unfold tieD at h
  cases h with
  | tup hs ha =>
    cases ha with
    | cons h1 h2 =>
      cases h2 with
      | cons h3 h4 =>
        cases h4
        cases h1
        cases h3
        exact ⟨_, rfl, hs⟩
theorem _root_.L2.Dp.mkTie (h : SqT K H p (tieV t)) : Dp K H (.ref p) (tieD t) := .tup h (.cons (.int _) (.cons (.int _) .nil))
/-- a new tie -/
theorem dp_newTie {S : List Addr} {x y : Int} (hp : p ∉ S) : Dp K (wo S (upd H p (.tup [.int x, .int y]))) (.ref p) (tieD (x, y)) :=
  Dp.mkTie (SqT.of (by rw [wo_out hp]; exact upd_same))
end

/-! ### the hand: [cells, place, great cell, mixed sum] -/
structure HandId where
  a : Addr
  c : Addr
  ns : List Int
structure Hand (h : HandId) (H : Hp) : Prop where
  nn : ∀ n ∈ h.ns, 0 ≤ n
  len : h.ns.length ≤ 63
  cells : H h.c = some (.lst (h.ns.map V.int))
  at_ : ∃ (i : Nat) (g s : Int), H h.a = some (.lst [.ref h.c, .int (i : Int), .int g, .int s]) ∧ i ≤ h.ns.length ∧ 0 ≤ g
/-- only the hand turned -/
structure Go (h : HandId) (H H' : Hp) : Prop where
  keep : Keeps [h.a] H H'
  hand : Hand h H'
theorem Hand.ne {h : HandId} {H : Hp} (x : Hand h H) : h.c ≠ h.a := by
  obtain ⟨i, g, s, e, _⟩ := x.at_
  refine ne_of x.cells e fun z => ?_
  have z' := HO.lst.inj z
  cases q : h.ns with
  | nil => rw [q] at z'; cases z'
  | cons n r => rw [q] at z'; cases z'
theorem Hand.set {h : HandId} {H H' : Hp} (x : Hand h H) (k : Keeps [h.a] H H') {i : Nat} {g s : Int} (e : H' h.a = some (.lst [.ref h.c, .int (i : Int), .int g, .int s])) (hi : i ≤ h.ns.length) (hg : 0 ≤ g) : Go h H H' :=
  ⟨k, x.nn, x.len, k _ _ (by simpa using x.ne) x.cells, i, g, s, e, hi, hg⟩
theorem Go.refl {h : HandId} {H : Hp} (x : Hand h H) : Go h H H := ⟨Keeps.refl, x⟩
theorem Go.trans {h : HandId} {H H1 H2 : Hp} (x : Go h H H1) (y : Go h H1 H2) : Go h H H2 := ⟨x.keep.trans y.keep, y.hand⟩
/-- what does not touch the hand -/
theorem Hand.keeps {h : HandId} {H H' : Hp} (x : Hand h H) {S : List Addr} (k : Keeps S H H') (na : h.a ∉ S) (nc : h.c ∉ S) : Hand h H' := by
  obtain ⟨i, g, s, e, r⟩ := x.at_
  exact ⟨x.nn, x.len, k _ _ nc x.cells, i, g, s, k _ _ na e, r⟩
theorem Hand.same {h : HandId} {H H' : Hp} (x : Hand h H) (k : Same H H') : Hand h H' := x.keeps (S := []) (Keeps.of k) (by simp) (by simp)
theorem Hand.some {h : HandId} {H : Hp} (x : Hand h H) : ∃ o, H h.a = some o := by
  obtain ⟨i, g, s, e, _⟩ := x.at_
  exact ⟨_, e⟩
theorem Hand.fresh {h : HandId} {H : Hp} (x : Hand h H) {p : Addr} (n : H p = none) : p ≠ h.a ∧ p ≠ h.c := by
  obtain ⟨o, e⟩ := x.some
  exact ⟨fresh_ne n e, fresh_ne n x.cells⟩
/-- a thing that is new is laid -/
theorem Go.new {h : HandId} {H H1 : Hp} (x : Go h H H1) {p : Addr} {o : HO} (n : H1 p = none) : Go h H (upd H1 p o) := ⟨x.keep.new' n, x.hand.same (Keeps.new (S := []) n).same⟩
/-- a list that was made on the way is changed -/
theorem Go.late {h : HandId} {H H1 : Hp} (x : Go h H H1) {p : Addr} {o : HO} (n : H p = none) (na : p ≠ h.a) (nc : p ≠ h.c) : Go h H (upd H1 p o) :=
  ⟨x.keep.late n, x.hand.keeps (S := [p]) (Keeps.mut (by simp)) (by simpa using na.symm) (by simpa using nc.symm)⟩
end L2.TD

/-! the text by places; the drawing of numbers -/
namespace L2.TD
open PySem PySem.Spec PyProof.Rows
def top (i : Nat) : Stmt := PySem.Challenge.pw_treedeals_k00_whole_webs_kept_and_refuse.main.body.getD i (.Pass ⟨0, 0, 0, 0⟩)
abbrev sStir : Stmt := top 18
abbrev sTake : Stmt := top 19
abbrev sWhole : Stmt := top 20
abbrev sSize : Stmt := top 21
abbrev sHand : Stmt := top 17
/-- the built-in names that the text uses are still the built-ins -/
structure Blt (mg : Str → Option Value) : Prop where
  isinstance : mg "isinstance" = none
  int : mg "int" = none
  bool : mg "bool" = none
  list : mg "list" = none
  tuple : mg "tuple" = none
  len : mg "len" = none
  set : mg "set" = none
  sorted : mg "sorted" = none
  range : mg "range" = none
  iter : mg "iter" = none
  abs : mg "abs" = none
  ValueError : mg "ValueError" = none
local macro_rules | `(tactic| walk_at "td_side") => `(tactic| first
  | ((with_reducible show CMul _ _); refine Or.inr ⟨?_, ?_⟩ <;> decide)
  | ((with_reducible show CDiv _ _); refine ⟨?_, ?_⟩ <;> decide)
  | ((with_reducible show CPow _ _); refine ⟨?_, ?_, ?_⟩ <;> decide)
  | (show (0 : Int) < _; first | decide | omega)
  | ((with_reducible show scal _ _ = true); rfl)
  | ((show tyV _ "list" _ _); exact Or.inl ⟨rfl, _, SqL.of (by first | exact upd_same | assumption)⟩))
local macro_rules | `(tactic| walk_at "td") => `(tactic| first
  | (refine ⟨_, _, rfl, rfl, ?_⟩)
  | (refine ⟨_, rfl, ?_⟩)
  | (refine Or.inl ⟨_, rfl, ?_⟩)
  | (refine And.intro ?side ?_; (case side => walk_at "td_side"))
  | (refine ⟨_, _, _, _, rfl, rfl, SqL.of (by first | exact upd_same | assumption), by rfl, ?_⟩)
  | (refine ⟨_, _, _, _, rfl, rfl, (by first | exact upd_same | assumption), by rfl, ?_⟩))
theorem emod64 (a : Int) {b : Int} (h : 0 < b) (h2 : b ≤ 2 ^ 64) : -(2 ^ 64) < a % b ∧ a % b < 2 ^ 64 := by
  have e1 := Int.emod_nonneg a (by omega : b ≠ 0)
  have e2 := Int.emod_lt_of_pos a h
  omega
theorem iteD {p : Prop} [Decidable p] {A B : Prop} (h1 : p → A) (h2 : ¬ p → B) : if decide p = true then A else B := by
  by_cases h : p
  · rw [decide_eq_true h]
    exact iteT (h1 h)
  · rw [decide_eq_false h]
    exact iteF (h2 h)
theorem iteDN {p : Prop} [Decidable p] {A B : Prop} (h1 : ¬ p → A) (h2 : p → B) : if (!decide p) = true then A else B := by
  by_cases h : p
  · rw [decide_eq_true h]
    exact iteF (h2 h)
  · rw [decide_eq_false h]
    exact iteT (h1 h)
section
variable {P : Program} {w : World} {K : PySem.W.Frag} {mg : Str → Option Value} {base : Heap} {f : Addr} {fd : FuncData}
/-- _law_stir: some number -/
def spStir : Sp := fun vs H Q _ => ∃ x y : Int, vs = [.int x, .int y] ∧ ∀ r : Int, Q (.int r) H
theorem scStir : FnScope ["_law_number", "_law_turn", "_law_once", "_law_twice"] ["_law_number", "_law_turn"] (C8.fnScope sStir) := C8.fnScope_by (by decide +kernel)
theorem ok_stir (B : Blt mg) (F : C8.Def K mg "_law_stir" sStir f fd) (b : Binds K fd ["_law_number", "_law_turn"] []) : C8.Cal P w K mg base 1 "_law_stir" spStir [] := by
  refine C8.cal0 F b .nil scStir (fun vs H Q E h => ?_) (fun cdv A outer s H vs Q E hr h => ?_)
  · obtain ⟨x, y, rfl, _⟩ := h
    rfl
  · obtain ⟨x, y, rfl, k⟩ := h
    have nd := scStir.nd
    refine ⟨_, pss_cons (ps_set (i := 2) nd rfl (.inl rfl) (pe_op op_mod (pe_callTy call_int1 (by rfl) B.int (by decide +kernel) (pa_cons (pe_op op_add (pe_op op_add (pe_op op_mul (pv 0) pe_int) (pe_op op_mul (pv 1) pe_int)) pe_int) pa_nil)) pe_int))
      (pss_cons (ps_set (i := 3) nd rfl (.inl rfl) (pe_op op_mod (pe_callTy call_int1 (by rfl) B.int (by decide +kernel) (pa_cons (pe_op op_add (pe_op op_add (pe_op op_mul (pv 2) (pv 2)) (pe_op op_mul (pv 1) pe_int)) (pe_op op_fdiv (pv 2) pe_int)) pa_nil)) pe_int))
      (pss_one (ps_ret (pe_op op_fdiv (pe_callTy call_int1 (by rfl) B.int (by decide +kernel) (pa_cons (pe_op op_mod (pe_callTy call_int1 (by rfl) B.int (by decide +kernel) (pa_cons (pe_op op_add (pe_op op_mul (pv 3) pe_int) (pe_op op_fdiv (pv 2) pe_int)) pa_nil)) pe_int) pa_nil)) pe_int)))), ?_⟩
    repeat walk_at "td"
    refine ⟨.inl (emod64 _ (by decide) (by decide)), ?_⟩
    repeat walk_at "td"
    exact k _
/-- _law_take: a number from 0 below many; the hand turns -/
def spTake : Sp := fun vs H Q _ => ∃ (h : HandId) (many : Int), vs = [.ref h.a, .int many] ∧ 1 ≤ many ∧ many < 1000000 ∧ Hand h H ∧ ∀ (r : Int) (H' : Hp), 0 ≤ r → r < many → Go h H H' → Q (.int r) H'
theorem scTake : FnScope ["_law_hand_here", "_law_many", "_law_cell", "_law_rest"] ["_law_hand_here", "_law_many"] (C8.fnScope sTake) := C8.fnScope_by (by decide +kernel)
theorem ok_take (B : Blt mg) (F : C8.Def K mg "_law_take" sTake f fd) (b : Binds K fd ["_law_hand_here", "_law_many"] []) (cS : C8.Cal P w K mg base 1 "_law_stir" spStir []) : C8.Cal P w K mg base 2 "_law_take" spTake [] := by
  refine C8.cal0 F b .nil scTake (fun vs H Q E h => ?_) (fun cdv A outer s H vs Q E hr h => ?_)
  · obtain ⟨h, many, rfl, _⟩ := h
    rfl
  · obtain ⟨h, many, rfl, m1, m2, hh, k⟩ := h
    have nd := scTake.nd
    obtain ⟨nn, len, cells, i, g, z, at_, i1, g0⟩ := id hh
    have cne := hh.ne
    refine ⟨_, C8.pss_cut (ps_if (PW.pt (pw_and (pt_cmpR op_eq (pe_ix ix_list (pv 0) pe_int (fun _ _ => rfl)) pe_int (nomark _))
          (pw_and1 (pt_cmpR op_lt (pe_ix ix_list (pv 0) pe_int (fun _ _ => rfl)) (pe_callB call_len_seq (by rfl) B.len PySem.boot_len (pa_cons (pe_ix ix_list (pv 0) pe_int (fun _ _ => rfl)) pa_nil)) (nomark _)))))
        (pss_cons (ps_set (i := 2) nd rfl (.inl rfl) (pe_ix ix_list (pe_ix ix_list (pv 0) pe_int (fun _ _ => rfl)) (pe_ix ix_list (pv 0) pe_int (fun _ _ => rfl)) (fun _ _ => rfl)))
        (pss_cons (ps_asg (pe_op op_add (pe_ix ix_list (pv 0) pe_int (fun _ _ => rfl)) pe_int) (pg_sub (pv 0) pe_int set_list))
        (pss_cons (ps_if (pt_cmpR op_lt (pv 2) (pe_op op_pow pe_int pe_int) (nomark _))
          (pss_one (ps_ret (pe_op op_mod (pe_callTy call_int1 (by rfl) B.int (by decide +kernel) (pa_cons (C8.pe_c cS hr (by decide) (by rfl) (pa_cons (pe_op op_mod (pe_callTy call_int1 (by rfl) B.int (by decide +kernel) (pa_cons (pv 2) pa_nil)) pe_int) (pa_cons (pe_ix ix_list (pv 0) pe_int (fun _ _ => rfl)) pa_nil))) pa_nil)) (pv 1))))
          pss_nil)
        (pss_one (ps_asg (pv 2) (pg_sub (pv 0) pe_int set_list))))))
        pss_nil)
      (pss_cons (ps_if (pt_cmpR op_gt (pe_ix ix_list (pv 0) pe_int (fun _ _ => rfl)) pe_int (nomark _))
        (pss_cons (ps_set (i := 3) nd rfl (.inl rfl) (pe_ix ix_list (pv 0) pe_int (fun _ _ => rfl)))
        (pss_cons (ps_asg (pe_op op_fdiv (pe_callTy call_int1 (by rfl) B.int (by decide +kernel) (pa_cons (pv 3) pa_nil)) (pv 1)) (pg_sub (pv 0) pe_int set_list))
        (pss_one (ps_ret (pe_op op_mod (pe_callTy call_int1 (by rfl) B.int (by decide +kernel) (pa_cons (pv 3) pa_nil)) (pv 1))))))
        pss_nil)
      (pss_cons (ps_asg (pe_op op_mod (pe_callTy call_int1 (by rfl) B.int (by decide +kernel) (pa_cons (pe_op op_add (pe_ix ix_list (pv 0) pe_int (fun _ _ => rfl)) pe_int) pa_nil)) pe_int) (pg_sub (pv 0) pe_int set_list))
      (pss_one (ps_ret (pe_op op_mod (pe_callTy call_int1 (by rfl) B.int (by decide +kernel) (pa_cons (C8.pe_c cS hr (by decide) (by rfl) (pa_cons (pe_ix ix_list (pv 0) pe_int (fun _ _ => rfl)) (pa_cons (pe_ix ix_list (pv 0) pe_int (fun _ _ => rfl)) pa_nil))) pa_nil)) (pv 1)))))), ?_⟩
    have inR : ∀ (x : Int), 0 ≤ x % many ∧ x % many < many := fun x => ⟨Int.emod_nonneg _ (by omega), Int.emod_lt_of_pos _ (by omega)⟩
    refine ⟨fun σ' H' => (∃ x2, σ' = [some (.ref h.a), some (.int many), x2, none]) ∧ Go h H H', ?_, ?_⟩
    · repeat walk_at "td"
      refine iteD (fun c => ?_) (fun c => ?_)
      · repeat walk_at "td"
        refine ⟨_, _, rfl, .inl (SqL.of cells), ?_⟩
        repeat walk_at "td"
        refine iteD (fun c1 => ?_) (fun c1 => ?_)
        · have hi : i < h.ns.length := by rw [List.length_map] at c1; omega
          repeat walk_at "td"
          refine ⟨_, _, _, V.int h.ns[i], rfl, rfl, SqL.of cells, atI_nat (by rw [List.getElem?_map, List.getElem?_eq_getElem hi]; rfl), ?_⟩
          have hn : 0 ≤ h.ns[i] := nn _ (List.getElem_mem hi)
          repeat walk_at "td"
          refine iteD (fun c2 => ?_) (fun c2 => ?_)
          · repeat walk_at "td"
            refine ⟨_, _, rfl, fun r => ?_⟩
            repeat walk_at "td"
            refine k _ _ (inR _).1 (inR _).2 (hh.set (Keeps.mut (by simp)) (i := i + 1) (g := g) (s := z) ?_ hi g0)
            exact upd_same
          · repeat walk_at "td"
            refine ⟨⟨_, rfl⟩, hh.set ((Keeps.mut (by simp)).mut' (by simp)) (i := i + 1) (g := h.ns[i]) (s := z) ?_ hi hn⟩
            exact upd_same
        · exact ⟨⟨_, rfl⟩, .refl hh⟩
      · exact ⟨⟨_, rfl⟩, .refl hh⟩
    · rintro σ' H' ⟨⟨x2, rfl⟩, go⟩
      obtain ⟨_, _, cells, i, g, z, at_, i1, g0⟩ := id go.hand
      repeat walk_at "td"
      refine iteD (fun c => ?_) (fun c => ?_)
      · repeat walk_at "td"
        refine ⟨⟨by show (0 : Int) < many; omega, by show many < 1073741824; omega⟩, ?_⟩
        repeat walk_at "td"
        refine k _ _ (inR _).1 (inR _).2 ⟨go.keep.mut' (by simp), (go.hand.set (Keeps.mut (by simp)) (i := i) (g := g / many) (s := z) upd_same i1 (Int.ediv_nonneg g0 (by omega))).hand⟩
      · repeat walk_at "td"
        refine ⟨_, _, rfl, fun r => ?_⟩
        repeat walk_at "td"
        refine k _ _ (inR _).1 (inR _).2 ⟨go.keep.mut' (by simp), (go.hand.set (Keeps.mut (by simp)) (i := i) (g := g) (s := (z + 1) % 2147483629) upd_same i1 g0).hand⟩
/-- _law_size: 1 to most -/
def spSize : Sp := fun vs H Q _ => ∃ (h : HandId) (most : Int), vs = [.ref h.a, .int most] ∧ 1 ≤ most ∧ most < 1000 ∧ Hand h H ∧ ∀ (r : Int) (H' : Hp), 1 ≤ r → r ≤ most → Go h H H' → Q (.int r) H'
theorem scSize : FnScope ["_law_hand_here", "_law_most", "_law_pick"] ["_law_hand_here", "_law_most"] (C8.fnScope sSize) := C8.fnScope_by (by decide +kernel)
theorem ok_size (F : C8.Def K mg "_law_size" sSize f fd) (b : Binds K fd ["_law_hand_here", "_law_most"] []) (cT : C8.Cal P w K mg base 2 "_law_take" spTake []) : C8.Cal P w K mg base 3 "_law_size" spSize [] := by
  refine C8.cal0 F b .nil scSize (fun vs H Q E h => ?_) (fun cdv A outer s H vs Q E hr h => ?_)
  · obtain ⟨h, most, rfl, _⟩ := h
    rfl
  · obtain ⟨h, most, rfl, m1, m2, hh, k⟩ := h
    have nd := scSize.nd
    refine ⟨_, pss_cons (ps_set (i := 2) nd rfl (.inl rfl) (C8.pe_c cT hr (by decide) (by rfl) (pa_cons (pv 0) (pa_cons (pe_op op_sub (pe_op op_mul pe_int (pv 1)) pe_int) pa_nil))))
      (pss_one (ps_ret (pe_ifExp (pt_cmpR op_eq (pv 2) pe_int (nomark _)) pe_int (pe_op op_add pe_int (pe_op op_fdiv (pe_op op_sub (pv 2) pe_int) pe_int))))), ?_⟩
    repeat walk_at "td"
    refine ⟨.inl ⟨by decide, by decide⟩, ?_⟩
    repeat walk_at "td"
    refine ⟨h, _, rfl, by omega, by omega, hh, fun r H' r0 r1 go => ?_⟩
    repeat walk_at "td"
    refine iteD (fun c => ?_) (fun c => ?_)
    · exact k _ _ (by decide) m1 go
    · repeat walk_at "td"
      have c' : r ≠ 0 := fun e => c (by rw [e])
      exact k _ _ (by omega) (by omega) go
/-- _law_hand: a new hand -/
def spHand (K : PySem.W.Frag) : Sp := fun vs H Q _ => ∃ (a : Addr) (ns : List Int), vs = [.ref a] ∧ SqL K H a (ns.map V.int) ∧ ns.length ≤ 63 ∧
  ∀ (h : HandId) (H' : Hp), Same H H' → Hand h H' → H h.a = none → H h.c = none → Q (.ref h.a) H'
theorem scHand : FnScope ["_law_script", "_law_seed", "_law_cells", "_law_cell"] ["_law_script"] (C8.fnScope sHand) := C8.fnScope_by (by decide +kernel)
theorem ok_hand (B : Blt mg) (F : C8.Def K mg "_law_hand" sHand f fd) (b : Binds K fd ["_law_script"] []) : C8.Cal P w K mg base 1 "_law_hand" (spHand K) [] := by
  refine C8.cal0 F b .nil scHand (fun vs H Q E h => ?_) (fun cdv A outer s H vs Q E hr h => ?_)
  · obtain ⟨a, ns, rfl, _⟩ := h
    rfl
  · obtain ⟨a, ns, rfl, hs, hl, k⟩ := h
    have nd := scHand.nd
    refine ⟨_, pss_cons (ps_set (i := 1) nd rfl (.inl rfl) (pe_op op_add pe_int (pe_callB call_len_seq (by rfl) B.len PySem.boot_len (pa_cons (pv 0) pa_nil))))
      (pss_cons (ps_set (i := 2) nd rfl (.inl rfl) (pe_lst pa_nil))
      (pss_cons (ps_for PassesOwn.never rfl (pi_list (pv 0)) (pg_name (i := 3) nd rfl (.inl rfl))
        (pss_cons (ps_expr (pe_bm PySem.F.plainAttrs_list PySem.F.slot_list_append PySem.F.type_list_append mt_append (pv 2) (pa_cons (pe_callB call_abs (by rfl) B.abs (by decide +kernel) (pa_cons (pe_callTy call_int1 (by rfl) B.int (by decide +kernel) (pa_cons (pv 3) pa_nil)) pa_nil)) pa_nil)))
        (pss_one (ps_set (i := 1) nd rfl (.inl rfl) (pe_op op_mod (pe_callTy call_int1 (by rfl) B.int (by decide +kernel) (pa_cons (pe_op op_add (pe_op op_mul (pv 1) pe_int) (pe_callB call_abs (by rfl) B.abs (by decide +kernel) (pa_cons (pe_callTy call_int1 (by rfl) B.int (by decide +kernel) (pa_cons (pv 3) pa_nil)) pa_nil))) pa_nil)) pe_int)))))
      (pss_one (ps_ret (pe_lst (pa_cons (pv 2) (pa_cons pe_int (pa_cons pe_int (pa_cons (pv 1) pa_nil))))))))), ?_⟩
    repeat walk_at "td"
    refine ⟨_, _, rfl, .inl hs, ?_⟩
    repeat walk_at "td"
    refine ⟨Nat.zero_le _, fun p np => ?_⟩
    repeat walk_at "td"
    refine ⟨⟨_, hs.sm (Keeps.new (S := []) np).same⟩, ?_⟩
    refine for_list (K := K) (a := a) (xs := ns.map V.int) (fun i σ H' => ∃ (sd : Int) (ms : List Int) (v : Option V), σ = [some (.ref a), some (.int sd), some (.ref p), v] ∧ Same H H' ∧ H' p = some (.lst (ms.map V.int)) ∧ ms.length = i ∧ (∀ n ∈ ms, 0 ≤ n))
      ⟨_, [], none, rfl, (Keeps.new (S := []) np).same, upd_same, rfl, fun n hn => by cases hn⟩ (fun i σ H' _ ⟨_, _, _, _, sm, _⟩ => hs.sm sm) ?_ ?_
    · rintro i x σ H' hx ⟨sd, ms, v, rfl, sm, hp, hm, nn⟩
      have hi : i < ns.length := by
        have q := (List.getElem?_eq_some_iff.mp hx).1
        rw [List.length_map] at q
        exact q
      obtain ⟨u, rfl⟩ : ∃ u, x = V.int u := by
        rw [List.getElem?_map, List.getElem?_eq_getElem hi] at hx
        exact ⟨_, (Option.some.inj hx).symm⟩
      repeat walk_at "td"
      refine ⟨_, _, _, rfl, rfl, hp, by rw [List.length_map, hm]; exact Nat.lt_of_lt_of_le hi (Nat.le_trans hl (by rw [sizeLine_eq]; decide)), ?_⟩
      repeat walk_at "td"
      refine ⟨_, ms ++ [if u < 0 then -u else u], _, rfl, ((Keeps.of (S := []) sm).late np).same, ?_, by rw [List.length_append, hm]; rfl, fun n hn => ?_⟩
      · rw [upd_same, List.map_append]
        rfl
      · rcases List.mem_append.mp hn with h | h
        · exact nn n h
        · have e : n = if u < 0 then -u else u := by simpa using h
          rw [e]
          split <;> omega
    · rintro σ H' ⟨sd, ms, v, rfl, sm, hp, hm, nn⟩
      repeat walk_at "td"
      refine ⟨by show 4 ≤ sizeLine; rw [sizeLine_eq]; decide, fun q nq => ?_⟩
      refine k ⟨q, p, ms⟩ _ ?_ ⟨nn, ?_, ?_, 0, 0, sd, upd_same, Nat.zero_le _, Int.le_refl _⟩ ((Keeps.of (S := []) sm).free nq (by simp)) np
      · exact ((Keeps.of (S := []) sm).new' nq).same
      · show ms.length ≤ 63
        rw [hm, List.length_map]
        exact hl
      · exact (upd_ne (ne_of_none hp nq)).trans hp
/-- _law_whole -/
def wholeV : V → Bool
  | .int _ => true
  | _ => false
end
end L2.TD

/-! whole numbers, sequences, couples; the errors -/
namespace L2.TD
open PySem PySem.Spec PyProof.Rows
local macro_rules | `(tactic| walk_at "td_side") => `(tactic| first
  | ((with_reducible show CMul _ _); refine Or.inr ⟨?_, ?_⟩ <;> decide)
  | ((with_reducible show CDiv _ _); refine ⟨?_, ?_⟩ <;> decide)
  | ((with_reducible show CPow _ _); refine ⟨?_, ?_, ?_⟩ <;> decide)
  | (show (0 : Int) < _; first | decide | omega)
  | ((with_reducible show scal _ _ = true); rfl)
  | ((show tyV _ "list" _ _); exact Or.inl ⟨rfl, _, SqL.of (by first | exact upd_same | assumption)⟩))
local macro_rules | `(tactic| walk_at "td") => `(tactic| first
  | (refine ⟨_, _, rfl, rfl, ?_⟩)
  | (refine ⟨_, rfl, ?_⟩)
  | (refine Or.inl ⟨_, rfl, ?_⟩)
  | (refine And.intro ?side ?_; (case side => walk_at "td_side"))
  | (refine ⟨_, _, _, _, rfl, rfl, SqL.of (by first | exact upd_same | assumption), by rfl, ?_⟩)
  | (refine ⟨_, _, _, _, rfl, rfl, (by first | exact upd_same | assumption), by rfl, ?_⟩))
theorem ifT {c : Bool} {A B : Prop} (hc : c = true) (h : A) : if c = true then A else B := by
  rw [if_pos hc]
  exact h
theorem ifF {c : Bool} {A B : Prop} (hc : c = false) (h : B) : if c = true then A else B := by
  rw [hc, if_neg Bool.false_ne_true]
  exact h
abbrev sIsWhole : Stmt := top 6
abbrev sIsSeq : Stmt := top 7
abbrev sIsCouple : Stmt := top 8
def tyN : PyData → String
  | .none => "NoneType"
  | .bool _ => "bool"
  | .int _ => "int"
  | .str _ => "str"
  | .list _ => "list"
  | .tuple _ => "tuple"
  | .dict _ => "dict"
theorem dp_ty {K : PySem.W.Frag} {H : Hp} {v : V} {d : PyData} (h : Dp K H v d) : TyX K H v (.type (tyN d)) := by
  cases h with
  | non => exact .base .non
  | bl b => exact .base (.bl b)
  | int i => exact .base (.int i)
  | str x => exact .base (.str x)
  | lst hs _ =>
    rcases hs with (h | ⟨o, h⟩) | ⟨o, its, n, h1, h2, _⟩
    · exact .base (.lst h)
    · exact .base (.frz h)
    · exact .kList h1 h2
  | tup hs _ =>
    rcases hs with (h | ⟨o, h⟩) | ⟨o, its, n, h1, h2, _⟩
    · exact .base (.tup h)
    · exact .fTuple h
    · exact .kTuple h1 h2
def isI : PyData → Bool
  | .int _ => true
  | .bool _ => true
  | _ => false
def isB : PyData → Bool
  | .bool _ => true
  | _ => false
def isLT : PyData → Bool
  | .list _ => true
  | .tuple _ => true
  | _ => false
def isLs : PyData → Bool
  | .list _ => true
  | _ => false
def isTp : PyData → Bool
  | .tuple _ => true
  | _ => false
section
variable {K : PySem.W.Frag}
theorem kit_int (d : PyData) : PySem.W.kitOne K (.type (tyN d)) (.type "int") = some (isI d) := by
  cases d with
  | none => exact kit_ty (a := "NoneType") (b := "int") (r := false) (by decide +kernel)
  | bool b => exact kit_ty (a := "bool") (b := "int") (r := true) (by decide +kernel)
  | int i => exact kit_ty (a := "int") (b := "int") (r := true) (by decide +kernel)
  | str x => exact kit_ty (a := "str") (b := "int") (r := false) (by decide +kernel)
  | list xs => exact kit_ty (a := "list") (b := "int") (r := false) (by decide +kernel)
  | tuple xs => exact kit_ty (a := "tuple") (b := "int") (r := false) (by decide +kernel)
  | dict k => exact kit_ty (a := "dict") (b := "int") (r := false) (by decide +kernel)
theorem kit_bool (d : PyData) : PySem.W.kitOne K (.type (tyN d)) (.type "bool") = some (isB d) := by
  cases d with
  | none => exact kit_ty (a := "NoneType") (b := "bool") (r := false) (by decide +kernel)
  | bool b => exact kit_ty (a := "bool") (b := "bool") (r := true) (by decide +kernel)
  | int i => exact kit_ty (a := "int") (b := "bool") (r := false) (by decide +kernel)
  | str x => exact kit_ty (a := "str") (b := "bool") (r := false) (by decide +kernel)
  | list xs => exact kit_ty (a := "list") (b := "bool") (r := false) (by decide +kernel)
  | tuple xs => exact kit_ty (a := "tuple") (b := "bool") (r := false) (by decide +kernel)
  | dict k => exact kit_ty (a := "dict") (b := "bool") (r := false) (by decide +kernel)
theorem kit_list (d : PyData) : PySem.W.kitOne K (.type (tyN d)) (.type "list") = some (isLs d) := by
  cases d with
  | none => exact kit_ty (a := "NoneType") (b := "list") (r := false) (by decide +kernel)
  | bool b => exact kit_ty (a := "bool") (b := "list") (r := false) (by decide +kernel)
  | int i => exact kit_ty (a := "int") (b := "list") (r := false) (by decide +kernel)
  | str x => exact kit_ty (a := "str") (b := "list") (r := false) (by decide +kernel)
  | list xs => exact kit_ty (a := "list") (b := "list") (r := true) (by decide +kernel)
  | tuple xs => exact kit_ty (a := "tuple") (b := "list") (r := false) (by decide +kernel)
  | dict k => exact kit_ty (a := "dict") (b := "list") (r := false) (by decide +kernel)
theorem kit_tuple (d : PyData) : PySem.W.kitOne K (.type (tyN d)) (.type "tuple") = some (isTp d) := by
  cases d with
  | none => exact kit_ty (a := "NoneType") (b := "tuple") (r := false) (by decide +kernel)
  | bool b => exact kit_ty (a := "bool") (b := "tuple") (r := false) (by decide +kernel)
  | int i => exact kit_ty (a := "int") (b := "tuple") (r := false) (by decide +kernel)
  | str x => exact kit_ty (a := "str") (b := "tuple") (r := false) (by decide +kernel)
  | list xs => exact kit_ty (a := "list") (b := "tuple") (r := false) (by decide +kernel)
  | tuple xs => exact kit_ty (a := "tuple") (b := "tuple") (r := true) (by decide +kernel)
  | dict k => exact kit_ty (a := "dict") (b := "tuple") (r := false) (by decide +kernel)
theorem kit_lt (d : PyData) : PySem.W.kitAny K (.type (tyN d)) [.type "list", .type "tuple"] = some (isLT d) := by
  refine kitAny_cons (kit_list d) (fun e => kitAny_cons (kit_tuple d) (fun e2 => ?_) (fun e2 => ?_)) (fun e => ?_)
  · rw [kitAny_nil]
    cases d <;> first | rfl | exact Bool.noConfusion e | exact Bool.noConfusion e2
  · cases d <;> first | rfl | exact Bool.noConfusion e2
  · cases d <;> first | rfl | exact Bool.noConfusion e
end
/-- a whole number from lo to hi -/
def wholeIn (lo hi : Int) : PyData → Bool
  | .int i => decide (lo ≤ i) && decide (i ≤ hi)
  | _ => false
section
variable {P : Program} {w : World} {K : PySem.W.Frag} {mg : Str → Option Value} {base : Heap} {f : Addr} {fd : FuncData}
def spIsWhole (K : PySem.W.Frag) : Sp := fun vs H Q _ => ∃ (v : V) (d : PyData) (lo hi : Int), vs = [v, .int lo, .int hi] ∧ Dp K H v d ∧ Q (.bl (wholeIn lo hi d)) H
theorem scIsWhole : FnScope ["thing", "low", "high"] ["thing", "low", "high"] (C8.fnScope sIsWhole) := C8.fnScope_by (by decide +kernel)
theorem ok_isWhole (B : Blt mg) (F : C8.Def K mg "is_whole" sIsWhole f fd) (b : Binds K fd ["thing", "low", "high"] []) : C8.Cal P w K mg base 1 "is_whole" (spIsWhole K) [] := by
  refine C8.cal0 F b .nil scIsWhole (fun vs H Q E h => ?_) (fun cdv A outer s H vs Q E hr h => ?_)
  · obtain ⟨v, d, lo, hi, rfl, _⟩ := h
    rfl
  · obtain ⟨v, d, lo, hi, rfl, hd, k⟩ := h
    have nd := scIsWhole.nd
    refine ⟨_, pss_cons (ps_if (PW.pt (pw_or (pt_not (pt_val (pe_callB call_isi (by rfl) B.isinstance (by decide +kernel) (pa_cons (pv 0) (pa_cons (pe_bltn (v := .ty "int") (by rfl) B.int (by decide +kernel) rfl) pa_nil)))))
        (pw_or1 (pt_val (pe_callB call_isi (by rfl) B.isinstance (by decide +kernel) (pa_cons (pv 0) (pa_cons (pe_bltn (v := .ty "bool") (by rfl) B.bool (by decide +kernel) rfl) pa_nil)))))))
        (pss_one (ps_ret pe_bl)) pss_nil)
      (pss_cons (ps_if (PW.pt (pw_and (pt_cmp (pc_notN (pv 1))) (pw_and1 (pt_cmpR op_lt (pv 0) (pv 1) (nomark _))))) (pss_one (ps_ret pe_bl)) pss_nil)
      (pss_one (ps_ret (pe_or (pe_cmp (pc_isN (pv 2))) (pe_one (pe_cmpR op_le (pv 0) (pv 2) (nomark _))))))), ?_⟩
    repeat walk_at "td"
    refine ⟨_, _, _, _, _, rfl, .ty _, dp_ty hd, kit_int d, ?_⟩
    repeat walk_at "td"
    cases ei : isI d with
    | false =>
      have e : wholeIn lo hi d = false := by cases d <;> first | rfl | exact Bool.noConfusion ei
      rw [e] at k
      exact iteT (iteT k)
    | true =>
      refine iteF ?_
      repeat walk_at "td"
      refine ⟨_, _, _, _, _, rfl, .ty _, dp_ty hd, kit_bool d, ?_⟩
      repeat walk_at "td"
      cases eb : isB d with
      | true =>
        have e : wholeIn lo hi d = false := by cases d <;> first | rfl | exact Bool.noConfusion eb
        rw [e] at k
        exact iteT k
      | false =>
        refine iteF ?_
        obtain ⟨i, rfl⟩ : ∃ i, d = .int i := by cases d <;> first | exact ⟨_, rfl⟩ | exact Bool.noConfusion ei | exact Bool.noConfusion eb
        cases hd
        repeat walk_at "td"
        refine iteD (fun c => ?_) (fun c => ?_)
        · have e : wholeIn lo hi (.int i) = false := by
            show (decide (lo ≤ i) && decide (i ≤ hi)) = false
            rw [decide_eq_false (by omega)]
            rfl
          rw [e] at k
          exact k
        · have e : wholeIn lo hi (.int i) = decide (i ≤ hi) := by
            show (decide (lo ≤ i) && decide (i ≤ hi)) = _
            rw [decide_eq_true (by omega)]
            rfl
          rw [e] at k
          repeat walk_at "td"
          exact k
/-- is_sequence: of a value whose type is known -/
def spIsSeq (K : PySem.W.Frag) : Sp := fun vs H Q _ => ∃ (v : V) (t : Value) (b : Bool), vs = [v] ∧ TyX K H v t ∧ PySem.W.kitAny K t [.type "list", .type "tuple"] = some b ∧ ∀ H', Same H H' → Q (.bl b) H'
theorem tyX_same {K : PySem.W.Frag} {H H' : Hp} {v : V} {t : Value} (h : TyX K H v t) (e : Same H H') : TyX K H' v t := by
  cases h with
  | base b =>
    refine .base ?_
    cases b with
    | non => exact .non
    | bl y => exact .bl y
    | int i => exact .int i
    | str y => exact .str y
    | flt y => exact .flt y
    | lst h => exact .lst (e _ _ h)
    | frz h => exact .frz (e _ _ h)
    | tup h => exact .tup (e _ _ h)
    | dK h => exact .dK (e _ _ h)
    | dT h => exact .dT (e _ _ h)
    | ins h cl ha hn htk hm => exact .ins (e _ _ h) cl ha hn htk hm
  | byt y => exact .byt y
  | set h => exact .set (e _ _ h)
  | kList h c => exact .kList h c
  | kTuple h c => exact .kTuple h c
  | kDict h c => exact .kDict h c
  | fTuple h => exact .fTuple (e _ _ h)
  | fDict h => exact .fDict (e _ _ h)
theorem scIsSeq : FnScope ["thing"] ["thing"] (C8.fnScope sIsSeq) := C8.fnScope_by (by decide +kernel)
theorem ok_isSeq (B : Blt mg) (F : C8.Def K mg "is_sequence" sIsSeq f fd) (b : Binds K fd ["thing"] []) : C8.Cal P w K mg base 1 "is_sequence" (spIsSeq K) [] := by
  refine C8.cal0 F b .nil scIsSeq (fun vs H Q E h => ?_) (fun cdv A outer s H vs Q E hr h => ?_)
  · obtain ⟨v, t, b, rfl, _⟩ := h
    rfl
  · obtain ⟨v, t, b, rfl, ht, hk, k⟩ := h
    have nd := scIsSeq.nd
    refine ⟨_, pss_one (ps_ret (pe_callB call_isiT (by rfl) B.isinstance (by decide +kernel) (pa_cons (pv 0) (pa_cons (pe_tup (pa_cons (pe_bltn (v := .ty "list") (by rfl) B.list (by decide +kernel) rfl) (pa_cons (pe_bltn (v := .ty "tuple") (by rfl) B.tuple (by decide +kernel) rfl) pa_nil))) pa_nil)))), ?_⟩
    repeat walk_at "td"
    refine ⟨two_ok, fun p np => ?_⟩
    have sm : Same H (upd H p (.tup [.ty "list", .ty "tuple"])) := (Keeps.new (S := []) np).same
    exact ⟨_, _, _, _, _, _, rfl, upd_same, .cons (.ty _) (.cons (.ty _) .nil), tyX_same ht sm, hk, k _ sm⟩
/-- is_couple -/
def isPair : PyData → Bool
  | .list [_, _] => true
  | .tuple [_, _] => true
  | _ => false
def spIsCouple (K : PySem.W.Frag) : Sp := fun vs H Q _ => ∃ (v : V) (d : PyData), vs = [v] ∧ Dp K H v d ∧ ∀ H', Same H H' → Q (.bl (isPair d)) H'
theorem scIsCouple : FnScope ["thing"] ["thing"] (C8.fnScope sIsCouple) := C8.fnScope_by (by decide +kernel)
theorem isPair_len {ds : List PyData} : isPair (.list ds) = decide (V.int (ds.length : Int) = V.int 2) ∧ isPair (.tuple ds) = decide (V.int (ds.length : Int) = V.int 2) := by
  match ds with
  | [] => exact ⟨rfl, rfl⟩
  | [_] => exact ⟨rfl, rfl⟩
  | [_, _] => exact ⟨rfl, rfl⟩
  | _ :: _ :: _ :: r =>
    have e : decide (V.int (((r.length + 1 + 1 + 1 : Nat)) : Int) = V.int 2) = false := decide_eq_false fun z => by
      have z' := V.int.inj z
      omega
    exact ⟨e.symm, e.symm⟩
theorem ok_isCouple (B : Blt mg) (F : C8.Def K mg "is_couple" sIsCouple f fd) (b : Binds K fd ["thing"] []) (cS : C8.Cal P w K mg base 1 "is_sequence" (spIsSeq K) []) : C8.Cal P w K mg base 2 "is_couple" (spIsCouple K) [] := by
  refine C8.cal0 F b .nil scIsCouple (fun vs H Q E h => ?_) (fun cdv A outer s H vs Q E hr h => ?_)
  · obtain ⟨v, d, rfl, _⟩ := h
    rfl
  · obtain ⟨v, d, rfl, hd, k⟩ := h
    have nd := scIsCouple.nd
    refine ⟨_, pss_one (ps_ret (pe_and (C8.pe_c cS hr (by decide) (by rfl) (pa_cons (pv 0) pa_nil)) (pe_one (pe_cmpR op_eq (pe_callB call_len_seq (by rfl) B.len PySem.boot_len (pa_cons (pv 0) pa_nil)) pe_int (nomark _))))), ?_⟩
    repeat walk_at "td"
    refine ⟨_, _, _, rfl, dp_ty hd, kit_lt d, fun H1 sm => ?_⟩
    repeat walk_at "td"
    have k1 := k H1 sm
    have hd1 := hd.sm sm
    cases d with
    | list ds =>
      refine iteT ?_
      cases hd1 with
      | lst hs ha =>
        repeat walk_at "td"
        refine ⟨_, _, rfl, .inl hs, ?_⟩
        repeat walk_at "td"
        rw [isPair_len.1, ← DpAll.length ha] at k1
        exact k1
    | tuple ds =>
      refine iteT ?_
      cases hd1 with
      | tup hs ha =>
        repeat walk_at "td"
        refine ⟨_, _, rfl, .inr hs, ?_⟩
        repeat walk_at "td"
        rw [isPair_len.2, ← DpAll.length ha] at k1
        exact k1
    | none => exact iteF k1
    | bool _ => exact iteF k1
    | int _ => exact iteF k1
    | str _ => exact iteF k1
    | dict _ => exact iteF k1
end

/-! ### the errors -/
abbrev sBW : Stmt := inClass (top 2) 0
abbrev sBT : Stmt := inClass (top 3) 0
abbrev sBC : Stmt := inClass (top 4) 0
section
variable {P : Program} {w : World} {K : PySem.W.Frag} {mg : Str → Option Value} {base : Heap} {f : Addr} {fd : FuncData}
/-- an error's __init__ with one field, what -/
def spExW (K : PySem.W.Frag) : Sp := fun vs H Q _ => ∃ (a C : Addr) (x : Str), vs = [.ref a, .str x] ∧ OexC K C ∧ PySem.W.findIn K (.ref C) "what" = some none ∧ H a = some (exo a C none) ∧
  ∀ dx, H dx = none → dx ≠ a → Q .non (upd (upd H dx (exd dx [("what", .str x)])) a (exo a C (some dx)))
/-- .. with none -/
def spEx0 (K : PySem.W.Frag) : Sp := fun vs H Q _ => ∃ (a C : Addr), vs = [.ref a] ∧ OexC K C ∧ H a = some (exo a C none) ∧ Q .non H
theorem scBW : FnScope ["self", "what"] ["self", "what"] (C8.fnScope sBW) := C8.fnScope_by (by decide +kernel)
theorem scBT : FnScope ["self"] ["self"] (C8.fnScope sBT) := C8.fnScope_by (by decide +kernel)
theorem scBC : FnScope ["self"] ["self"] (C8.fnScope sBC) := C8.fnScope_by (by decide +kernel)
theorem ok_BW {D : Addr} (F : C8.Fun K "__init__" "BadWeb.__init__" sBW f fd) (gD : mg "DealError" = some (.ref D)) (T : BaseTxt K D) : FnOk P w K mg base C8.CX0 1 f fd ["self", "what"] (spExW K) := by
  refine C8.fn0 F scBW (fun vs H Q E h => ?_) (fun cdv A outer s H vs Q E hr h => ?_)
  · obtain ⟨a, C, x, rfl, _⟩ := h
    rfl
  · obtain ⟨a, C, x, rfl, hC, hn, ha, k⟩ := h
    refine ⟨_, pss_cons (ps_expr (pe_baseinit (by rfl) gD T (pa_cons (pv 0) (pa_cons pe_str pa_nil)))) (pss_one (ps_ost (pv 0) (pv 1))), ?_⟩
    repeat walk_at "td"
    refine ⟨a, C, _, rfl, (by show 1 ≤ 1000; decide), hC, ha, ?_⟩
    repeat walk_at "td"
    exact ⟨a, C, rfl, hC, hn, .inl ⟨ha, k⟩⟩
theorem ok_BT {D : Addr} (F : C8.Fun K "__init__" "BadThing.__init__" sBT f fd) (gD : mg "DealError" = some (.ref D)) (T : BaseTxt K D) : FnOk P w K mg base C8.CX0 1 f fd ["self"] (spEx0 K) := by
  refine C8.fn0 F scBT (fun vs H Q E h => ?_) (fun cdv A outer s H vs Q E hr h => ?_)
  · obtain ⟨a, C, rfl, _⟩ := h
    rfl
  · obtain ⟨a, C, rfl, hC, ha, k⟩ := h
    refine ⟨_, pss_one (ps_expr (pe_baseinit (by rfl) gD T (pa_cons (pv 0) (pa_cons pe_str pa_nil)))), ?_⟩
    repeat walk_at "td"
    exact ⟨a, C, _, rfl, (by show 1 ≤ 1000; decide), hC, ha, k⟩
theorem ok_BC {D : Addr} (F : C8.Fun K "__init__" "BadClub.__init__" sBC f fd) (gD : mg "DealError" = some (.ref D)) (T : BaseTxt K D) : FnOk P w K mg base C8.CX0 1 f fd ["self"] (spEx0 K) := by
  refine C8.fn0 F scBC (fun vs H Q E h => ?_) (fun cdv A outer s H vs Q E hr h => ?_)
  · obtain ⟨a, C, rfl, _⟩ := h
    rfl
  · obtain ⟨a, C, rfl, hC, ha, k⟩ := h
    refine ⟨_, pss_one (ps_expr (pe_baseinit (by rfl) gD T (pa_cons (pv 0) (pa_cons pe_str pa_nil)))), ?_⟩
    repeat walk_at "td"
    exact ⟨a, C, _, rfl, (by show 1 ≤ 1000; decide), hC, ha, k⟩
end
/-- a class of errors with the field what -/
structure ExcW (P : Program) (w : World) (K : PySem.W.Frag) (mg : Str → Option Value) (base : Heap) (x : Str) (C : Addr) : Prop where
  T : OexC K C
  nw : PySem.W.findIn K (.ref C) "what" = some none
  gC : mg x = some (.ref C)
  ex : ∃ (fI : Addr) (fd : FuncData), PySem.W.findIn K (.ref C) "__init__" = some (some (.ref fI)) ∧ PySem.W.typeIn K (.ref fI) = some (.type "function") ∧
    FnOk P w K mg base C8.CX0 1 fI fd ["self", "what"] (spExW K) ∧ Binds K fd ["self", "what"] []
/-- .. without a field -/
structure Exc0 (P : Program) (w : World) (K : PySem.W.Frag) (mg : Str → Option Value) (base : Heap) (x : Str) (C : Addr) : Prop where
  T : OexC K C
  gC : mg x = some (.ref C)
  ex : ∃ (fI : Addr) (fd : FuncData), PySem.W.findIn K (.ref C) "__init__" = some (some (.ref fI)) ∧ PySem.W.typeIn K (.ref fI) = some (.type "function") ∧
    FnOk P w K mg base C8.CX0 1 fI fd ["self"] (spEx0 K) ∧ Binds K fd ["self"] []
section
variable {X : Cx} {C : Addr} {W : WX} {x y : Str} {j : Nat} {p p2 pos pos2 : Pos}
/-- raise X('y') -/
def tRaiseW (C : Addr) (W : WX) (y : Str) : TS := fun _ σ H => ∀ (d : Addr) (H2 : Hp), H d = none → Same H H2 → H2 d = some (.xd [("what", .str y)]) → W (.ref C) (some d) σ H2
theorem ps_raiseW (hc : X.calm = true) (T : ExcW X.prog X.w X.K X.mg X.base x C) (hr : Room 2 X.A) (tk : Takes X W) (hg : Gl X x) (hdb : (x == ("__debug__" : Str)) = false := by decide)
    (he : starEach [.Constant (.str y) j p2] X.env = (false, eval (.Constant (.str y) j p2) X.env) :: starEach [] X.env := by rfl) (hpl : (backTo pos (starEach [] X.env)).any (·.1) = false := by rfl) :
    PS X (.Raise (some (.Call (.Name x p) [.Constant (.str y) j p2] [] pos)) none pos2) (tRaiseW C W y) := by
  obtain ⟨fI, fd, iC, tI, F1, b⟩ := T.ex
  have m := pmk_oex (p := p) (pos := pos) (ds := []) (dvs := []) T.T iC tI F1 hr b .nil C8.pass0 hg T.gC (pa_cons (pe_str (x := y) (j := j) (pos := p2)) pa_nil he) hdb he hpl
  have r := ps_raise (pos := pos2) hc tk m
  refine ⟨fun pins s σ H D I h => r.run pins s σ H D I ?_⟩
  show tMkO C (spExW X.K) [] (tCons (tC (.str y)) tNil) σ H (fun cls d H' => W cls d σ H')
  refine ⟨(by show 1 ≤ 1000; decide), fun a na => ⟨a, C, y, rfl, T.T, T.nw, upd_same, fun dx nd ne => ⟨rfl, dx, [("what", .str y)], upd_same, ?_, ?_, ?_⟩⟩⟩
  · rw [upd_ne ne, upd_same]
  · rw [upd_ne ne] at nd
    exact nd
  · rw [upd_ne ne] at nd
    refine h dx _ nd (fun b o e => ?_) upd_same
    rw [upd_ne (ne_of_none e nd), del_ne (ne_of_none e na), upd_ne (ne_of_none e na), upd_ne (ne_of_none e nd), upd_ne (ne_of_none e na)]
    exact e
/-- raise X() -/
def tRaise0 (C : Addr) (W : WX) : TS := fun _ σ H => W (.ref C) none σ H
theorem ps_raise0 (hc : X.calm = true) (T : Exc0 X.prog X.w X.K X.mg X.base x C) (hr : Room 2 X.A) (tk : Takes X W) (hg : Gl X x) (hdb : (x == ("__debug__" : Str)) = false := by decide) :
    PS X (.Raise (some (.Call (.Name x p) [] [] pos)) none pos2) (tRaise0 C W) := by
  obtain ⟨fI, fd, iC, tI, F1, b⟩ := T.ex
  have m := pmk_oex0 (p := p) (pos := pos) T.T iC tI F1 hr b C8.pass0 hg T.gC hdb
  have r := ps_raise (pos := pos2) hc tk m
  refine ⟨fun pins s σ H D I h => r.run pins s σ H D I ?_⟩
  show tMkO0 C (spEx0 X.K) σ H (fun cls d H' => W cls d σ H')
  refine fun a na => ⟨a, C, rfl, T.T, upd_same, rfl, upd_same, ?_⟩
  have e : del (upd H a (exo a C none)) a = H := by
    funext b
    by_cases hb : b = a
    · rw [hb, del_same, na]
    · rw [del_ne hb, upd_ne hb]
  rw [e]
  exact h
end
end L2.TD

namespace L2.TD
open PySem PySem.Spec PyProof.Rows
local macro_rules | `(tactic| walk_at "td_side") => `(tactic| first
  | ((with_reducible show CMul _ _); refine Or.inr ⟨?_, ?_⟩ <;> decide)
  | ((with_reducible show CDiv _ _); refine ⟨?_, ?_⟩ <;> decide)
  | ((with_reducible show CPow _ _); refine ⟨?_, ?_, ?_⟩ <;> decide)
  | (show (0 : Int) < _; first | decide | omega)
  | ((with_reducible show scal _ _ = true); rfl)
  | ((show tyV _ "list" _ _); exact Or.inl ⟨rfl, _, SqL.of (by first | exact upd_same | assumption)⟩))
local macro_rules | `(tactic| walk_at "td") => `(tactic| first
  | (refine ⟨_, _, rfl, rfl, ?_⟩)
  | (refine ⟨_, rfl, ?_⟩)
  | (refine Or.inl ⟨_, rfl, ?_⟩)
  | (refine And.intro ?side ?_; (case side => walk_at "td_side"))
  | (refine ⟨_, _, _, _, rfl, rfl, SqL.of (by first | exact upd_same | assumption), by rfl, ?_⟩)
  | (refine ⟨_, _, _, _, rfl, rfl, (by first | exact upd_same | assumption), by rfl, ?_⟩))
/-! the marks, walked -/
abbrev sCount : Stmt := top 11
abbrev sMarks : Stmt := top 23
theorem take_more {α : Type} : ∀ {l : List α} {i : Nat} {x : α}, l[i]? = some x → l.take (i + 1) = l.take i ++ [x]
  | [], i, x, h => by simp at h
  | a :: l, 0, x, h => by
    have e : a = x := Option.some.inj h
    subst e
    rfl
  | a :: l, i + 1, x, h => by
    have ih := take_more (l := l) (i := i) (x := x) h
    show a :: l.take (i + 1) = a :: l.take i ++ [x]
    rw [ih]
    rfl
theorem small12 {n : Nat} (h : n ≤ 100000) : n < sizeLine := Nat.lt_of_le_of_lt h (by rw [sizeLine_eq]; decide)
theorem ints_at {ms : List Int} {i : Nat} (h : i < ms.length) : (ms.map V.int)[i]? = some (V.int (ms.getD i 0)) := by
  rw [List.getElem?_map, List.getElem?_eq_getElem h, List.getD_eq_getElem?_getD, List.getElem?_eq_getElem h]
  rfl
theorem rgV0 (N : Nat) : rgV 0 (N : Int) = (TDm.marks0 N).map V.int := by
  unfold rgV TDm.marks0
  simp [List.map_map, Function.comp_def]
theorem RgOk0 {n m : Nat} (h : n + m ≤ 12) : RgOk 0 ((n : Int) + (m : Int)) := RgOk.of_le (by decide) (by omega) (by decide) (by omega)
section
variable {P : Program} {w : World} {K : PySem.W.Frag} {mg : Str → Option Value} {base : Heap} {f : Addr} {fd : FuncData}
/-- count_pieces, the ties a tuple -/
def spCount (K : PySem.W.Frag) : Sp := fun vs H Q _ => ∃ (n m : Nat) (ts : List Tie) (a : Addr) (xs : List V), vs = [.int (n : Int), .int (m : Int), .ref a] ∧ n ≤ 6 ∧ m ≤ 6 ∧ SqT K H a xs ∧ DpAll K H xs (ts.map tieD) ∧ (∀ t ∈ ts, TDm.InR n m t) ∧
  ∀ H', Same H H' → Q (.int (TDm.card (TDm.marks n m ts))) H'
abbrev nCount : List Str := ["things", "clubs", "ties", "marks", "thing", "club", "one", "other", "mark"]
theorem scCount : FnScope nCount ["things", "clubs", "ties"] (C8.fnScope sCount) := C8.fnScope_by (by decide +kernel)
theorem ok_count (B : Blt mg) (F : C8.Def K mg "count_pieces" sCount f fd) (b : Binds K fd ["things", "clubs", "ties"] []) : C8.Cal P w K mg base 1 "count_pieces" (spCount K) [] := by
  refine C8.cal0 F b .nil scCount (fun vs H Q E h => ?_) (fun cdv A outer s H vs Q E hr h => ?_)
  · obtain ⟨n, m, ts, a, xs, rfl, _⟩ := h
    rfl
  · obtain ⟨n, m, ts, a, xs, rfl, hn, hm, hT, hD, hR, k⟩ := h
    have nd := scCount.nd
    refine ⟨_, pss_cons (ps_set (i := 3) nd rfl (.inl rfl) (pe_listRg rfl (by rfl) B.list (prg_1 (by rfl) B.range (pe_op op_add (pv 0) (pv 1)))))
      (pss_cons (ps_for PassesOwn.never rfl (pi_tup (pv 2)) (pg_tup (n := 2) rfl (pgs_cons (pg_name (i := 4) nd rfl (.inl rfl)) (pgs_cons (pg_name (i := 5) nd rfl (.inl rfl)) pgs_nil)))
        (pss_cons (ps_set (i := 6) nd rfl (.inr rfl) (pe_ix ix_list (pv 3) (pv 4) (fun _ _ => rfl)))
        (pss_cons (ps_set (i := 7) nd rfl (.inr rfl) (pe_ix ix_list (pv 3) (pe_op op_add (pv 0) (pv 5)) (fun _ _ => rfl)))
        (pss_one (ps_setLc (i := 3) (own := [("mark", 8)]) (g := gName 8) (tt := tYes) rfl nd rfl rfl (sw_true rfl rfl rfl (by decide +kernel)) (pi_list (pv 3)) (blkOk_by (N := nCount) (sc := C8.fnScope sCount) (by decide +kernel))
          (fun _ _ _ _ _ => pg_name (i := 8) nd rfl (.inl rfl)) (fun _ _ _ _ _ => pts_nil) (fun _ _ _ _ _ => pe_ifExp (pt_cmpR op_eq (pv 8) (pv 7) (nomark _)) (pv 6) (pv 8)))))))
      (pss_one (ps_ret (pe_lenSetN rfl (by rfl) B.len (by rfl) B.set (pv 3))))), ?_⟩
    repeat walk_at "td"
    refine ⟨RgOk0 (by omega), fun p np => ?_⟩
    repeat walk_at "td"
    refine ⟨⟨_, hT.sm (Keeps.new (S := []) np).same⟩, ?_⟩
    have e0 : rgV 0 ((n : Int) + (m : Int)) = (TDm.marks n m []).map V.int := by
      have := rgV0 (n + m)
      rw [Int.natCast_add] at this
      exact this
    rw [e0]
    refine for_tup (K := K) (a := a) (xs := xs) (fun i σ H' => ∃ (q : Addr) (x4 x5 x6 x7 x8 : Option V), σ = [some (.int (n : Int)), some (.int (m : Int)), some (.ref a), some (.ref q), x4, x5, x6, x7, x8] ∧ Same H H' ∧ H' q = some (.lst ((TDm.marks n m (ts.take i)).map V.int)))
      ⟨p, none, none, none, none, none, rfl, (Keeps.new (S := []) np).same, upd_same⟩ (fun i σ H' _ ⟨_, _, _, _, _, _, _, sm, _⟩ => hT.sm sm) ?_ ?_
    · rintro i x σ H' hx ⟨q, x4, x5, x6, x7, x8, rfl, sm, hq⟩
      obtain ⟨d, hd, hdp⟩ := hD.get hx
      obtain ⟨t, ht, rfl⟩ : ∃ t, ts[i]? = some t ∧ d = tieD t := by
        rw [List.getElem?_map] at hd
        cases e : ts[i]? with
        | none => rw [e] at hd; cases hd
        | some t => rw [e] at hd; exact ⟨t, rfl, (Option.some.inj hd).symm⟩
      obtain ⟨pt, rfl, hpt⟩ := hdp.tie
      have inr := hR t (List.mem_of_getElem? ht)
      have hl := TDm.len_marks n m (ts.take i)
      obtain ⟨ix1, ix2⟩ := TDm.inR_ix inr
      obtain ⟨r1, r2, r3, r4⟩ := id inr
      generalize hms : TDm.marks n m (ts.take i) = ms at hq hl
      refine ⟨_, _, rfl, hpt.sm sm, rfl, _, _, rfl, _, _, rfl, rfl, ?_⟩
      repeat walk_at "td"
      refine ⟨_, _, _, _, rfl, rfl, SqL.of hq, at_of (by omega) (ints_at (i := t.1.toNat) (by omega)), ?_⟩
      repeat walk_at "td"
      refine ⟨_, _, _, _, rfl, rfl, SqL.of hq, at_of (by show (n : Int) + t.2 = ((n + t.2.toNat : Nat) : Int); omega) (ints_at (i := n + t.2.toNat) (by omega)), ?_⟩
      repeat walk_at "td"
      refine ⟨⟨_, SqL.of hq⟩, fun D nD => ?_⟩
      refine lc_list (K := K) (a := q) (xs := ms.map V.int) (fun j H2 => Same H' H2 ∧ H2 D = some (.lst (((TDm.mstep n ms t).take j).map V.int)))
        ⟨(Keeps.new (S := []) nD).same, upd_same⟩ (fun j H2 _ ⟨s1, _⟩ => SqL.of (s1 _ _ hq)) ?_ ?_
      · rintro j x H2 hx ⟨s1, hD2⟩
        have hj : j < ms.length := by
          have z := (List.getElem?_eq_some_iff.mp hx).1
          rw [List.length_map] at z
          exact z
        rw [ints_at hj] at hx
        cases hx
        refine ⟨rfl, ?_⟩
        have fin : ∀ z : Int, z = (if ms.getD j 0 = ms.getD (n + t.2.toNat) 0 then ms.getD t.1.toNat 0 else ms.getD j 0) → ∃ acc, H2 D = some (.lst acc) ∧ acc.length < sizeLine ∧ Same H' (upd H2 D (.lst (acc ++ [V.int z]))) ∧ upd H2 D (.lst (acc ++ [V.int z])) D = some (.lst (((TDm.mstep n ms t).take (j + 1)).map V.int)) := by
          intro z hz
          refine ⟨_, hD2, ?_, ((Keeps.of (S := []) s1).late nD).same, ?_⟩
          · rw [List.length_map, List.length_take]
            exact small12 (by omega)
          · rw [upd_same]
            have e : (TDm.mstep n ms t)[j]? = some z := by
              rw [hz, ← TDm.getD_mstep hj, List.getD_eq_getElem?_getD, List.getElem?_eq_getElem (by rw [TDm.len_mstep]; exact hj)]
              rfl
            rw [take_more e, List.map_append]
            rfl
        repeat walk_at "td"
        refine iteD (fun c => ?_) (fun c => ?_)
        · repeat walk_at "td"
          exact fin _ (by rw [if_pos (V.int.inj c)])
        · repeat walk_at "td"
          exact fin _ (by rw [if_neg fun e => c (by rw [e])])
      · rintro H2 ⟨s1, hD2⟩
        refine ⟨D, _, _, _, _, _, rfl, fun b o e => s1 b o (sm b o e), ?_⟩
        rw [take_more ht, TDm.marks_snoc, hms, hD2]
        have e : (TDm.mstep n ms t).take (ms.map V.int).length = TDm.mstep n ms t := by
          rw [List.length_map, ← TDm.len_mstep n ms t, List.take_length]
        rw [e]
    · rintro σ H' ⟨q, x4, x5, x6, x7, x8, rfl, sm, hq⟩
      have e1 : ts.take xs.length = ts := by
        rw [hD.length, List.length_map, List.take_length]
      rw [e1] at hq
      repeat walk_at "td"
      refine ⟨_, _, rfl, SqL.of hq, ?_, k _ sm⟩
      rw [TDm.len_marks]
      omega
/-- _law_marks, the ties a list -/
def spMarks (K : PySem.W.Frag) : Sp := fun vs H Q _ => ∃ (n m : Nat) (ts : List Tie) (a : Addr) (xs : List V), vs = [.int (n : Int), .int (m : Int), .ref a] ∧ n ≤ 6 ∧ m ≤ 6 ∧ SqL K H a xs ∧ DpAll K H xs (ts.map tieD) ∧ (∀ t ∈ ts, TDm.InR n m t) ∧
  ∀ (q : Addr) (H' : Hp), Same H H' → H' q = some (.lst ((TDm.marks n m ts).map V.int)) → Q (.ref q) H'
abbrev nMarks : List Str := ["_law_n", "_law_m", "_law_ties", "_law_marks_here", "_law_thing", "_law_club", "_law_one", "_law_other", "_law_mark"]
theorem scMarks : FnScope nMarks ["_law_n", "_law_m", "_law_ties"] (C8.fnScope sMarks) := C8.fnScope_by (by decide +kernel)
theorem ok_marks (B : Blt mg) (F : C8.Def K mg "_law_marks" sMarks f fd) (b : Binds K fd ["_law_n", "_law_m", "_law_ties"] []) : C8.Cal P w K mg base 1 "_law_marks" (spMarks K) [] := by
  refine C8.cal0 F b .nil scMarks (fun vs H Q E h => ?_) (fun cdv A outer s H vs Q E hr h => ?_)
  · obtain ⟨n, m, ts, a, xs, rfl, _⟩ := h
    rfl
  · obtain ⟨n, m, ts, a, xs, rfl, hn, hm, hT, hD, hR, k⟩ := h
    have nd := scMarks.nd
    refine ⟨_, pss_cons (ps_set (i := 3) nd rfl (.inl rfl) (pe_listRg rfl (by rfl) B.list (prg_1 (by rfl) B.range (pe_op op_add (pv 0) (pv 1)))))
      (pss_cons (ps_for PassesOwn.never rfl (pi_list (pv 2)) (pg_tup (n := 2) rfl (pgs_cons (pg_name (i := 4) nd rfl (.inl rfl)) (pgs_cons (pg_name (i := 5) nd rfl (.inl rfl)) pgs_nil)))
        (pss_cons (ps_set (i := 6) nd rfl (.inr rfl) (pe_ix ix_list (pv 3) (pv 4) (fun _ _ => rfl)))
        (pss_cons (ps_set (i := 7) nd rfl (.inr rfl) (pe_ix ix_list (pv 3) (pe_op op_add (pv 0) (pv 5)) (fun _ _ => rfl)))
        (pss_one (ps_setLc (i := 3) (own := [("_law_mark", 8)]) (g := gName 8) (tt := tYes) rfl nd rfl rfl (sw_true rfl rfl rfl (by decide +kernel)) (pi_list (pv 3)) (blkOk_by (N := nMarks) (sc := C8.fnScope sMarks) (by decide +kernel))
          (fun _ _ _ _ _ => pg_name (i := 8) nd rfl (.inl rfl)) (fun _ _ _ _ _ => pts_nil) (fun _ _ _ _ _ => pe_ifExp (pt_cmpR op_eq (pv 8) (pv 7) (nomark _)) (pv 6) (pv 8)))))))
      (pss_one (ps_ret (pv 3)))), ?_⟩
    repeat walk_at "td"
    refine ⟨RgOk0 (by omega), fun p np => ?_⟩
    repeat walk_at "td"
    refine ⟨⟨_, hT.sm (Keeps.new (S := []) np).same⟩, ?_⟩
    have e0 : rgV 0 ((n : Int) + (m : Int)) = (TDm.marks n m []).map V.int := by
      have := rgV0 (n + m)
      rw [Int.natCast_add] at this
      exact this
    rw [e0]
    refine for_list (K := K) (a := a) (xs := xs) (fun i σ H' => ∃ (q : Addr) (x4 x5 x6 x7 x8 : Option V), σ = [some (.int (n : Int)), some (.int (m : Int)), some (.ref a), some (.ref q), x4, x5, x6, x7, x8] ∧ Same H H' ∧ H' q = some (.lst ((TDm.marks n m (ts.take i)).map V.int)))
      ⟨p, none, none, none, none, none, rfl, (Keeps.new (S := []) np).same, upd_same⟩ (fun i σ H' _ ⟨_, _, _, _, _, _, _, sm, _⟩ => hT.sm sm) ?_ ?_
    · rintro i x σ H' hx ⟨q, x4, x5, x6, x7, x8, rfl, sm, hq⟩
      obtain ⟨d, hd, hdp⟩ := hD.get hx
      obtain ⟨t, ht, rfl⟩ : ∃ t, ts[i]? = some t ∧ d = tieD t := by
        rw [List.getElem?_map] at hd
        cases e : ts[i]? with
        | none => rw [e] at hd; cases hd
        | some t => rw [e] at hd; exact ⟨t, rfl, (Option.some.inj hd).symm⟩
      obtain ⟨pt, rfl, hpt⟩ := hdp.tie
      have inr := hR t (List.mem_of_getElem? ht)
      have hl := TDm.len_marks n m (ts.take i)
      obtain ⟨ix1, ix2⟩ := TDm.inR_ix inr
      obtain ⟨r1, r2, r3, r4⟩ := id inr
      generalize hms : TDm.marks n m (ts.take i) = ms at hq hl
      refine ⟨_, _, rfl, hpt.sm sm, rfl, _, _, rfl, _, _, rfl, rfl, ?_⟩
      repeat walk_at "td"
      refine ⟨_, _, _, _, rfl, rfl, SqL.of hq, at_of (by omega) (ints_at (i := t.1.toNat) (by omega)), ?_⟩
      repeat walk_at "td"
      refine ⟨_, _, _, _, rfl, rfl, SqL.of hq, at_of (by show (n : Int) + t.2 = ((n + t.2.toNat : Nat) : Int); omega) (ints_at (i := n + t.2.toNat) (by omega)), ?_⟩
      repeat walk_at "td"
      refine ⟨⟨_, SqL.of hq⟩, fun D nD => ?_⟩
      refine lc_list (K := K) (a := q) (xs := ms.map V.int) (fun j H2 => Same H' H2 ∧ H2 D = some (.lst (((TDm.mstep n ms t).take j).map V.int)))
        ⟨(Keeps.new (S := []) nD).same, upd_same⟩ (fun j H2 _ ⟨s1, _⟩ => SqL.of (s1 _ _ hq)) ?_ ?_
      · rintro j x H2 hx ⟨s1, hD2⟩
        have hj : j < ms.length := by
          have z := (List.getElem?_eq_some_iff.mp hx).1
          rw [List.length_map] at z
          exact z
        rw [ints_at hj] at hx
        cases hx
        refine ⟨rfl, ?_⟩
        have fin : ∀ z : Int, z = (if ms.getD j 0 = ms.getD (n + t.2.toNat) 0 then ms.getD t.1.toNat 0 else ms.getD j 0) → ∃ acc, H2 D = some (.lst acc) ∧ acc.length < sizeLine ∧ Same H' (upd H2 D (.lst (acc ++ [V.int z]))) ∧ upd H2 D (.lst (acc ++ [V.int z])) D = some (.lst (((TDm.mstep n ms t).take (j + 1)).map V.int)) := by
          intro z hz
          refine ⟨_, hD2, ?_, ((Keeps.of (S := []) s1).late nD).same, ?_⟩
          · rw [List.length_map, List.length_take]
            exact small12 (by omega)
          · rw [upd_same]
            have e : (TDm.mstep n ms t)[j]? = some z := by
              rw [hz, ← TDm.getD_mstep hj, List.getD_eq_getElem?_getD, List.getElem?_eq_getElem (by rw [TDm.len_mstep]; exact hj)]
              rfl
            rw [take_more e, List.map_append]
            rfl
        repeat walk_at "td"
        refine iteD (fun c => ?_) (fun c => ?_)
        · repeat walk_at "td"
          exact fin _ (by rw [if_pos (V.int.inj c)])
        · repeat walk_at "td"
          exact fin _ (by rw [if_neg fun e => c (by rw [e])])
      · rintro H2 ⟨s1, hD2⟩
        refine ⟨D, _, _, _, _, _, rfl, fun b o e => s1 b o (sm b o e), ?_⟩
        rw [take_more ht, TDm.marks_snoc, hms, hD2]
        have e : (TDm.mstep n ms t).take (ms.map V.int).length = TDm.mstep n ms t := by
          rw [List.length_map, ← TDm.len_mstep n ms t, List.take_length]
        rw [e]
    · rintro σ H' ⟨q, x4, x5, x6, x7, x8, rfl, sm, hq⟩
      have e1 : ts.take xs.length = ts := by
        rw [hD.length, List.length_map, List.take_length]
      rw [e1] at hq
      repeat walk_at "td"
      exact k q _ sm hq
end
end L2.TD
namespace L2.TD
open PySem PySem.Spec PyProof.Rows
local macro_rules | `(tactic| walk_at "td_side") => `(tactic| first
  | ((with_reducible show CMul _ _); refine Or.inr ⟨?_, ?_⟩ <;> decide)
  | ((with_reducible show CDiv _ _); refine ⟨?_, ?_⟩ <;> decide)
  | ((with_reducible show CPow _ _); refine ⟨?_, ?_, ?_⟩ <;> decide)
  | (show (0 : Int) < _; first | decide | omega)
  | ((with_reducible show scal _ _ = true); rfl)
  | ((show tyV _ "list" _ _); exact Or.inl ⟨rfl, _, SqL.of (by first | exact upd_same | assumption)⟩))
local macro_rules | `(tactic| walk_at "td") => `(tactic| first
  | (refine ⟨_, _, rfl, rfl, ?_⟩)
  | (refine ⟨_, rfl, ?_⟩)
  | (refine Or.inl ⟨_, rfl, ?_⟩)
  | (refine And.intro ?side ?_; (case side => walk_at "td_side"))
  | (refine ⟨_, _, _, _, rfl, rfl, SqL.of (by first | exact upd_same | assumption), by rfl, ?_⟩)
  | (refine ⟨_, _, _, _, rfl, rfl, (by first | exact upd_same | assumption), by rfl, ?_⟩))
/-! what is due for three arguments -/
def tieOf (n m : Int) : PyData → Option Tie
  | .list [x, y] => match x, y with
    | .int i, .int j => if wholeIn 0 (n - 1) (.int i) = true ∧ wholeIn 0 (m - 1) (.int j) = true then some (i, j) else none
    | _, _ => none
  | .tuple [x, y] => match x, y with
    | .int i, .int j => if wholeIn 0 (n - 1) (.int i) = true ∧ wholeIn 0 (m - 1) (.int j) = true then some (i, j) else none
    | _, _ => none
  | _ => none
def tiesOf (n m : Int) : List PyData → Option (List Tie)
  | [] => some []
  | d :: ds => match tieOf n m d, tiesOf n m ds with
    | some t, some ts => some (t :: ts)
    | _, _ => none
def intOf : PyData → Int
  | .int i => i
  | _ => 0
/-- the ties' word, n things and m clubs -/
def wordT (n m : Int) : Option (List PyData) → Option Str
  | none => some "tie"
  | some ds => match tiesOf n m ds with
    | none => some "tie"
    | some ts => if ¬ ts.Nodup then some "double" else if 12 < ts.length then some "many" else if TDm.joined n.toNat m.toNat ts = true then none else some "joined"
def word (d1 d2 : PyData) (T : Option (List PyData)) : Option Str :=
  if wholeIn 1 6 d1 = false then some "things" else if wholeIn 1 6 d2 = false then some "clubs" else wordT (intOf d1) (intOf d2) T
theorem tieOf_in {n m : Int} {d : PyData} {t : Tie} (h : tieOf n m d = some t) : 0 ≤ t.1 ∧ t.1 ≤ n - 1 ∧ 0 ≤ t.2 ∧ t.2 ≤ m - 1 := by
  have fin : ∀ (i j : Int), (if wholeIn 0 (n - 1) (.int i) = true ∧ wholeIn 0 (m - 1) (.int j) = true then some (i, j) else none) = some t → 0 ≤ t.1 ∧ t.1 ≤ n - 1 ∧ 0 ≤ t.2 ∧ t.2 ≤ m - 1 := by
    intro i j e
    by_cases c : wholeIn 0 (n - 1) (.int i) = true ∧ wholeIn 0 (m - 1) (.int j) = true
    · rw [if_pos c] at e
      cases e
      obtain ⟨c1, c2⟩ := c
      unfold wholeIn at c1 c2
      rw [Bool.and_eq_true, decide_eq_true_eq, decide_eq_true_eq] at c1 c2
      exact ⟨c1.1, c1.2, c2.1, c2.2⟩
    · rw [if_neg c] at e
      cases e
  unfold tieOf at h
  split at h
  · split at h
    · exact fin _ _ h
    · cases h
  · split at h
    · exact fin _ _ h
    · cases h
  · cases h
theorem tieOf_pair {n m : Int} {d : PyData} {t : Tie} (h : tieOf n m d = some t) : isPair d = true := by
  unfold tieOf at h
  split at h
  · rfl
  · rfl
  · cases h
/-- a pair, by its items -/
theorem tieOf_items {n m : Int} {x y : PyData} : tieOf n m (.tuple [x, y]) = tieOf n m (.list [x, y]) := rfl
theorem wholeIn_int {lo hi : Int} {d : PyData} (h : wholeIn lo hi d = true) : ∃ i, d = .int i ∧ lo ≤ i ∧ i ≤ hi := by
  cases d with
  | int i =>
    unfold wholeIn at h
    rw [Bool.and_eq_true, decide_eq_true_eq, decide_eq_true_eq] at h
    exact ⟨i, rfl, h⟩
  | _ => exact Bool.noConfusion h
theorem tieOf_some {n m : Int} {i j : Int} (h1 : wholeIn 0 (n - 1) (.int i) = true) (h2 : wholeIn 0 (m - 1) (.int j) = true) : tieOf n m (.list [.int i, .int j]) = some (i, j) := if_pos ⟨h1, h2⟩
theorem tieOf_none1 {n m : Int} {x y : PyData} (h : wholeIn 0 (n - 1) x = false) : tieOf n m (.list [x, y]) = none := by
  cases x with
  | int i =>
    cases y with
    | int j => exact if_neg fun c => by rw [h] at c; exact Bool.noConfusion c.1
    | _ => rfl
  | _ => rfl
theorem tieOf_none2 {n m : Int} {x y : PyData} (h : wholeIn 0 (m - 1) y = false) : tieOf n m (.list [x, y]) = none := by
  cases x with
  | int i =>
    cases y with
    | int j => exact if_neg fun c => by rw [h] at c; exact Bool.noConfusion c.2
    | _ => rfl
  | _ => rfl
theorem tieOf_nopair {n m : Int} {d : PyData} (h : isPair d = false) : tieOf n m d = none := by
  cases e : tieOf n m d with
  | none => rfl
  | some t => rw [tieOf_pair e] at h; cases h
theorem tiesOf_snoc {n m : Int} {t : Tie} {d : PyData} : ∀ {ds : List PyData} {ts : List Tie}, tiesOf n m ds = some ts → tieOf n m d = some t → tiesOf n m (ds ++ [d]) = some (ts ++ [t])
  | [], ts, h, hd => by
    cases h
    show (match tieOf n m d, some [] with | some t, some ts => some (t :: ts) | _, _ => none) = _
    rw [hd]
    rfl
  | e :: ds, ts, h, hd => by
    have h' : (match tieOf n m e, tiesOf n m ds with | some t, some ts => some (t :: ts) | _, _ => none) = some ts := h
    cases h1 : tieOf n m e with
    | none => rw [h1] at h'; cases h'
    | some u =>
      cases h2 : tiesOf n m ds with
      | none => rw [h1, h2] at h'; cases h'
      | some us =>
        rw [h1, h2] at h'
        cases h'
        have ih := tiesOf_snoc h2 hd
        show (match tieOf n m e, tiesOf n m (ds ++ [d]) with | some t, some ts => some (t :: ts) | _, _ => none) = _
        rw [h1, ih]
        rfl
theorem tiesOf_bad {n m : Int} {d : PyData} : ∀ {ds : List PyData}, d ∈ ds → tieOf n m d = none → tiesOf n m ds = none
  | [], h, _ => by cases h
  | e :: ds, h, hd => by
    show (match tieOf n m e, tiesOf n m ds with | some t, some ts => some (t :: ts) | _, _ => none) = _
    rcases List.mem_cons.mp h with q | q
    · subst q
      rw [hd]
    · rw [tiesOf_bad q hd]
      cases tieOf n m e <;> rfl
theorem tiesOf_in {n m : Int} : ∀ {ds : List PyData} {ts : List Tie}, tiesOf n m ds = some ts → ∀ t ∈ ts, 0 ≤ t.1 ∧ t.1 ≤ n - 1 ∧ 0 ≤ t.2 ∧ t.2 ≤ m - 1
  | [], ts, h, t, ht => by
    cases h
    cases ht
  | e :: ds, ts, h, t, ht => by
    have h' : (match tieOf n m e, tiesOf n m ds with | some t, some ts => some (t :: ts) | _, _ => none) = some ts := h
    cases h1 : tieOf n m e with
    | none => rw [h1] at h'; cases h'
    | some u =>
      cases h2 : tiesOf n m ds with
      | none => rw [h1, h2] at h'; cases h'
      | some us =>
        rw [h1, h2] at h'
        cases h'
        rcases List.mem_cons.mp ht with q | q
        · subst q
          exact tieOf_in h1
        · exact tiesOf_in h2 t q
theorem tiesOf_len {n m : Int} : ∀ {ds : List PyData} {ts : List Tie}, tiesOf n m ds = some ts → ts.length = ds.length
  | [], ts, h => by
    cases h
    rfl
  | e :: ds, ts, h => by
    have h' : (match tieOf n m e, tiesOf n m ds with | some t, some ts => some (t :: ts) | _, _ => none) = some ts := h
    cases h1 : tieOf n m e with
    | none => rw [h1] at h'; cases h'
    | some u =>
      cases h2 : tiesOf n m ds with
      | none => rw [h1, h2] at h'; cases h'
      | some us =>
        rw [h1, h2] at h'
        cases h'
        rw [List.length_cons, List.length_cons, tiesOf_len h2]
theorem tiesOf_inR {n m : Nat} {ds : List PyData} {ts : List Tie} (h : tiesOf n m ds = some ts) : ∀ t ∈ ts, TDm.InR n m t := fun t ht => by
  obtain ⟨h1, h2, h3, h4⟩ := tiesOf_in h t ht
  exact ⟨h1, by omega, h3, by omega⟩
/-- good ties as they are laid: tuples or lists -/
theorem tiesOf_good {n m : Nat} : ∀ {ds : List PyData} {ts : List Tie}, (∀ t ∈ ts, TDm.InR n m t) → ds.length = ts.length → (∀ (i : Nat) (d : PyData) (t : Tie), ds[i]? = some d → ts[i]? = some t → d = .list [.int t.1, .int t.2] ∨ d = .tuple [.int t.1, .int t.2]) →
    tiesOf n m ds = some ts
  | [], [], _, _, _ => rfl
  | [], _ :: _, _, h, _ => by cases h
  | _ :: _, [], _, h, _ => by cases h
  | d :: ds, t :: ts, hr, hl, h => by
    have ih := tiesOf_good (n := n) (m := m) (ds := ds) (ts := ts) (fun u hu => hr u (List.mem_cons_of_mem _ hu)) (by simpa using hl) fun i e u h1 h2 => h (i + 1) e u (by simpa using h1) (by simpa using h2)
    have h0 : tieOf n m d = some t := by
      obtain ⟨r1, r2, r3, r4⟩ := hr t List.mem_cons_self
      have w1 : wholeIn 0 ((n : Int) - 1) (.int t.1) = true := by
        unfold wholeIn
        rw [Bool.and_eq_true, decide_eq_true_eq, decide_eq_true_eq]
        omega
      have w2 : wholeIn 0 ((m : Int) - 1) (.int t.2) = true := by
        unfold wholeIn
        rw [Bool.and_eq_true, decide_eq_true_eq, decide_eq_true_eq]
        omega
      rcases h 0 d t rfl rfl with e | e
      · rw [e]
        exact tieOf_some w1 w2
      · rw [e, tieOf_items]
        exact tieOf_some w1 w2
    show (match tieOf n m d, tiesOf n m ds with | some t, some ts => some (t :: ts) | _, _ => none) = _
    rw [h0, ih]
/-! ### sets by their lengths -/
theorem perm_of_sub {α : Type} [BEq α] [LawfulBEq α] : ∀ {l k : List α}, l.Nodup → (∀ x ∈ l, x ∈ k) → ∃ r, k.Perm (l ++ r)
  | [], k, _, _ => ⟨k, .refl _⟩
  | x :: l, k, nd, h => by
    obtain ⟨n1, n2⟩ := List.nodup_cons.mp nd
    have hx := h x List.mem_cons_self
    have p := List.perm_cons_erase hx
    obtain ⟨r, q⟩ := perm_of_sub (l := l) (k := k.erase x) n2 fun y hy => by
      have hy' := h y (List.mem_cons_of_mem _ hy)
      have ne : y ≠ x := fun e => n1 (e ▸ hy)
      exact (List.mem_erase_of_ne ne).mpr hy'
    exact ⟨r, p.trans (q.cons x)⟩
theorem len_iff_nodup {α : Type} [BEq α] [LawfulBEq α] {l k : List α} (nd : l.Nodup) (h1 : ∀ x ∈ l, x ∈ k) (h2 : ∀ x ∈ k, x ∈ l) : l.length = k.length ↔ k.Nodup := by
  obtain ⟨r, p⟩ := perm_of_sub nd h1
  constructor
  · intro e
    have hl := p.length_eq
    rw [List.length_append] at hl
    have hr : r = [] := List.eq_nil_of_length_eq_zero (by omega)
    rw [hr, List.append_nil] at p
    exact p.nodup_iff.mpr nd
  · intro nk
    obtain ⟨r', p'⟩ := perm_of_sub nk h2
    have e1 := p.length_eq
    have e2 := p'.length_eq
    rw [List.length_append] at e1 e2
    omega
/-! ### lists of ties in the heap -/
section
variable {K : PySem.W.Frag} {H : Hp}
theorem dpAll_perm {xs ys : List V} (p : ys.Perm xs) : ∀ {ts : List Tie}, DpAll K H xs (ts.map tieD) → ∃ us : List Tie, us.Perm ts ∧ DpAll K H ys (us.map tieD) := by
  induction p with
  | nil => exact fun {ts} h => ⟨ts, .refl _, h⟩
  | cons x p ih =>
    intro ts h
    cases ts with
    | nil => cases h
    | cons t ts =>
      cases h with
      | cons h1 h2 =>
        obtain ⟨us, q, r⟩ := ih h2
        exact ⟨t :: us, q.cons t, .cons h1 r⟩
  | swap x y l =>
    intro ts h
    cases ts with
    | nil => cases h
    | cons t ts =>
      cases ts with
      | nil =>
        cases h with
        | cons h1 h2 => cases h2
      | cons u ts =>
        cases h with
        | cons h1 h2 =>
          cases h2 with
          | cons h3 h4 => exact ⟨u :: t :: ts, .swap t u ts, .cons h3 (.cons h1 h4)⟩
  | trans p q ih1 ih2 =>
    intro ts h
    obtain ⟨us, a, b⟩ := ih2 h
    obtain ⟨vs, c, d⟩ := ih1 b
    exact ⟨vs, c.trans a, d⟩
/-- the addresses of a list of ties -/
theorem dpAll_refs : ∀ {xs : List V} {ts : List Tie}, DpAll K H xs (ts.map tieD) → ∃ ks : List (Addr × List Int), xs = ks.map (fun p => V.ref p.1) ∧ ks.map (·.2) = ts.map (fun t => [t.1, t.2]) ∧ ∀ p ∈ ks, SqT K H p.1 (p.2.map V.int)
  | _, [], h => by
    cases h
    exact ⟨[], rfl, rfl, fun p hp => by cases hp⟩
  | _, t :: ts, h => by
    cases h with
    | cons h1 h2 =>
      obtain ⟨ks, e1, e2, e3⟩ := dpAll_refs h2
      obtain ⟨p, rfl, hp⟩ := h1.tie
      refine ⟨(p, [t.1, t.2]) :: ks, by rw [e1]; rfl, by rw [List.map_cons, e2]; rfl, fun q hq => ?_⟩
      rcases List.mem_cons.mp hq with e | hq
      · rw [e]
        exact hp
      · exact e3 q hq
theorem nodup_pairs {ts : List Tie} : (ts.map (fun t => [t.1, t.2])).Nodup ↔ ts.Nodup := by
  constructor
  · intro h
    exact List.Pairwise.of_map _ (fun a b hab e => hab (by rw [e])) h
  · intro h
    refine List.Pairwise.map _ (fun a b hab e => ?_) h
    have e1 := List.cons.inj e
    have e2 := List.cons.inj e1.2
    exact hab (Prod.ext e1.1 e2.1)
end
end L2.TD
namespace L2.TD
open PySem PySem.Spec PyProof.Rows
local macro_rules | `(tactic| walk_at "td_side") => `(tactic| first
  | ((with_reducible show CMul _ _); refine Or.inr ⟨?_, ?_⟩ <;> decide)
  | ((with_reducible show CDiv _ _); refine ⟨?_, ?_⟩ <;> decide)
  | ((with_reducible show CPow _ _); refine ⟨?_, ?_, ?_⟩ <;> decide)
  | (show (0 : Int) < _; first | decide | omega)
  | ((with_reducible show scal _ _ = true); rfl)
  | ((show tyV _ "list" _ _); exact Or.inl ⟨rfl, _, SqL.of (by first | exact upd_same | assumption)⟩))
local macro_rules | `(tactic| walk_at "td") => `(tactic| first
  | (refine ⟨_, _, rfl, rfl, ?_⟩)
  | (refine ⟨_, rfl, ?_⟩)
  | (refine Or.inl ⟨_, rfl, ?_⟩)
  | (refine And.intro ?side ?_; (case side => walk_at "td_side"))
  | (refine ⟨_, _, _, _, rfl, rfl, SqL.of (by first | exact upd_same | assumption), by rfl, ?_⟩)
  | (refine ⟨_, _, _, _, rfl, rfl, (by first | exact upd_same | assumption), by rfl, ?_⟩))
/-! Web.__init__ -/
abbrev sInit : Stmt := inClass (top 10) 0
abbrev sEq : Stmt := inClass (top 10) 1
abbrev sIter : Stmt := inClass (top 10) 2
abbrev sSpare : Stmt := inClass (top 10) 3
section
variable {P : Program} {w : World} {K : PySem.W.Frag} {mg : Str → Option Value} {base : Heap}
/-- a def that may raise, by its body -/
theorem fnX {x qual : Str} {st : Stmt} {f : Addr} {fd : FuncData} {N ps : List Str} {k : Nat} {sp : Sp} (F : C8.Fun K x qual st f fd) (S : FnScope N ps (C8.fnScope st)) (len : ∀ vs H Q E, sp vs H Q E → vs.length = ps.length)
    (hbody : ∀ (cdv : Value) (A : Around) (outer : List Env) (s : Shared) (H : Hp) (vs : List V) (Q : VK) (E : XK), Room k (A.deeper (envOfC qual (C8.fnScope st) s.heap.objs.size f cdv)) → sp vs H Q E →
      ∃ t, PSs (cxOf (L2.CX P w) P w K mg base N qual (C8.fnScope st) f cdv A outer s H E) (C8.fnBody st) t ∧ t { nx := fun _ H' => Q .non H', rt := Q } (start N vs) H) : FnOk P w K mg base (L2.CX P w) (k + 1) f fd ps sp := by
  obtain ⟨_, _, _, _, _, _, _, _, _, _, rfl, row, code⟩ := F.ex
  exact fn_of row code S len (hbody _)
end
/-- the argument ties: a list or a tuple of data, or something else -/
inductive TArg (K : PySem.W.Frag) (H : Hp) : V → Option (List PyData) → Prop where
  | seq {a : Addr} {xs : List V} {ds : List PyData} (h : SqL K H a xs ∨ SqT K H a xs) (hd : DpAll K H xs ds) (hl : ds.length < 64) : TArg K H (.ref a) (some ds)
  | no {v : V} {t : Value} (h : TyX K H v t) (hk : PySem.W.kitAny K t [.type "list", .type "tuple"] = some false) : TArg K H v none
/-- the web's attributes -/
def webF (n m : Int) (t : Addr) : List (Str × V) := putF "ties" (.ref t) (putF "clubs" (.int m) (putF "things" (.int n) []))
theorem ne_ct : ¬ (("clubs" : Str) = "ties") := by decide +kernel
theorem ne_tt : ¬ (("things" : Str) = "ties") := by decide +kernel
theorem ne_tc : ¬ (("things" : Str) = "clubs") := by decide +kernel
theorem webF_ties (n m : Int) (t : Addr) : (webF n m t).lookup ("ties" : Str) = some (.ref t) := by
  unfold webF
  rw [lookup_putF, if_pos rfl]
theorem webF_clubs (n m : Int) (t : Addr) : (webF n m t).lookup ("clubs" : Str) = some (.int m) := by
  unfold webF
  rw [lookup_putF, if_neg ne_ct, lookup_putF, if_pos rfl]
theorem webF_things (n m : Int) (t : Addr) : (webF n m t).lookup ("things" : Str) = some (.int n) := by
  unfold webF
  rw [lookup_putF, if_neg ne_tt, lookup_putF, if_neg ne_tc, lookup_putF, if_pos rfl]
/-- at x a web of n things, m clubs and the ties us, which stand in a tuple -/
structure WebAt (K : PySem.W.Frag) (C : Addr) (H : Hp) (x : Addr) (n m : Nat) (us : List Tie) : Prop where
  ex : ∃ (dx t : Addr) (xs : List V), H x = some (.ins C dx (webF n m t)) ∧ SqT K H t xs ∧ DpAll K H xs (us.map tieD)
theorem WebAt.same {K : PySem.W.Frag} {C : Addr} {H H' : Hp} {x : Addr} {n m : Nat} {us : List Tie} (h : WebAt K C H x n m us) (e : Same H H') : WebAt K C H' x n m us := by
  obtain ⟨dx, t, xs, h1, h2, h3⟩ := h.ex
  exact ⟨dx, t, xs, e _ _ h1, h2.sm e, h3.sm e⟩
structure WebTxt (K : PySem.W.Frag) (mg : Str → Option Value) (C : Addr) : Prop where
  cl : Cls K C
  nT : NoAttr K C "things"
  nC : NoAttr K C "clubs"
  nS : NoAttr K C "ties"
  gC : mg "Web" = some (.ref C)
theorem seq_loop {K : PySem.W.Frag} {a : Addr} {xs : List V} {g : TG} {tb : TS} {D : Ends} {σ : St} {H H0 : Hp} (hq : SqL K H0 a xs ∨ SqT K H0 a xs) (Pv : Nat → St → Hp → Prop) (h0 : Pv 0 σ H) (sm : ∀ i σ' H', Pv i σ' H' → Same H0 H')
    (hs : ∀ i x σ H, xs[i]? = some x → Pv i σ H → g x σ H fun σ2 H2 => tb { D with nx := Pv (i + 1), ct := Pv (i + 1), bk := D.nx } σ2 H2) (hd : ∀ σ H, Pv xs.length σ H → D.nx σ H) :
    (((∃ xs, SqL K H a xs) ∧ ∃ W : Nat → Nat → St → Hp → Prop, (∃ m, W 0 m σ H) ∧ ∀ i m σ H, W i m σ H →
      ((Itl K a).stop i H ∧ D.nx σ H) ∨ ((Itl K a).go i H ∧ ∃ N : St → Hp → Prop, (∀ σ' H', N σ' H' → ∃ m', m' < m ∧ W (i + 1) m' σ' H') ∧ ∀ x H', (Itl K a).yld i H x H' → g x σ H' fun σ2 H2 => tb { D with nx := N, ct := N, bk := D.nx } σ2 H2)) ∨
    ((∃ xs, SqT K H a xs) ∧ ∃ W : Nat → Nat → St → Hp → Prop, (∃ m, W 0 m σ H) ∧ ∀ i m σ H, W i m σ H →
      ((Itt K a).stop i H ∧ D.nx σ H) ∨ ((Itt K a).go i H ∧ ∃ N : St → Hp → Prop, (∀ σ' H', N σ' H' → ∃ m', m' < m ∧ W (i + 1) m' σ' H') ∧ ∀ x H', (Itt K a).yld i H x H' → g x σ H' fun σ2 H2 => tb { D with nx := N, ct := N, bk := D.nx } σ2 H2))) := by
  rcases hq with hq | hq
  · exact .inl ⟨⟨xs, hq.sm (sm _ _ _ h0)⟩, for_list Pv h0 (fun i σ' H' _ p => hq.sm (sm i σ' H' p)) hs hd⟩
  · exact .inr ⟨⟨xs, hq.sm (sm _ _ _ h0)⟩, for_tup Pv h0 (fun i σ' H' _ p => hq.sm (sm i σ' H' p)) hs hd⟩
theorem rix_seq {K : PySem.W.Frag} {H : Hp} {p : Addr} {xs : List V} {i : Int} {v : V} {Q : VK} (h : SqL K H p xs ∨ SqT K H p xs) (e : atI xs i = some v) (q : Q v H) : rIx K (.ref p) (.int i) H Q := by
  rcases h with h | h
  · exact .inl ⟨p, xs, i, v, rfl, rfl, h, e, q⟩
  · exact .inr (.inl ⟨p, xs, i, v, rfl, rfl, h, e, q⟩)
theorem dp_pair {K : PySem.W.Frag} {H : Hp} {v : V} {d : PyData} (h : Dp K H v d) (hp : isPair d = true) : ∃ (p : Addr) (v1 v2 : V) (d1 d2 : PyData), v = .ref p ∧ (SqL K H p [v1, v2] ∨ SqT K H p [v1, v2]) ∧ Dp K H v1 d1 ∧ Dp K H v2 d2 ∧
    ∀ n m : Int, tieOf n m d = tieOf n m (.list [d1, d2]) := by
  unfold isPair at hp
  split at hp
  · cases h with
    | lst hs ha =>
      cases ha with
      | cons h1 h2 =>
        cases h2 with
        | cons h3 h4 =>
          cases h4
          exact ⟨_, _, _, _, _, rfl, .inl hs, h1, h3, fun _ _ => rfl⟩
  · cases h with
    | tup hs ha =>
      cases ha with
      | cons h1 h2 =>
        cases h2 with
        | cons h3 h4 =>
          cases h4
          exact ⟨_, _, _, _, _, rfl, .inr hs, h1, h3, fun _ _ => rfl⟩
  · cases hp
/-- the set's length tells doubles -/
theorem set_len {L ks : List (Addr × List Int)} {ts : List Tie} (e2 : ks.map (·.2) = ts.map (fun t => [t.1, t.2])) (h1 : ∀ p ∈ L, p ∈ ks) (h2 : ∀ p ∈ ks, p.2 ∈ L.map (·.2)) (nd : (L.map (·.2)).Nodup) : (L.length = ks.length) ↔ ts.Nodup := by
  have a := len_iff_nodup (l := L.map (·.2)) (k := ks.map (·.2)) nd (fun x hx => by
    obtain ⟨p, hp, e⟩ := List.mem_map.mp hx
    exact List.mem_map.mpr ⟨p, h1 p hp, e⟩) (fun x hx => by
    obtain ⟨p, hp, e⟩ := List.mem_map.mp hx
    rw [← e]
    exact h2 p hp)
  rw [List.length_map, List.length_map, e2, nodup_pairs] at a
  exact a
theorem asc_of {K : PySem.W.Frag} {H : Hp} : ∀ {ys : List V} {us : List Tie}, DpAll K H ys (us.map tieD) → (∀ t ∈ us, TDm.InR 6 6 t) →
    ys.Pairwise (fun x y => ∀ n m, TupI K H x n → TupI K H y m → TS.code 64 n ≤ TS.code 64 m) → TDm.Asc us
  | _, [], _, _, _ => List.Pairwise.nil
  | _, t :: us, h, hr, hp => by
    cases h with
    | cons h1 h2 =>
      obtain ⟨p1, p2⟩ := List.pairwise_cons.mp hp
      refine List.pairwise_cons.mpr ⟨fun u hu => ?_, asc_of h2 (fun x hx => hr x (List.mem_cons_of_mem _ hx)) p2⟩
      obtain ⟨i, hi, e⟩ := List.getElem_of_mem hu
      obtain ⟨y, hy, hyd⟩ := h2.getd (i := i) (d := tieD u) (by rw [List.getElem?_map, List.getElem?_eq_getElem hi, e]; rfl)
      obtain ⟨p, rfl, hpt⟩ := h1.tie
      obtain ⟨q, rfl, hqt⟩ := hyd.tie
      have c := p1 _ (List.mem_of_getElem? hy) [t.1, t.2] [u.1, u.2] ⟨p, rfl, hpt⟩ ⟨q, rfl, hqt⟩
      rw [code_pair, code_pair] at c
      obtain ⟨a1, a2, a3, a4⟩ := hr t List.mem_cons_self
      obtain ⟨b1, b2, b3, b4⟩ := hr u (List.mem_cons_of_mem _ hu)
      unfold TDm.tieLe
      omega
/-- an object is no list and no tuple: data does not lean on it -/
theorem wo_ins {K : PySem.W.Frag} {H : Hp} {x C dx : Addr} {fs : List (Str × V)} (hx : H x = some (.ins C dx fs)) {a : Addr} {xs : List V} : (SqL K H a xs → SqL K (wo [x] H) a xs) ∧ (SqT K H a xs → SqT K (wo [x] H) a xs) := by
  have ne : ∀ {a : Addr} {o : HO}, H a = some o → o ≠ .ins C dx fs → a ∉ [x] := fun {a o} h n z => by
    have e : a = x := by simpa using z
    rw [e, hx] at h
    exact n (Option.some.inj h).symm
  constructor
  · rintro ((h | ⟨o, h⟩) | h)
    · exact .inl (.inl (by rw [wo_out (ne h (by intro z; cases z))]; exact h))
    · exact .inl (.inr ⟨o, by rw [wo_out (ne h (by intro z; cases z))]; exact h⟩)
    · exact .inr h
  · rintro ((h | ⟨o, h⟩) | h)
    · exact .inl (.inl (by rw [wo_out (ne h (by intro z; cases z))]; exact h))
    · exact .inl (.inr ⟨o, by rw [wo_out (ne h (by intro z; cases z))]; exact h⟩)
    · exact .inr h
mutual
theorem dp_wo {K : PySem.W.Frag} {H : Hp} {x C dx : Addr} {fs : List (Str × V)} (hx : H x = some (.ins C dx fs)) : ∀ (d : PyData) (v : V), Dp K H v d → Dp K (wo [x] H) v d
  | .none, _, h => by cases h; exact .non
  | .bool _, _, h => by cases h; exact .bl _
  | .int _, _, h => by cases h; exact .int _
  | .str _, _, h => by cases h; exact .str _
  | .list ds, _, h => by
    cases h with
    | lst hs ha => exact .lst ((wo_ins hx).1 hs) (dpAll_wo' hx ds _ ha)
  | .tuple ds, _, h => by
    cases h with
    | tup hs ha => exact .tup ((wo_ins hx).2 hs) (dpAll_wo' hx ds _ ha)
  | .dict _, _, h => nomatch h
theorem dpAll_wo' {K : PySem.W.Frag} {H : Hp} {x C dx : Addr} {fs : List (Str × V)} (hx : H x = some (.ins C dx fs)) : ∀ (ds : List PyData) (vs : List V), DpAll K H vs ds → DpAll K (wo [x] H) vs ds
  | [], _, h => by cases h; exact .nil
  | d :: ds, _, h => by
    cases h with
    | cons h1 h2 => exact .cons (dp_wo hx d _ h1) (dpAll_wo' hx ds _ h2)
end
theorem dpAll_wo {K : PySem.W.Frag} {H : Hp} {x C dx : Addr} {fs : List (Str × V)} {ds : List PyData} {vs : List V} (h : DpAll K H vs ds) (hx : H x = some (.ins C dx fs)) : DpAll K (wo [x] H) vs ds := dpAll_wo' hx ds vs h
theorem word_things {d1 d2 : PyData} {T : Option (List PyData)} (h : wholeIn 1 6 d1 = false) : word d1 d2 T = some ("things" : Str) := if_pos h
theorem word_clubs {d1 d2 : PyData} {T : Option (List PyData)} (h1 : wholeIn 1 6 d1 = true) (h : wholeIn 1 6 d2 = false) : word d1 d2 T = some ("clubs" : Str) := by
  unfold word
  rw [if_neg (by rw [h1]; exact Bool.noConfusion), if_pos h]
theorem word_T {d1 d2 : PyData} {T : Option (List PyData)} (h1 : wholeIn 1 6 d1 = true) (h2 : wholeIn 1 6 d2 = true) : word d1 d2 T = wordT (intOf d1) (intOf d2) T := by
  unfold word
  rw [if_neg (by rw [h1]; exact Bool.noConfusion), if_neg (by rw [h2]; exact Bool.noConfusion)]
theorem wordT_tie {n m : Int} {ds : List PyData} (h : tiesOf n m ds = none) : wordT n m (some ds) = some ("tie" : Str) := by
  show (match tiesOf n m ds with | none => _ | some ts => _) = _
  rw [h]
theorem wordT_some {n m : Int} {ds : List PyData} {ts : List Tie} (h : tiesOf n m ds = some ts) : wordT n m (some ds) = if ¬ ts.Nodup then some ("double" : Str) else if 12 < ts.length then some ("many" : Str) else if TDm.joined n.toNat m.toNat ts = true then none else some ("joined" : Str) := by
  show (match tiesOf n m ds with | none => _ | some ts => _) = _
  rw [h]
def spInit (K : PySem.W.Frag) (C CB : Addr) : Sp := fun vs H Q E => ∃ (x dx : Addr) (v1 v2 v3 : V) (d1 d2 : PyData) (T : Option (List PyData)), vs = [.ref x, v1, v2, v3] ∧ H x = some (.ins C dx []) ∧ Dp K H v1 d1 ∧ Dp K H v2 d2 ∧ TArg K H v3 T ∧
  (∀ wd, word d1 d2 T = some wd → ∀ (d : Addr) (H' : Hp), H d = none → Keeps [x] H H' → H' d = some (.xd [("what", .str wd)]) → E (.ref CB) (some d) H') ∧
  (∀ (n m : Nat) (ds : List PyData) (ts us : List Tie) (H' : Hp), word d1 d2 T = none → d1 = .int n → d2 = .int m → T = some ds → tiesOf n m ds = some ts → us.Perm ts → TDm.Asc us → Keeps [x] H H' → WebAt K C H' x n m us → Q .non H')
section
variable {P : Program} {w : World} {K : PySem.W.Frag} {mg : Str → Option Value} {base : Heap} {f : Addr} {fd : FuncData}
theorem scInit : FnScope ["self", "things", "clubs", "ties", "kept", "entry"] ["self", "things", "clubs", "ties"] (C8.fnScope sInit) := C8.fnScope_by (by decide +kernel)
theorem ok_init {C CB : Addr} (B : Blt mg) (F : C8.Fun K "__init__" "Web.__init__" sInit f fd) (T : WebTxt K mg C) (EW : ExcW P w K mg base "BadWeb" CB)
    (cW : C8.Cal P w K mg base 1 "is_whole" (spIsWhole K) []) (cS : C8.Cal P w K mg base 1 "is_sequence" (spIsSeq K) []) (cC : C8.Cal P w K mg base 2 "is_couple" (spIsCouple K) []) (cN : C8.Cal P w K mg base 1 "count_pieces" (spCount K) []) :
    FnOk P w K mg base (L2.CX P w) 3 f fd ["self", "things", "clubs", "ties"] (spInit K C CB) := by
  refine fnX F scInit (fun vs H Q E h => ?_) (fun cdv A outer s H vs Q E hr h => ?_)
  · obtain ⟨x, dx, v1, v2, v3, d1, d2, T, rfl, _⟩ := h
    rfl
  · obtain ⟨x, dx, v1, v2, v3, d1, d2, T', rfl, hx, hd1, hd2, hT, kE, kQ⟩ := h
    have nd := scInit.nd
    refine ⟨_, pss_cons (ps_if (pt_not (pt_val (C8.pe_c cW hr (by decide) (by rfl) (pa_cons (pv 1) (pa_cons pe_int (pa_cons pe_int pa_nil)))))) (pss_one (ps_raiseW rfl EW hr (takes_of rfl rfl rfl rfl) (by rfl))) pss_nil)
      (pss_cons (ps_if (pt_not (pt_val (C8.pe_c cW hr (by decide) (by rfl) (pa_cons (pv 2) (pa_cons pe_int (pa_cons pe_int pa_nil)))))) (pss_one (ps_raiseW rfl EW hr (takes_of rfl rfl rfl rfl) (by rfl))) pss_nil)
      (pss_cons (ps_if (pt_not (pt_val (C8.pe_c cS hr (by decide) (by rfl) (pa_cons (pv 3) pa_nil)))) (pss_one (ps_raiseW rfl EW hr (takes_of rfl rfl rfl rfl) (by rfl))) pss_nil)
      (pss_cons (ps_set (i := 4) nd rfl (.inl rfl) (pe_lst pa_nil))
      (pss_cons (ps_for (passes_of rfl) rfl (pi_seq (pv 3)) (pg_name (i := 5) nd rfl (.inl rfl))
        (pss_cons (ps_if (PW.pt (pw_or (pt_not (pt_val (C8.pe_c cC hr (by decide) (by rfl) (pa_cons (pv 5) pa_nil))))
            (pw_or (pt_not (pt_val (C8.pe_c cW hr (by decide) (by rfl) (pa_cons (pe_ix ix_seq (pv 5) pe_int (fun _ _ => rfl)) (pa_cons pe_int (pa_cons (pe_op op_sub (pv 1) pe_int) pa_nil))))))
            (pw_or1 (pt_not (pt_val (C8.pe_c cW hr (by decide) (by rfl) (pa_cons (pe_ix ix_seq (pv 5) pe_int (fun _ _ => rfl)) (pa_cons pe_int (pa_cons (pe_op op_sub (pv 2) pe_int) pa_nil))))))))))
          (pss_one (ps_raiseW rfl EW hr (takes_of rfl rfl rfl rfl) (by rfl))) pss_nil)
        (pss_one (ps_expr (pe_bm PySem.F.plainAttrs_list PySem.F.slot_list_append PySem.F.type_list_append mt_append (pv 4) (pa_cons (pe_tup (pa_cons (pe_ix ix_seq (pv 5) pe_int (fun _ _ => rfl)) (pa_cons (pe_ix ix_seq (pv 5) pe_int (fun _ _ => rfl)) pa_nil))) pa_nil))))))
      (pss_cons (ps_if (pt_cmpR op_ne (pe_callB call_len_setT (by rfl) B.len PySem.boot_len (pa_cons (pe_callTy (cr_setOfT rfl hr.units) (by rfl) B.set (by decide +kernel) (pa_cons (pv 4) pa_nil)) pa_nil)) (pe_callB call_len_seq (by rfl) B.len PySem.boot_len (pa_cons (pv 4) pa_nil)) (nomark _))
          (pss_one (ps_raiseW rfl EW hr (takes_of rfl rfl rfl rfl) (by rfl))) pss_nil)
      (pss_cons (ps_if (pt_cmpR op_gt (pe_callB call_len_seq (by rfl) B.len PySem.boot_len (pa_cons (pv 4) pa_nil)) pe_int (nomark _))
          (pss_one (ps_raiseW rfl EW hr (takes_of rfl rfl rfl rfl) (by rfl))) pss_nil)
      (pss_cons (ps_fld (pv 0) (pv 1) rfl)
      (C8.pss_cut (ps_fld (pv 0) (pv 2) rfl)
      (pss_cons (ps_fld (pv 0) (pe_callTy call_tuple_of (by rfl) B.tuple (by decide +kernel) (pa_cons (pe_callB (cr_sortT (d := 2) (B := 64) (by decide)) (by rfl) B.sorted (by decide +kernel) (pa_cons (pv 4) pa_nil)) pa_nil)) rfl)
      (pss_one (ps_if (pt_cmpR op_ne (C8.pe_c cN hr (by decide) (by rfl) (pa_cons (pv 1) (pa_cons (pv 2) (pa_cons (pe_fld (pv 0) rfl) pa_nil)))) pe_int (nomark _))
          (pss_one (ps_raiseW rfl EW hr (takes_of rfl rfl rfl rfl) (by rfl))) pss_nil))))))))))), ?_⟩
    repeat walk_at "td"
    refine ⟨_, _, _, _, rfl, hd1, ?_⟩
    repeat walk_at "td"
    cases w1 : wholeIn 1 6 d1 with
    | false => exact iteT fun d H2 nd' sm hd => kE _ (word_things w1) d H2 nd' (Keeps.of sm) hd
    | true =>
    obtain ⟨i, rfl, i1, i6⟩ := wholeIn_int w1
    obtain ⟨n, rfl⟩ : ∃ n : Nat, i = n := ⟨i.toNat, by omega⟩
    cases hd1
    refine iteF ?_
    repeat walk_at "td"
    refine ⟨_, _, _, _, rfl, hd2, ?_⟩
    repeat walk_at "td"
    cases w2 : wholeIn 1 6 d2 with
    | false => exact iteT fun d H2 nd' sm hd => kE _ (word_clubs w1 w2) d H2 nd' (Keeps.of sm) hd
    | true =>
    obtain ⟨j, rfl, j1, j6⟩ := wholeIn_int w2
    obtain ⟨m, rfl⟩ : ∃ m : Nat, j = m := ⟨j.toNat, by omega⟩
    cases hd2
    refine iteF ?_
    repeat walk_at "td"
    cases hT with
    | no ht hk =>
      refine ⟨_, _, _, rfl, ht, hk, fun H1 sm1 => ?_⟩
      repeat walk_at "td"
      exact fun d H2 nd' sm hd => kE _ (word_T w1 w2) d H2 ((Keeps.of (S := []) sm1).free nd' (by simp)) (Keeps.of fun b o e => sm b o (sm1 b o e)) hd
    | @seq a xs ds hq hds hlen =>
    obtain ⟨ty, hty, hkt⟩ : ∃ ty, TyX K H (.ref a) ty ∧ PySem.W.kitAny K ty [.type "list", .type "tuple"] = some true := by
      rcases hq with h | h
      · exact ⟨_, dp_ty (Dp.lst h hds), kit_lt (.list ds)⟩
      · exact ⟨_, dp_ty (Dp.tup h hds), kit_lt (.tuple ds)⟩
    refine ⟨_, _, _, rfl, hty, hkt, fun H1 sm1 => ?_⟩
    repeat walk_at "td"
    refine ⟨Nat.zero_le _, fun p np => ?_⟩
    have np0 : H p = none := (Keeps.of (S := []) sm1).free np (by simp)
    have wT : word (.int n) (.int m) (some ds) = wordT n m (some ds) := word_T w1 w2
    repeat walk_at "td"
    have hx1 : H1 x = some (.ins C dx []) := sm1 _ _ hx
    have inK : ∀ {ts : List Tie}, tiesOf n m ds = some ts → ∀ t ∈ ts, TDm.InR n m t := fun h => tiesOf_inR h
    refine seq_loop (K := K) (a := a) (xs := xs) (H0 := H) hq (fun i σ' H' => ∃ (e : Option V) (xs' : List V) (ts' : List Tie), σ' = [some (.ref x), some (.int n), some (.int m), some (.ref a), some (.ref p), e] ∧ Same H1 H' ∧ H' p = some (.lst xs') ∧
        DpAll K (wo [p] H') xs' (ts'.map tieD) ∧ tiesOf n m (ds.take i) = some ts')
      ⟨none, [], [], rfl, (Keeps.new (S := []) np).same, upd_same, .nil, rfl⟩ (fun i σ' H' ⟨_, _, _, _, sm, _⟩ b o e => sm b o (sm1 b o e)) ?_ ?_
    · rintro i y σ' H' hy ⟨e0, xs', ts', rfl, sm, hp, hts, htake⟩
      obtain ⟨d, hd, hdp⟩ := hds.get hy
      have sm0 : Same H H' := fun b o e => sm b o (sm1 b o e)
      have hil : i < ds.length := (List.getElem?_eq_some_iff.mp hd).1
      have bad : tieOf n m d = none → word (.int n) (.int m) (some ds) = some ("tie" : Str) := fun h => by
        rw [wT, wordT_tie (tiesOf_bad (List.mem_of_getElem? hd) h)]
      repeat walk_at "td"
      refine ⟨_, _, rfl, hdp.sm sm0, fun H2 sm2 => ?_⟩
      have sm02 : Same H H2 := fun b o e => sm2 b o (sm0 b o e)
      repeat walk_at "td"
      cases ip : isPair d with
      | false =>
        refine iteT ?_
        exact fun d' H3 nd' sm3 hd3 => kE _ (bad (tieOf_nopair ip)) d' H3 ((Keeps.of (S := []) sm02).free nd' (by simp)) (Keeps.of fun b o e => sm3 b o (sm02 b o e)) hd3
      | true =>
      refine iteF ?_
      obtain ⟨pp, va, vb, da, db, rfl, hpp, hda, hdb, tie_eq⟩ := dp_pair hdp ip
      rw [tie_eq] at bad
      have hpp2 : SqL K H2 pp [va, vb] ∨ SqT K H2 pp [va, vb] := hpp.elim (fun h => .inl (h.sm sm02)) fun h => .inr (h.sm sm02)
      repeat walk_at "td"
      refine rix_seq hpp2 rfl ?_
      repeat walk_at "td"
      refine ⟨_, _, _, _, rfl, hda.sm sm02, ?_⟩
      repeat walk_at "td"
      cases w3 : wholeIn 0 (n - 1) da with
      | false =>
        refine iteT ?_
        exact fun d' H3 nd' sm3 hd3 => kE _ (bad (tieOf_none1 w3)) d' H3 ((Keeps.of (S := []) sm02).free nd' (by simp)) (Keeps.of fun b o e => sm3 b o (sm02 b o e)) hd3
      | true =>
      refine iteF ?_
      repeat walk_at "td"
      refine rix_seq hpp2 rfl ?_
      repeat walk_at "td"
      refine ⟨_, _, _, _, rfl, hdb.sm sm02, ?_⟩
      repeat walk_at "td"
      cases w4 : wholeIn 0 (m - 1) db with
      | false =>
        refine iteT ?_
        exact fun d' H3 nd' sm3 hd3 => kE _ (bad (tieOf_none2 w4)) d' H3 ((Keeps.of (S := []) sm02).free nd' (by simp)) (Keeps.of fun b o e => sm3 b o (sm02 b o e)) hd3
      | true =>
      refine iteF ?_
      have hp2 : H2 p = some (.lst xs') := sm2 _ _ hp
      obtain ⟨ia, rfl, _, _⟩ := wholeIn_int w3
      obtain ⟨ib, rfl, _, _⟩ := wholeIn_int w4
      cases hda
      cases hdb
      repeat walk_at "td"
      refine rix_seq hpp2 rfl ?_
      repeat walk_at "td"
      refine rix_seq hpp2 rfl ?_
      repeat walk_at "td"
      refine ⟨two_ok, fun q nq => ?_⟩
      have npq : p ≠ q := ne_of_none hp2 nq
      refine ⟨p, xs', _, rfl, rfl, by rw [upd_ne npq]; exact hp2, ?_, ?_⟩
      · have e1 := hts.length
        rw [List.length_map, tiesOf_len htake, List.length_take] at e1
        exact small12 (by omega)
      · have kp : Keeps [p] H' (upd (upd H2 q (.tup [.int ia, .int ib])) p (.lst (xs' ++ [.ref q]))) := ((Keeps.of sm2).new' nq).mut' (by simp)
        refine ⟨_, xs' ++ [.ref q], ts' ++ [(ia, ib)], rfl, ?_, upd_same, ?_, ?_⟩
        · exact (((Keeps.of (S := []) (fun b o e => sm2 b o (sm b o e))).new' nq).late np).same
        · rw [List.map_append]
          refine (hts.sm kp.wo).append (.cons (Dp.mkTie (SqT.of ?_)) .nil)
          rw [wo_out (by simpa using npq.symm), upd_ne npq.symm, upd_same]
          rfl
        · rw [take_more hd]
          refine tiesOf_snoc htake ?_
          rw [tie_eq]
          exact tieOf_some w3 w4
    · rintro σ' H' ⟨e0, xs', ts, rfl, sm, hp, hts, htake⟩
      have sm0 : Same H H' := fun b o e => sm b o (sm1 b o e)
      have e1 : ds.take xs.length = ds := by rw [hds.length, List.take_length]
      rw [e1] at htake
      have hlts : ts.length = ds.length := tiesOf_len htake
      have hlx : xs'.length = ts.length := by rw [hts.length, List.length_map]
      have w3 := wordT_some htake
      rw [Int.toNat_natCast, Int.toNat_natCast] at w3
      rw [← wT] at w3
      have htsH : DpAll K H' xs' (ts.map tieD) := hts.sm wo_same
      have inr := inK htake
      obtain ⟨ks, ek1, ek2, ek3⟩ := dpAll_refs htsH
      repeat walk_at "td"
      refine ⟨p, ks, rfl, by rw [← ek1]; exact SqL.of hp, ek3, by rw [← List.length_map (f := fun p : Addr × List Int => V.ref p.1), ← ek1, hlx]; omega, fun a' L na' l1 l2 => ?_⟩
      repeat walk_at "td"
      refine ⟨_, L, rfl, upd_same, fun ndL => ?_⟩
      have sa : Same H' (upd H' a' (SetTO P w a' L)) := (Keeps.new (S := []) na').same
      have hpa : upd H' a' (SetTO P w a' L) p = some (.lst xs') := sa _ _ hp
      have sa0 : Same H (upd H' a' (SetTO P w a' L)) := fun b o e => sa b o (sm0 b o e)
      have hLk := set_len ek2 l1 l2 ndL
      have ekl : ks.length = xs'.length := by rw [ek1, List.length_map]
      repeat walk_at "td"
      refine ⟨_, _, rfl, .inl (SqL.of hpa), ?_⟩
      repeat walk_at "td"
      refine iteDN (fun c => ?_) (fun c => ?_)
      · refine fun d' H3 nd' sm3 hd3 => kE "double" ?_ d' H3 ((Keeps.of (S := []) sa0).free nd' (by simp)) (Keeps.of fun b o e => sm3 b o (sa0 b o e)) hd3
        rw [w3, if_pos fun h => c ?_]
        rw [hLk.mpr h, ekl]
      have ndts : ts.Nodup := hLk.mp (by rw [ekl]; exact Int.ofNat.inj (V.int.inj c))
      rw [if_neg (fun h => h ndts)] at w3
      repeat walk_at "td"
      refine ⟨_, _, rfl, .inl (SqL.of hpa), ?_⟩
      repeat walk_at "td"
      refine iteD (fun c => ?_) (fun c => ?_)
      · refine fun d' H3 nd' sm3 hd3 => kE "many" ?_ d' H3 ((Keeps.of (S := []) sa0).free nd' (by simp)) (Keeps.of fun b o e => sm3 b o (sa0 b o e)) hd3
        rw [w3, if_pos (by omega)]
      rw [if_neg (by omega)] at w3
      have hxa : upd H' a' (SetTO P w a' L) x = some (.ins C dx []) := sa0 _ _ hx
      repeat walk_at "td"
      refine ⟨x, C, dx, _, rfl, hxa, T.cl, T.nT, (by show 0 < 1000; decide), ?_⟩
      repeat walk_at "td"
      have npx : p ≠ x := fresh_ne np0 hx
      refine ⟨fun σ' Hb => σ' = [some (.ref x), some (.int n), some (.int m), some (.ref a), some (.ref p), e0] ∧ Keeps [x] H Hb ∧ Hb p = some (.lst xs') ∧ Hb x = some (.ins C dx (putF "clubs" (.int m) (putF "things" (.int n) []))) ∧ DpAll K (wo [x] Hb) xs' (ts.map tieD), ?_, ?_⟩
      · repeat walk_at "td"
        refine ⟨x, C, dx, _, rfl, upd_same, T.cl, T.nC, (by show 1 < 1000; decide), ?_⟩
        have kb : Keeps [x] (upd H' a' (SetTO P w a' L)) (upd (upd (upd H' a' (SetTO P w a' L)) x (.ins C dx (putF "things" (.int n) []))) x (.ins C dx (putF "clubs" (.int m) (putF "things" (.int n) [])))) := (Keeps.mut (by simp)).mut' (by simp)
        refine ⟨rfl, (Keeps.of sa0).trans kb, kb _ _ (by simpa using npx) hpa, upd_same, ?_⟩
        refine DpAll.sm (H := wo [x] (upd H' a' (SetTO P w a' L))) ?_ kb.wo
        refine DpAll.sm (H := wo [x] H') ?_ (Keeps.of sa).wo
        exact dpAll_wo htsH (sm0 _ _ hx)
      rintro σ' Hb ⟨rfl, kHb, hpb, hxb, htb⟩
      repeat walk_at "td"
      have htb' : DpAll K Hb xs' (ts.map tieD) := htb.sm wo_same
      refine ⟨p, xs', rfl, SqL.of hpb, by omega, fun y hy => ?_, fun ys q perm pw nq => ?_⟩
      · obtain ⟨i, hi, e⟩ := List.getElem_of_mem hy
        obtain ⟨d, hd, hdp⟩ := htb'.get (List.getElem?_eq_getElem hi)
        rw [List.getElem?_map] at hd
        cases et : ts[i]? with
        | none => rw [et] at hd; cases hd
        | some t =>
          rw [et] at hd
          have ed : tieD t = d := Option.some.inj hd
          rw [← ed] at hdp
          obtain ⟨pt, ept, hpt⟩ := hdp.tie
          obtain ⟨r1, r2, r3, r4⟩ := inr t (List.mem_of_getElem? et)
          refine ⟨[t.1, t.2], ⟨pt, by rw [← e, ept], hpt⟩, rfl, fun z hz => ?_⟩
          rcases List.mem_cons.mp hz with e | hz
          · rw [e]; omega
          · rw [List.mem_singleton.mp hz]; omega
      obtain ⟨us, pus, hus⟩ := dpAll_perm perm htb
      have inru : ∀ t ∈ us, TDm.InR n m t := fun t ht => inr t (pus.mem_iff.mp ht)
      have asc : TDm.Asc us := asc_of (hus.sm wo_same) (fun t ht => by
        obtain ⟨r1, r2, r3, r4⟩ := inru t ht
        exact ⟨r1, by omega, r3, by omega⟩) pw
      repeat walk_at "td"
      refine ⟨q, ys, rfl, .inl ⟨SqL.of upd_same, fun l nl => ?_⟩⟩
      repeat walk_at "td"
      have nqx : q ≠ x := fresh_ne nq hxb
      have nlx : l ≠ x := by
        refine fresh_ne nl (o := .ins C dx (putF "clubs" (.int m) (putF "things" (.int n) []))) ?_
        rw [upd_ne nqx.symm]
        exact hxb
      have hxc : upd (upd Hb q (.lst ys)) l (.tup ys) x = some (.ins C dx (putF "clubs" (.int m) (putF "things" (.int n) []))) := by
        rw [upd_ne nlx.symm, upd_ne nqx.symm]
        exact hxb
      refine ⟨x, C, dx, _, rfl, hxc, T.cl, T.nS, (by show 2 < 1000; decide), ?_⟩
      repeat walk_at "td"
      have kc : Keeps [x] Hb (upd (upd (upd Hb q (.lst ys)) l (.tup ys)) x (.ins C dx (webF n m l))) := ((Keeps.new nq).new' nl).mut' (by simp)
      have hxd : upd (upd (upd Hb q (.lst ys)) l (.tup ys)) x (.ins C dx (webF n m l)) x = some (.ins C dx (webF n m l)) := upd_same
      have hld : SqT K (upd (upd (upd Hb q (.lst ys)) l (.tup ys)) x (.ins C dx (webF n m l))) l ys := SqT.of (by rw [upd_ne nlx, upd_same])
      refine ⟨x, C, dx, _, .ref l, rfl, hxd, T.cl, T.nS, webF_ties n m l, ?_⟩
      repeat walk_at "td"
      have husd : DpAll K (upd (upd (upd Hb q (.lst ys)) l (.tup ys)) x (.ins C dx (webF n m l))) ys (us.map tieD) := (hus.sm kc.wo).sm wo_same
      refine ⟨n, m, us, l, ys, rfl, by omega, by omega, hld, husd, inru, fun H7 sm7 => ?_⟩
      have k7 : Keeps [x] H H7 := (kHb.trans kc).trans (Keeps.of sm7)
      have hn0 : TDm.marks n m us ≠ [] := fun e => by
        have := TDm.len_marks n m us
        rw [e] at this
        simp at this
        omega
      have hj : TDm.joined n m ts = TDm.joined n m us := TDm.joined_mem inr fun t => pus.mem_iff.symm
      have hcard := TDm.card_one hn0
      repeat walk_at "td"
      refine iteDN (fun c => ?_) (fun c => ?_)
      · refine fun d' H3 nd' sm3 hd3 => kE "joined" ?_ d' H3 (k7.free nd' (fun z => ?_)) (k7.trans (Keeps.of sm3)) hd3
        · rw [w3, if_neg]
          rw [hj]
          intro h
          have := hcard.mpr h
          exact c (by rw [this]; rfl)
        · have e : d' = x := by simpa using z
          rw [e, sm7 _ _ hxd] at nd'
          cases nd'
      · refine kQ n m ds ts us H7 ?_ rfl rfl rfl htake pus asc k7 ⟨dx, l, ys, sm7 _ _ hxd, hld.sm sm7, husd.sm sm7⟩
        have h1 : TDm.card (TDm.marks n m us) = 1 := Int.ofNat.inj (V.int.inj c)
        rw [w3, if_pos]
        rw [hj]
        exact hcard.mp h1
end
end L2.TD
namespace L2.TD
open PySem PySem.Spec PyProof.Rows
local macro_rules | `(tactic| walk_at "td_side") => `(tactic| first
  | ((with_reducible show CMul _ _); refine Or.inr ⟨?_, ?_⟩ <;> decide)
  | ((with_reducible show CDiv _ _); refine ⟨?_, ?_⟩ <;> decide)
  | ((with_reducible show CPow _ _); refine ⟨?_, ?_, ?_⟩ <;> decide)
  | (show (0 : Int) < _; first | decide | omega)
  | ((with_reducible show scal _ _ = true); rfl)
  | ((show tyV _ "list" _ _); exact Or.inl ⟨rfl, _, SqL.of (by first | exact upd_same | assumption)⟩))
local macro_rules | `(tactic| walk_at "td") => `(tactic| first
  | (refine ⟨_, _, rfl, rfl, ?_⟩)
  | (refine ⟨_, rfl, ?_⟩)
  | (refine Or.inl ⟨_, rfl, ?_⟩)
  | (refine And.intro ?side ?_; (case side => walk_at "td_side"))
  | (refine ⟨_, _, _, _, rfl, rfl, SqL.of (by first | exact upd_same | assumption), by rfl, ?_⟩)
  | (refine ⟨_, _, _, _, rfl, rfl, (by first | exact upd_same | assumption), by rfl, ?_⟩))
/-! checks, clubs of a thing, things of a club; ==, iteration, spare -/
abbrev sCheckT : Stmt := top 12
abbrev sCheckC : Stmt := top 13
abbrev sClubsOf : Stmt := top 14
abbrev sThingsOf : Stmt := top 15
/-- a def that may raise, to be called by its name -/
structure CalX (P : Program) (w : World) (K : PySem.W.Frag) (mg : Str → Option Value) (base : Heap) (k : Nat) (x : Str) (sp : Sp) : Prop where
  ex : ∃ (f : Addr) (fd : FuncData) (ps : List Str), FnOk P w K mg base (L2.CX P w) k f fd ps sp ∧ mg x = some (.ref f) ∧ PySem.W.keepIn K (.ref f) = true ∧ Binds K fd ps []
theorem calX {P : Program} {w : World} {K : PySem.W.Frag} {mg : Str → Option Value} {base : Heap} {x : Str} {st : Stmt} {f : Addr} {fd : FuncData} {ps : List Str} {k : Nat} {sp : Sp} (F : C8.Def K mg x st f fd) (b : Binds K fd ps [])
    (h : FnOk P w K mg base (L2.CX P w) k f fd ps sp) : CalX P w K mg base k x sp := ⟨f, fd, ps, h, F.mgf, F.kp, b⟩
section
variable {X : Cx} {k j : Nat} {x : Str} {sp : Sp} {p pos : Pos} {e : Expr} {es : List Expr} {t : TA}
theorem pe_cx {E : XK} (c : CalX X.prog X.w X.K X.mg X.base k x sp) (hr : Room j X.A) (hk : k ≤ j) (hg : Gl X x) (hx : Passes (L2.CX X.prog X.w) X E) (ha : PA X (e :: es) t)
    (hdb : (x == ("__debug__" : Str)) = false := by decide) (he : starEach (e :: es) X.env = (false, eval e X.env) :: starEach es X.env := by rfl) (hpl : (backTo pos (starEach es X.env)).any (·.1) = false := by rfl) :
    PE X (.Call (.Name x p) (e :: es) [] pos) (tCall sp [] E t) := by
  obtain ⟨f, fd, ps, F, hm, kp, b⟩ := c.ex
  exact pe_call F (hr.mono hk) hg hm kp b .nil hx ha hdb he hpl
theorem pe_cxS {E : St → XK} (c : CalX X.prog X.w X.K X.mg X.base k x sp) (hr : Room j X.A) (hk : k ≤ j) (hg : Gl X x) (hx : ∀ σ, PassesAt (L2.CX X.prog X.w) X σ (E σ)) (ha : PA X (e :: es) t)
    (hdb : (x == ("__debug__" : Str)) = false := by decide) (he : starEach (e :: es) X.env = (false, eval e X.env) :: starEach es X.env := by rfl) (hpl : (backTo pos (starEach es X.env)).any (·.1) = false := by rfl) :
    PE X (.Call (.Name x p) (e :: es) [] pos) (tCallS sp E t) := by
  obtain ⟨f, fd, ps, F, hm, kp, b⟩ := c.ex
  exact pe_callS F (hr.mono hk) hg hm kp b hx ha hdb he hpl
end
section
variable {P : Program} {w : World} {K : PySem.W.Frag} {mg : Str → Option Value} {base : Heap} {f : Addr} {fd : FuncData}
def spCheckT (K : PySem.W.Frag) (C CT : Addr) : Sp := fun vs H Q E => ∃ (x : Addr) (n m : Nat) (us : List Tie) (v : V) (d : PyData), vs = [.ref x, v] ∧ WebAt K C H x n m us ∧ Dp K H v d ∧
  (wholeIn 0 (n - 1) d = true → Q v H) ∧ (wholeIn 0 (n - 1) d = false → E (.ref CT) none H)
theorem scCheckT : FnScope ["web", "thing"] ["web", "thing"] (C8.fnScope sCheckT) := C8.fnScope_by (by decide +kernel)
theorem ok_checkT {C CT : Addr} (F : C8.Def K mg "check_thing" sCheckT f fd) (b : Binds K fd ["web", "thing"] []) (T : WebTxt K mg C) (ET : Exc0 P w K mg base "BadThing" CT)
    (cW : C8.Cal P w K mg base 1 "is_whole" (spIsWhole K) []) : CalX P w K mg base 3 "check_thing" (spCheckT K C CT) := by
  refine calX F b (fnX F.fn scCheckT (fun vs H Q E h => ?_) (fun cdv A outer s H vs Q E hr h => ?_))
  · obtain ⟨x, n, m, us, v, d, rfl, _⟩ := h
    rfl
  · obtain ⟨x, n, m, us, v, d, rfl, ⟨dx, t, xs, hx, ht, hd⟩, hv, kQ, kE⟩ := h
    refine ⟨_, pss_cons (ps_if (pt_not (pt_val (C8.pe_c cW hr (by decide) (by rfl) (pa_cons (pv 1) (pa_cons pe_int (pa_cons (pe_op op_sub (pe_fld (pv 0) rfl) pe_int) pa_nil)))))) (pss_one (ps_raise0 rfl ET hr (takes_of rfl rfl rfl rfl) (by rfl))) pss_nil)
      (pss_one (ps_ret (pv 1))), ?_⟩
    repeat walk_at "td"
    refine ⟨x, C, dx, _, .int n, rfl, hx, T.cl, T.nT, webF_things n m t, ?_⟩
    repeat walk_at "td"
    refine ⟨_, _, _, _, rfl, hv, ?_⟩
    repeat walk_at "td"
    cases wi : wholeIn 0 (n - 1) d with
    | false => exact iteT (kE wi)
    | true =>
      refine iteF ?_
      repeat walk_at "td"
      exact kQ wi
/-- the clubs of thing i -/
def clubsV (us : List Tie) (i : Int) : List V := (us.filter fun t => decide (t.1 = i)).map fun t => V.int t.2
def spClubsOf (K : PySem.W.Frag) (C CT : Addr) : Sp := fun vs H Q E => ∃ (x : Addr) (n m : Nat) (us : List Tie) (v : V) (d : PyData), vs = [.ref x, v] ∧ WebAt K C H x n m us ∧ us.length ≤ 1000 ∧ Dp K H v d ∧
  (∀ i, wholeIn 0 (n - 1) d = true → d = .int i → ∀ (l : Addr) (H' : Hp), Same H H' → H' l = some (.tup (clubsV us i)) → Q (.ref l) H') ∧ (wholeIn 0 (n - 1) d = false → E (.ref CT) none H)
abbrev nClubsOf : List Str := ["web", "thing", "kept", "tie"]
theorem scClubsOf : FnScope nClubsOf ["web", "thing"] (C8.fnScope sClubsOf) := C8.fnScope_by (by decide +kernel)
theorem ok_clubsOf {C CT : Addr} (B : Blt mg) (F : C8.Def K mg "clubs_of" sClubsOf f fd) (b : Binds K fd ["web", "thing"] []) (T : WebTxt K mg C)
    (cT : CalX P w K mg base 3 "check_thing" (spCheckT K C CT)) : CalX P w K mg base 4 "clubs_of" (spClubsOf K C CT) := by
  refine calX F b (fnX F.fn scClubsOf (fun vs H Q E h => ?_) (fun cdv A outer s H vs Q E hr h => ?_))
  · obtain ⟨x, n, m, us, v, d, rfl, _⟩ := h
    rfl
  · obtain ⟨x, n, m, us, v, d, rfl, hw, hlen, hv, kQ, kE⟩ := h
    have nd := scClubsOf.nd
    refine ⟨_, pss_cons (ps_set (i := 2) nd rfl (.inr rfl) (pe_cx cT hr (by decide) (by rfl) (passes_call (takes_of rfl rfl rfl rfl) (fun _ _ _ _ h => h)) (pa_cons (pv 0) (pa_cons (pv 1) pa_nil))))
      (pss_one (ps_ret (pe_callTy call_tuple_of (by rfl) B.tuple (by decide +kernel) (pa_cons (pe_lc (own := [("tie", 3)]) (g := gName 3) (tt := tTest (tOp rEq (tOp (rIxT K) (tVar 3) (tC (.int 0))) (tVar 2))) (te := tOp (rIxT K) (tVar 3) (tC (.int 1))) rfl nd (pi_tup (pe_fld (pv 0) rfl)) (blkOk_by (N := nClubsOf) (sc := C8.fnScope sClubsOf) (by decide +kernel))
        (fun _ _ _ _ _ => pg_name (i := 3) nd rfl (.inl rfl)) (fun _ _ _ _ _ => pts_one (pt_cmpR op_eq (pe_ix ix_tup (pv 3) pe_int (fun _ _ => rfl)) (pv 2) (nomark _))) (fun _ _ _ _ _ => pe_ix ix_tup (pv 3) pe_int (fun _ _ => rfl))) pa_nil)))), ?_⟩
    repeat walk_at "td"
    refine ⟨x, n, m, us, v, d, rfl, hw, hv, fun wi => ?_, kE⟩
    obtain ⟨i, rfl, i0, i1⟩ := wholeIn_int wi
    cases hv
    obtain ⟨dx, t, xs, hx, ht, hd⟩ := hw
    repeat walk_at "td"
    refine ⟨x, C, dx, _, .ref t, rfl, hx, T.cl, T.nS, webF_ties n m t, ?_⟩
    repeat walk_at "td"
    refine ⟨⟨_, ht⟩, fun D nD => ?_⟩
    refine lc_tup (K := K) (a := t) (xs := xs) (fun j H2 => Same H H2 ∧ H2 D = some (.lst (clubsV (us.take j) i)))
      ⟨(Keeps.new (S := []) nD).same, upd_same⟩ (fun j H2 _ ⟨s1, _⟩ => ht.sm s1) ?_ ?_
    · rintro j y H2 hy ⟨s1, hD2⟩
      obtain ⟨e, he, hdp⟩ := hd.get hy
      obtain ⟨u, hu, rfl⟩ : ∃ u, us[j]? = some u ∧ e = tieD u := by
        rw [List.getElem?_map] at he
        cases q : us[j]? with
        | none => rw [q] at he; cases he
        | some u => rw [q] at he; exact ⟨u, rfl, (Option.some.inj he).symm⟩
      obtain ⟨pt, rfl, hpt⟩ := hdp.tie
      have hpt2 := hpt.sm s1
      refine ⟨rfl, ?_⟩
      repeat walk_at "td"
      refine iteD (fun c => ?_) (fun c => ?_)
      · repeat walk_at "td"
        refine ⟨_, hD2, ?_, ((Keeps.of (S := []) s1).late nD).same, ?_⟩
        · refine small12 (Nat.le_trans (?_ : _ ≤ us.length) (by omega))
          unfold clubsV
          rw [List.length_map]
          exact Nat.le_trans (List.length_filter_le _ _) (by rw [List.length_take]; omega)
        · rw [upd_same, take_more hu]
          unfold clubsV
          rw [List.filter_append, List.map_append, List.filter_cons_of_pos (by simpa using V.int.inj c)]
          rfl
      · refine ⟨s1, ?_⟩
        rw [hD2, take_more hu]
        unfold clubsV
        rw [List.filter_append, List.filter_cons_of_neg (by simpa using fun e => c (by rw [e]))]
        simp
    · rintro H2 ⟨s1, hD2⟩
      have e1 : us.take xs.length = us := by rw [hd.length, List.length_map, List.take_length]
      rw [e1] at hD2
      repeat walk_at "td"
      refine ⟨D, _, rfl, .inl ⟨SqL.of hD2, fun l nl => ?_⟩⟩
      exact kQ i wi rfl l _ (fun b o e => ((Keeps.new (S := []) nl).same) b o (s1 b o e)) upd_same
def spCheckC (K : PySem.W.Frag) (C CT : Addr) : Sp := fun vs H Q E => ∃ (x : Addr) (n m : Nat) (us : List Tie) (v : V) (d : PyData), vs = [.ref x, v] ∧ WebAt K C H x n m us ∧ Dp K H v d ∧
  (wholeIn 0 (m - 1) d = true → Q v H) ∧ (wholeIn 0 (m - 1) d = false → E (.ref CT) none H)
theorem scCheckC : FnScope ["web", "club"] ["web", "club"] (C8.fnScope sCheckC) := C8.fnScope_by (by decide +kernel)
theorem ok_checkC {C CT : Addr} (F : C8.Def K mg "check_club" sCheckC f fd) (b : Binds K fd ["web", "club"] []) (T : WebTxt K mg C) (ET : Exc0 P w K mg base "BadClub" CT)
    (cW : C8.Cal P w K mg base 1 "is_whole" (spIsWhole K) []) : CalX P w K mg base 3 "check_club" (spCheckC K C CT) := by
  refine calX F b (fnX F.fn scCheckC (fun vs H Q E h => ?_) (fun cdv A outer s H vs Q E hr h => ?_))
  · obtain ⟨x, n, m, us, v, d, rfl, _⟩ := h
    rfl
  · obtain ⟨x, n, m, us, v, d, rfl, ⟨dx, t, xs, hx, ht, hd⟩, hv, kQ, kE⟩ := h
    refine ⟨_, pss_cons (ps_if (pt_not (pt_val (C8.pe_c cW hr (by decide) (by rfl) (pa_cons (pv 1) (pa_cons pe_int (pa_cons (pe_op op_sub (pe_fld (pv 0) rfl) pe_int) pa_nil)))))) (pss_one (ps_raise0 rfl ET hr (takes_of rfl rfl rfl rfl) (by rfl))) pss_nil)
      (pss_one (ps_ret (pv 1))), ?_⟩
    repeat walk_at "td"
    refine ⟨x, C, dx, _, .int m, rfl, hx, T.cl, T.nC, webF_clubs n m t, ?_⟩
    repeat walk_at "td"
    refine ⟨_, _, _, _, rfl, hv, ?_⟩
    repeat walk_at "td"
    cases wi : wholeIn 0 (m - 1) d with
    | false => exact iteT (kE wi)
    | true =>
      refine iteF ?_
      repeat walk_at "td"
      exact kQ wi
/-- the things of club i -/
def thingsV (us : List Tie) (i : Int) : List V := (us.filter fun t => decide (t.2 = i)).map fun t => V.int t.1
def spThingsOf (K : PySem.W.Frag) (C CT : Addr) : Sp := fun vs H Q E => ∃ (x : Addr) (n m : Nat) (us : List Tie) (v : V) (d : PyData), vs = [.ref x, v] ∧ WebAt K C H x n m us ∧ us.length ≤ 1000 ∧ Dp K H v d ∧
  (∀ i, wholeIn 0 (m - 1) d = true → d = .int i → ∀ (l : Addr) (H' : Hp), Same H H' → H' l = some (.tup (thingsV us i)) → Q (.ref l) H') ∧ (wholeIn 0 (m - 1) d = false → E (.ref CT) none H)
abbrev nThingsOf : List Str := ["web", "club", "kept", "tie"]
theorem scThingsOf : FnScope nThingsOf ["web", "club"] (C8.fnScope sThingsOf) := C8.fnScope_by (by decide +kernel)
theorem ok_thingsOf {C CT : Addr} (B : Blt mg) (F : C8.Def K mg "things_of" sThingsOf f fd) (b : Binds K fd ["web", "club"] []) (T : WebTxt K mg C)
    (cT : CalX P w K mg base 3 "check_club" (spCheckC K C CT)) : CalX P w K mg base 4 "things_of" (spThingsOf K C CT) := by
  refine calX F b (fnX F.fn scThingsOf (fun vs H Q E h => ?_) (fun cdv A outer s H vs Q E hr h => ?_))
  · obtain ⟨x, n, m, us, v, d, rfl, _⟩ := h
    rfl
  · obtain ⟨x, n, m, us, v, d, rfl, hw, hlen, hv, kQ, kE⟩ := h
    have nd := scThingsOf.nd
    refine ⟨_, pss_cons (ps_set (i := 2) nd rfl (.inr rfl) (pe_cx cT hr (by decide) (by rfl) (passes_call (takes_of rfl rfl rfl rfl) (fun _ _ _ _ h => h)) (pa_cons (pv 0) (pa_cons (pv 1) pa_nil))))
      (pss_one (ps_ret (pe_callTy call_tuple_of (by rfl) B.tuple (by decide +kernel) (pa_cons (pe_lc (own := [("tie", 3)]) (g := gName 3) (tt := tTest (tOp rEq (tOp (rIxT K) (tVar 3) (tC (.int 1))) (tVar 2))) (te := tOp (rIxT K) (tVar 3) (tC (.int 0))) rfl nd (pi_tup (pe_fld (pv 0) rfl)) (blkOk_by (N := nThingsOf) (sc := C8.fnScope sThingsOf) (by decide +kernel))
        (fun _ _ _ _ _ => pg_name (i := 3) nd rfl (.inl rfl)) (fun _ _ _ _ _ => pts_one (pt_cmpR op_eq (pe_ix ix_tup (pv 3) pe_int (fun _ _ => rfl)) (pv 2) (nomark _))) (fun _ _ _ _ _ => pe_ix ix_tup (pv 3) pe_int (fun _ _ => rfl))) pa_nil)))), ?_⟩
    repeat walk_at "td"
    refine ⟨x, n, m, us, v, d, rfl, hw, hv, fun wi => ?_, kE⟩
    obtain ⟨i, rfl, i0, i1⟩ := wholeIn_int wi
    cases hv
    obtain ⟨dx, t, xs, hx, ht, hd⟩ := hw
    repeat walk_at "td"
    refine ⟨x, C, dx, _, .ref t, rfl, hx, T.cl, T.nS, webF_ties n m t, ?_⟩
    repeat walk_at "td"
    refine ⟨⟨_, ht⟩, fun D nD => ?_⟩
    refine lc_tup (K := K) (a := t) (xs := xs) (fun j H2 => Same H H2 ∧ H2 D = some (.lst (thingsV (us.take j) i)))
      ⟨(Keeps.new (S := []) nD).same, upd_same⟩ (fun j H2 _ ⟨s1, _⟩ => ht.sm s1) ?_ ?_
    · rintro j y H2 hy ⟨s1, hD2⟩
      obtain ⟨e, he, hdp⟩ := hd.get hy
      obtain ⟨u, hu, rfl⟩ : ∃ u, us[j]? = some u ∧ e = tieD u := by
        rw [List.getElem?_map] at he
        cases q : us[j]? with
        | none => rw [q] at he; cases he
        | some u => rw [q] at he; exact ⟨u, rfl, (Option.some.inj he).symm⟩
      obtain ⟨pt, rfl, hpt⟩ := hdp.tie
      have hpt2 := hpt.sm s1
      refine ⟨rfl, ?_⟩
      repeat walk_at "td"
      refine iteD (fun c => ?_) (fun c => ?_)
      · repeat walk_at "td"
        refine ⟨_, hD2, ?_, ((Keeps.of (S := []) s1).late nD).same, ?_⟩
        · refine small12 (Nat.le_trans (?_ : _ ≤ us.length) (by omega))
          unfold thingsV
          rw [List.length_map]
          exact Nat.le_trans (List.length_filter_le _ _) (by rw [List.length_take]; omega)
        · rw [upd_same, take_more hu]
          unfold thingsV
          rw [List.filter_append, List.map_append, List.filter_cons_of_pos (by simpa using V.int.inj c)]
          rfl
      · refine ⟨s1, ?_⟩
        rw [hD2, take_more hu]
        unfold thingsV
        rw [List.filter_append, List.filter_cons_of_neg (by simpa using fun e => c (by rw [e]))]
        simp
    · rintro H2 ⟨s1, hD2⟩
      have e1 : us.take xs.length = us := by rw [hd.length, List.length_map, List.take_length]
      rw [e1] at hD2
      repeat walk_at "td"
      refine ⟨D, _, rfl, .inl ⟨SqL.of hD2, fun l nl => ?_⟩⟩
      exact kQ i wi rfl l _ (fun b o e => ((Keeps.new (S := []) nl).same) b o (s1 b o e)) upd_same
end
end L2.TD
namespace L2.TD
open PySem PySem.Spec PyProof.Rows
local macro_rules | `(tactic| walk_at "td_side") => `(tactic| first
  | ((with_reducible show CMul _ _); refine Or.inr ⟨?_, ?_⟩ <;> decide)
  | ((with_reducible show CDiv _ _); refine ⟨?_, ?_⟩ <;> decide)
  | ((with_reducible show CPow _ _); refine ⟨?_, ?_, ?_⟩ <;> decide)
  | (show (0 : Int) < _; first | decide | omega)
  | ((with_reducible show scal _ _ = true); rfl)
  | ((show tyV _ "list" _ _); exact Or.inl ⟨rfl, _, SqL.of (by first | exact upd_same | assumption)⟩))
local macro_rules | `(tactic| walk_at "td") => `(tactic| first
  | (refine ⟨_, _, rfl, rfl, ?_⟩)
  | (refine ⟨_, rfl, ?_⟩)
  | (refine Or.inl ⟨_, rfl, ?_⟩)
  | (refine And.intro ?side ?_; (case side => walk_at "td_side"))
  | (refine ⟨_, _, _, _, rfl, rfl, SqL.of (by first | exact upd_same | assumption), by rfl, ?_⟩)
  | (refine ⟨_, _, _, _, rfl, rfl, (by first | exact upd_same | assumption), by rfl, ?_⟩))
/-! data laws; the web's ==, __iter__, spare -/
theorem eqv_tie (t u : Tie) : PyData.eqv (tieD t) (tieD u) = decide (t = u) := by
  obtain ⟨a, b⟩ := t
  obtain ⟨c, d⟩ := u
  show PyData.eqvAll [.int a, .int b] [.int c, .int d] = _
  show ((a == c) && ((b == d) && true)) = _
  rw [Bool.and_true, Bool.eq_iff_iff, Bool.and_eq_true, beq_iff_eq, beq_iff_eq, decide_eq_true_eq]
  constructor
  · rintro ⟨rfl, rfl⟩
    rfl
  · intro e
    cases e
    exact ⟨rfl, rfl⟩
theorem eqvAll_ties : ∀ ts us : List Tie, PyData.eqvAll (ts.map tieD) (us.map tieD) = decide (ts = us)
  | [], [] => rfl
  | [], u :: us => by
    show false = _
    exact (decide_eq_false (by intro h; cases h)).symm
  | t :: ts, [] => by
    show false = _
    exact (decide_eq_false (by intro h; cases h)).symm
  | t :: ts, u :: us => by
    show (PyData.eqv (tieD t) (tieD u) && PyData.eqvAll (ts.map tieD) (us.map tieD)) = _
    rw [eqv_tie, eqvAll_ties ts us, Bool.eq_iff_iff, Bool.and_eq_true, decide_eq_true_eq, decide_eq_true_eq, decide_eq_true_eq]
    constructor
    · rintro ⟨rfl, rfl⟩
      rfl
    · intro e
      cases e
      exact ⟨rfl, rfl⟩
theorem lay_ties : ∀ ts : List Tie, PyData.canLayAll0 (ts.map tieD) = true
  | [] => rfl
  | t :: ts => by
    show (true && PyData.canLayAll0 (ts.map tieD)) = true
    rw [lay_ties ts]
    rfl
theorem depth_ties : ∀ ts : List Tie, PyData.depthAll (ts.map tieD) ≤ 1
  | [] => by
    show 0 ≤ 1
    omega
  | t :: ts => by
    have ih := depth_ties ts
    show max (PyData.depth (tieD t)) (PyData.depthAll (ts.map tieD)) ≤ 1
    have e : PyData.depth (tieD t) = 1 := rfl
    rw [e]
    omega
theorem shaped_of {d : PyData} (h1 : d.canLay0 = true) (h2 : d.depth ≤ 64) : SeqAt.shaped d = true := by
  unfold SeqAt.shaped
  rw [h1, decide_eq_true h2]
  rfl
theorem shaped_tup (ts : List Tie) : SeqAt.shaped (.tuple (ts.map tieD)) = true := shaped_of (lay_ties ts) (by
  show PyData.depthAll (ts.map tieD) + 1 ≤ 64
  have := depth_ties ts
  omega)
theorem shaped_lst (ts : List Tie) : SeqAt.shaped (.list (ts.map tieD)) = true := shaped_of (lay_ties ts) (by
  show PyData.depthAll (ts.map tieD) + 1 ≤ 64
  have := depth_ties ts
  omega)
theorem shaped_tie (t : Tie) : SeqAt.shaped (tieD t) = true := shaped_of rfl (by show 1 ≤ 64; decide)
def trioD (n m : Nat) (ts : List Tie) : PyData := .tuple [.int n, .int m, .list (ts.map tieD)]
theorem shaped_trio (n m : Nat) (ts : List Tie) : SeqAt.shaped (trioD n m ts) = true := shaped_of (by
  show (true && (true && (PyData.canLayAll0 (ts.map tieD) && true))) = true
  rw [lay_ties]
  rfl) (by
  show max 0 (max 0 (max (PyData.depthAll (ts.map tieD) + 1) 0)) + 1 ≤ 64
  have := depth_ties ts
  omega)
theorem eqv_trio (n m n' m' : Nat) (ts us : List Tie) : PyData.eqv (trioD n m ts) (trioD n' m' us) = (decide (n = n') && (decide (m = m') && decide (ts = us))) := by
  show (((n : Int) == n') && (((m : Int) == m') && (PyData.eqvAll (ts.map tieD) (us.map tieD) && true))) = _
  rw [eqvAll_ties, Bool.and_true]
  have e1 : ((n : Int) == n') = decide (n = n') := by
    rw [Bool.eq_iff_iff, beq_iff_eq, decide_eq_true_eq]
    omega
  have e2 : ((m : Int) == m') = decide (m = m') := by
    rw [Bool.eq_iff_iff, beq_iff_eq, decide_eq_true_eq]
    omega
  rw [e1, e2]
/-- lists of numbers -/
theorem eqvAll_ints : ∀ is js : List Int, PyData.eqvAll (is.map PyData.int) (js.map PyData.int) = decide (is = js)
  | [], [] => rfl
  | [], u :: us => by
    show false = _
    exact (decide_eq_false (by intro h; cases h)).symm
  | t :: ts, [] => by
    show false = _
    exact (decide_eq_false (by intro h; cases h)).symm
  | t :: ts, u :: us => by
    show ((t == u) && PyData.eqvAll (ts.map PyData.int) (us.map PyData.int)) = _
    rw [eqvAll_ints ts us, Bool.eq_iff_iff, Bool.and_eq_true, beq_iff_eq, decide_eq_true_eq, decide_eq_true_eq]
    constructor
    · rintro ⟨rfl, rfl⟩
      rfl
    · intro e
      cases e
      exact ⟨rfl, rfl⟩
theorem lay_ints : ∀ ts : List Int, PyData.canLayAll0 (ts.map PyData.int) = true
  | [] => rfl
  | t :: ts => by
    show (true && PyData.canLayAll0 (ts.map PyData.int)) = true
    rw [lay_ints ts]
    rfl
theorem depth_ints : ∀ ts : List Int, PyData.depthAll (ts.map PyData.int) = 0
  | [] => rfl
  | t :: ts => by
    show max 0 (PyData.depthAll (ts.map PyData.int)) = 0
    rw [depth_ints ts]
    rfl
theorem shaped_ints (ts : List Int) : SeqAt.shaped (.tuple (ts.map PyData.int)) = true := shaped_of (lay_ints ts) (by
  show PyData.depthAll (ts.map PyData.int) + 1 ≤ 64
  rw [depth_ints]
  omega)
theorem dp_ints {K : PySem.W.Frag} {H : Hp} : ∀ is : List Int, DpAll K H (is.map V.int) (is.map PyData.int)
  | [] => .nil
  | i :: is => .cons (.int i) (dp_ints is)
section
variable {P : Program} {w : World} {K : PySem.W.Frag} {mg : Str → Option Value} {base : Heap} {f : Addr} {fd : FuncData}
theorem scIter : FnScope ["self"] ["self"] (C8.fnScope sIter) := C8.fnScope_by (by decide +kernel)
theorem ok_iter {C : Addr} (B : Blt mg) (F : C8.Fun K "__iter__" "Web.__iter__" sIter f fd) (T : WebTxt K mg C) : FnOk P w K mg base C8.CX0 1 f fd ["self"] (spIter K C) := by
  refine C8.fn0 F scIter (fun vs H Q E h => ?_) (fun cdv A outer s H vs Q E hr h => ?_)
  · obtain ⟨a, dx, fs, t, xs, rfl, _⟩ := h
    rfl
  · obtain ⟨a, dx, fs, t, xs, rfl, ha, hl, ht, k⟩ := h
    refine ⟨_, pss_one (ps_ret (pe_callB call_iterT (by rfl) B.iter (by decide +kernel) (pa_cons (pe_fld (pv 0) rfl) pa_nil))), ?_⟩
    repeat walk_at "td"
    refine ⟨a, C, dx, _, .ref t, rfl, ha, T.cl, T.nS, hl, ?_⟩
    exact ⟨t, xs, rfl, ht, k⟩
def spSpare (K : PySem.W.Frag) (C : Addr) : Sp := fun vs H Q _ => ∃ (x : Addr) (n m : Nat) (us : List Tie), vs = [.ref x] ∧ WebAt K C H x n m us ∧ Q (.int ((us.length : Int) - n - m + 1)) H
theorem scSpare : FnScope ["self"] ["self"] (C8.fnScope sSpare) := C8.fnScope_by (by decide +kernel)
theorem ok_spare {C : Addr} (B : Blt mg) (F : C8.Fun K "spare" "Web.spare" sSpare f fd) (T : WebTxt K mg C) : FnOk P w K mg base C8.CX0 1 f fd ["self"] (spSpare K C) := by
  refine C8.fn0 F scSpare (fun vs H Q E h => ?_) (fun cdv A outer s H vs Q E hr h => ?_)
  · obtain ⟨x, n, m, us, rfl, _⟩ := h
    rfl
  · obtain ⟨x, n, m, us, rfl, ⟨dx, t, xs, hx, ht, hd⟩, k⟩ := h
    refine ⟨_, pss_one (ps_ret (pe_op op_add (pe_op op_sub (pe_op op_sub (pe_callB call_len_seq (by rfl) B.len PySem.boot_len (pa_cons (pe_fld (pv 0) rfl) pa_nil)) (pe_fld (pv 0) rfl)) (pe_fld (pv 0) rfl)) pe_int)), ?_⟩
    have el : xs.length = us.length := by rw [hd.length, List.length_map]
    repeat walk_at "td"
    refine ⟨x, C, dx, _, .ref t, rfl, hx, T.cl, T.nS, webF_ties n m t, ?_⟩
    repeat walk_at "td"
    refine ⟨_, _, rfl, .inr ht, ?_⟩
    repeat walk_at "td"
    refine ⟨x, C, dx, _, .int n, rfl, hx, T.cl, T.nT, webF_things n m t, ?_⟩
    repeat walk_at "td"
    refine ⟨x, C, dx, _, .int m, rfl, hx, T.cl, T.nC, webF_clubs n m t, ?_⟩
    repeat walk_at "td"
    rw [← el] at k
    exact k
def spWebEq (K : PySem.W.Frag) (C : Addr) : Sp := fun vs H Q _ => ∃ (x y : Addr) (n m n' m' : Nat) (us us' : List Tie), vs = [.ref x, .ref y] ∧ WebAt K C H x n m us ∧ WebAt K C H y n' m' us' ∧ Q (.bl (decide (n = n') && (decide (m = m') && decide (us = us')))) H
theorem scEq : FnScope ["self", "other"] ["self", "other"] (C8.fnScope sEq) := C8.fnScope_by (by decide +kernel)
theorem ok_eq {C : Addr} (B : Blt mg) (F : C8.Fun K "__eq__" "Web.__eq__" sEq f fd) (T : WebTxt K mg C) (IC : C8.InsC K C) : FnOk P w K mg base C8.CX0 2 f fd ["self", "other"] (spWebEq K C) := by
  refine C8.fn0 F scEq (fun vs H Q E h => ?_) (fun cdv A outer s H vs Q E hr h => ?_)
  · obtain ⟨x, y, n, m, n', m', us, us', rfl, _⟩ := h
    rfl
  · obtain ⟨x, y, n, m, n', m', us, us', rfl, ⟨dx, t, xs, hx, ht, hd⟩, ⟨dy, t', ys, hy, ht', hd'⟩, k⟩ := h
    refine ⟨_, pss_one (ps_ret (pe_and (pe_callB (C8.call_isC IC) (by rfl) B.isinstance (by decide +kernel) (pa_cons (pv 1) (pa_cons (pe_glob (v := .ref C) (by rfl) T.gC rfl) pa_nil)))
      (pe_and (pe_cmpR op_eq (pe_fld (pv 0) rfl) (pe_fld (pv 1) rfl) (nomark _)) (pe_and (pe_cmpR op_eq (pe_fld (pv 0) rfl) (pe_fld (pv 1) rfl) (nomark _)) (pe_one (pe_cmpR (op_eqD hr.units) (pe_fld (pv 0) rfl) (pe_fld (pv 1) rfl) (nomark _))))))), ?_⟩
    repeat walk_at "td"
    refine ⟨y, dy, _, rfl, hy, ?_⟩
    repeat walk_at "td"
    refine ⟨x, C, dx, _, .int n, rfl, hx, T.cl, T.nT, webF_things n m t, ?_⟩
    repeat walk_at "td"
    refine ⟨y, C, dy, _, .int n', rfl, hy, T.cl, T.nT, webF_things n' m' t', ?_⟩
    repeat walk_at "td"
    have e1 : decide (V.int (n : Int) = V.int (n' : Int)) = decide (n = n') := by
      rw [Bool.eq_iff_iff, decide_eq_true_eq, decide_eq_true_eq]
      constructor
      · intro e
        exact Int.ofNat.inj (V.int.inj e)
      · rintro rfl
        rfl
    have e2 : decide (V.int (m : Int) = V.int (m' : Int)) = decide (m = m') := by
      rw [Bool.eq_iff_iff, decide_eq_true_eq, decide_eq_true_eq]
      constructor
      · intro e
        exact Int.ofNat.inj (V.int.inj e)
      · rintro rfl
        rfl
    refine iteD (fun c => ?_) (fun c => ?_)
    · rw [← e1, decide_eq_true c] at k
      repeat walk_at "td"
      refine ⟨x, C, dx, _, .int m, rfl, hx, T.cl, T.nC, webF_clubs n m t, ?_⟩
      repeat walk_at "td"
      refine ⟨y, C, dy, _, .int m', rfl, hy, T.cl, T.nC, webF_clubs n' m' t', ?_⟩
      repeat walk_at "td"
      refine iteD (fun c => ?_) (fun c => ?_)
      · rw [← e2, decide_eq_true c] at k
        repeat walk_at "td"
        refine ⟨x, C, dx, _, .ref t, rfl, hx, T.cl, T.nS, webF_ties n m t, ?_⟩
        repeat walk_at "td"
        refine ⟨y, C, dy, _, .ref t', rfl, hy, T.cl, T.nS, webF_ties n' m' t', ?_⟩
        repeat walk_at "td"
        refine ⟨.tuple (us.map tieD), .tuple (us'.map tieD), .tup ht hd, .tup ht' hd', shaped_tup us, shaped_tup us', ?_⟩
        have e3 : PyData.eqv (.tuple (us.map tieD)) (.tuple (us'.map tieD)) = decide (us = us') := eqvAll_ties us us'
        rw [e3]
        exact k
      · rw [← e2, decide_eq_false c] at k
        exact k
    · rw [← e1, decide_eq_false c] at k
      exact k
end
end L2.TD
namespace L2.TD
open PySem PySem.Spec PyProof.Rows
local macro_rules | `(tactic| walk_at "td_side") => `(tactic| first
  | ((with_reducible show CMul _ _); refine Or.inr ⟨?_, ?_⟩ <;> decide)
  | ((with_reducible show CDiv _ _); refine ⟨?_, ?_⟩ <;> decide)
  | ((with_reducible show CPow _ _); refine ⟨?_, ?_, ?_⟩ <;> decide)
  | (show (0 : Int) < _; first | decide | omega)
  | ((with_reducible show scal _ _ = true); rfl)
  | ((show tyV _ "list" _ _); exact Or.inl ⟨rfl, _, SqL.of (by first | exact upd_same | assumption)⟩))
local macro_rules | `(tactic| walk_at "td") => `(tactic| first
  | (refine ⟨_, _, rfl, rfl, ?_⟩)
  | (refine ⟨_, rfl, ?_⟩)
  | (refine Or.inl ⟨_, rfl, ?_⟩)
  | (refine And.intro ?side ?_; (case side => walk_at "td_side"))
  | (refine ⟨_, _, _, _, rfl, rfl, SqL.of (by first | exact upd_same | assumption), by rfl, ?_⟩)
  | (refine ⟨_, _, _, _, rfl, rfl, (by first | exact upd_same | assumption), by rfl, ?_⟩))
/-! _law_web -/
abbrev sWeb : Stmt := top 22
structure GA (K : PySem.W.Frag) (h : HandId) (H0 : Hp) (pl p0 p1 pt pr : Addr) (left : List Tie) (r0 r1 : List Int) (ts : List Tie) (lx tx : List V) (H : Hp) : Prop where
  go : Go h H0 H
  l : H pl = some (.lst lx)
  ld : DpAll K (wo [h.a, pl, p0, p1, pt] H) lx (left.map tieD)
  r : H pr = some (.lst [.ref p0, .ref p1])
  a0 : H p0 = some (.lst (r0.map V.int))
  a1 : H p1 = some (.lst (r1.map V.int))
  t : H pt = some (.lst tx)
  td : DpAll K (wo [h.a, pl, p0, p1, pt] H) tx (ts.map tieD)
  n0 : H0 pl = none ∧ H0 p0 = none ∧ H0 p1 = none ∧ H0 pt = none ∧ H0 pr = none
  na : pl ≠ h.a ∧ p0 ≠ h.a ∧ p1 ≠ h.a ∧ pt ≠ h.a ∧ pr ≠ h.a
  nc : pl ≠ h.c ∧ p0 ≠ h.c ∧ p1 ≠ h.c ∧ pt ≠ h.c ∧ pr ≠ h.c
  dj : pl ≠ p0 ∧ pl ≠ p1 ∧ pl ≠ pt ∧ pl ≠ pr ∧ p0 ≠ p1 ∧ p0 ≠ pt ∧ p0 ≠ pr ∧ p1 ≠ pt ∧ p1 ≠ pr ∧ pt ≠ pr
theorem map_erase {α β : Type} (f : α → β) : ∀ (l : List α) (k : Nat), (l.map f).eraseIdx k = (l.eraseIdx k).map f
  | [], _ => rfl
  | _ :: _, 0 => rfl
  | a :: l, k + 1 => by
    show f a :: (l.map f).eraseIdx k = f a :: (l.eraseIdx k).map f
    rw [map_erase f l k]
section
variable {K : PySem.W.Frag} {h : HandId} {H0 H H' : Hp} {pl p0 p1 pt pr q : Addr} {left : List Tie} {r0 r1 : List Int} {ts : List Tie} {lx tx : List V}
theorem GA.turn (g : GA K h H0 pl p0 p1 pt pr left r0 r1 ts lx tx H) (go : Go h H H') : GA K h H0 pl p0 p1 pt pr left r0 r1 ts lx tx H' := by
  obtain ⟨a1, a2, a3, a4, a5⟩ := id g.na
  have kk : Keeps [h.a, pl, p0, p1, pt] H H' := go.keep.mono (by simp)
  exact ⟨g.go.trans go, go.keep _ _ (by simpa using a1) g.l, g.ld.sm kk.wo, go.keep _ _ (by simpa using a5) g.r, go.keep _ _ (by simpa using a2) g.a0, go.keep _ _ (by simpa using a3) g.a1, go.keep _ _ (by simpa using a4) g.t, g.td.sm kk.wo, g.n0, g.na, g.nc, g.dj⟩
theorem GA.pop (g : GA K h H0 pl p0 p1 pt pr left r0 r1 ts lx tx H) (k : Nat) : GA K h H0 pl p0 p1 pt pr (left.eraseIdx k) r0 r1 ts (lx.eraseIdx k) tx (upd H pl (.lst (lx.eraseIdx k))) := by
  obtain ⟨d1, d2, d3, d4, d5, d6, d7, d8, d9, d10⟩ := id g.dj
  have kk : Keeps [h.a, pl, p0, p1, pt] H (upd H pl (.lst (lx.eraseIdx k))) := Keeps.mut (by simp)
  refine ⟨g.go.late g.n0.1 g.na.1 g.nc.1, upd_same, ?_, (upd_ne d4.symm).trans g.r, (upd_ne d1.symm).trans g.a0, (upd_ne d2.symm).trans g.a1, (upd_ne d3.symm).trans g.t, g.td.sm kk.wo, g.n0, g.na, g.nc, g.dj⟩
  rw [← map_erase]
  exact (g.ld.sm kk.wo).erase k
theorem GA.tie (g : GA K h H0 pl p0 p1 pt pr left r0 r1 ts lx tx H) (nq : H q = none) (x y : Int) : GA K h H0 pl p0 p1 pt pr left r0 r1 (ts ++ [(x, y)]) lx (tx ++ [.ref q]) (upd (upd H q (.tup [.int x, .int y])) pt (.lst (tx ++ [.ref q]))) := by
  obtain ⟨d1, d2, d3, d4, d5, d6, d7, d8, d9, d10⟩ := id g.dj
  have kk : Keeps [h.a, pl, p0, p1, pt] H (upd (upd H q (.tup [.int x, .int y])) pt (.lst (tx ++ [.ref q]))) := (Keeps.new nq).mut' (by simp)
  have e : ∀ {b : Addr} {o : HO}, H b = some o → b ≠ pt → upd (upd H q (.tup [.int x, .int y])) pt (.lst (tx ++ [.ref q])) b = some o := fun hb n => by
    rw [upd_ne n, upd_ne (fresh_ne nq hb).symm]
    exact hb
  obtain ⟨o, hho⟩ := g.go.hand.some
  refine ⟨(g.go.new nq).late g.n0.2.2.2.1 g.na.2.2.2.1 g.nc.2.2.2.1, e g.l d3, g.ld.sm kk.wo, e g.r d10.symm, e g.a0 d6, e g.a1 d8, upd_same, ?_, g.n0, g.na, g.nc, g.dj⟩
  rw [List.map_append]
  refine (g.td.sm kk.wo).append (.cons (Dp.mkTie (SqT.of ?_)) .nil)
  have n1 := fresh_ne nq g.l
  have n2 := fresh_ne nq g.a0
  have n3 := fresh_ne nq g.a1
  have n4 := fresh_ne nq g.t
  have n5 := fresh_ne nq hho
  rw [wo_out (by simp only [List.mem_cons, List.not_mem_nil, or_false, not_or]; exact ⟨n5, n1, n2, n3, n4⟩), upd_ne n4, upd_same]
  rfl
theorem GA.here0 (g : GA K h H0 pl p0 p1 pt pr left r0 r1 ts lx tx H) (x : Int) : GA K h H0 pl p0 p1 pt pr left (r0 ++ [x]) r1 ts lx tx (upd H p0 (.lst (r0.map V.int ++ [.int x]))) := by
  obtain ⟨d1, d2, d3, d4, d5, d6, d7, d8, d9, d10⟩ := id g.dj
  have kk : Keeps [h.a, pl, p0, p1, pt] H (upd H p0 (.lst (r0.map V.int ++ [.int x]))) := Keeps.mut (by simp)
  refine ⟨g.go.late g.n0.2.1 g.na.2.1 g.nc.2.1, (upd_ne d1).trans g.l, g.ld.sm kk.wo, (upd_ne d7.symm).trans g.r, ?_, (upd_ne d5.symm).trans g.a1, (upd_ne d6.symm).trans g.t, g.td.sm kk.wo, g.n0, g.na, g.nc, g.dj⟩
  rw [upd_same, List.map_append]
  rfl
theorem GA.here1 (g : GA K h H0 pl p0 p1 pt pr left r0 r1 ts lx tx H) (x : Int) : GA K h H0 pl p0 p1 pt pr left r0 (r1 ++ [x]) ts lx tx (upd H p1 (.lst (r1.map V.int ++ [.int x]))) := by
  obtain ⟨d1, d2, d3, d4, d5, d6, d7, d8, d9, d10⟩ := id g.dj
  have kk : Keeps [h.a, pl, p0, p1, pt] H (upd H p1 (.lst (r1.map V.int ++ [.int x]))) := Keeps.mut (by simp)
  refine ⟨g.go.late g.n0.2.2.1 g.na.2.2.1 g.nc.2.2.1, (upd_ne d2).trans g.l, g.ld.sm kk.wo, (upd_ne d9.symm).trans g.r, (upd_ne d5).trans g.a0, ?_, (upd_ne d8.symm).trans g.t, g.td.sm kk.wo, g.n0, g.na, g.nc, g.dj⟩
  rw [upd_same, List.map_append]
  rfl
/-- seqIndex of a small number -/
theorem seqIx {k n : Nat} {r : Int} (h0 : 0 ≤ r) (h1 : r < n) : seqIndex? r n = some r.toNat := PySem.StrLaws.seqIndex_nonneg h0 h1
end
def left0 (k : Nat) : List Tie := (List.range k).map fun (i : Nat) => ((0 : Int), 1 + (i : Int))
def left1 (f : Int) (k : Nat) : List Tie := ((List.range k).filter fun (i : Nat) => decide ((i : Int) ≠ f)).map fun (i : Nat) => ((1 : Int), (i : Int))
theorem left0_snoc (k : Nat) : left0 (k + 1) = left0 k ++ [((0 : Int), 1 + (k : Int))] := by
  unfold left0
  rw [List.range_succ, List.map_append]
  rfl
theorem left1_snoc {f : Int} {k : Nat} (h : (k : Int) ≠ f) : left1 f (k + 1) = left1 f k ++ [((1 : Int), (k : Int))] := by
  unfold left1
  rw [List.range_succ, List.filter_append, List.map_append, List.filter_cons_of_pos (by simpa using h)]
  rfl
theorem left1_skip {f : Int} {k : Nat} (h : (k : Int) = f) : left1 f (k + 1) = left1 f k := by
  unfold left1
  rw [List.range_succ, List.filter_append, List.filter_cons_of_neg (by simpa using h)]
  simp
theorem left0_len (k : Nat) : (left0 k).length = k := by simp [left0]
theorem left1_len {f : Int} (f0 : 0 ≤ f) : ∀ k : Nat, (left1 f k).length = if f < k then k - 1 else k
  | 0 => by
    have : ¬ f < ((0 : Nat) : Int) := by omega
    rw [if_neg this]
    rfl
  | k + 1 => by
    have ih := left1_len f0 k
    by_cases h : (k : Int) = f
    · rw [left1_skip h, ih, if_neg (by omega), if_pos (by omega)]
      rfl
    · rw [left1_snoc h, List.length_append, ih]
      by_cases h2 : f < (k : Int)
      · rw [if_pos h2, if_pos (by omega)]
        show k - 1 + 1 = k + 1 - 1
        omega
      · rw [if_neg h2, if_neg (by omega)]
        rfl
theorem left_mem (n m : Nat) (f : Int) (p : Tie) : p ∈ left0 (n - 1) ++ left1 f m ↔ (p.1 = 0 ∧ 1 ≤ p.2 ∧ p.2 < n) ∨ (p.1 = 1 ∧ 0 ≤ p.2 ∧ p.2 < m ∧ p.2 ≠ f) := by
  obtain ⟨a, b⟩ := p
  rw [List.mem_append]
  unfold left0 left1
  constructor
  · rintro (h | h)
    · obtain ⟨i, hi, e⟩ := List.mem_map.mp h
      cases e
      rw [List.mem_range] at hi
      exact .inl ⟨rfl, by show (1 : Int) ≤ 1 + i; omega, by show 1 + (i : Int) < n; omega⟩
    · obtain ⟨i, hi, e⟩ := List.mem_map.mp h
      cases e
      obtain ⟨h1, h2⟩ := List.mem_filter.mp hi
      rw [List.mem_range] at h1
      exact .inr ⟨rfl, by show (0 : Int) ≤ i; omega, by show (i : Int) < m; omega, by simpa using h2⟩
  · rintro (⟨e, h1, h2⟩ | ⟨e, h1, h2, h3⟩)
    · refine .inl (List.mem_map.mpr ⟨(b - 1).toNat, List.mem_range.mpr ?_, ?_⟩)
      · have h2' : b < n := h2
        have h1' : 1 ≤ b := h1
        omega
      · have h1' : 1 ≤ b := h1
        have e' : a = 0 := e
        rw [e']
        exact Prod.ext rfl (by show 1 + (((b - 1).toNat : Nat) : Int) = b; omega)
    · have h1' : 0 ≤ b := h1
      have h2' : b < m := h2
      have h3' : b ≠ f := h3
      have e' : a = 1 := e
      refine .inr (List.mem_map.mpr ⟨b.toNat, List.mem_filter.mpr ⟨List.mem_range.mpr (by omega), ?_⟩, ?_⟩)
      · rw [decide_eq_true_eq, Int.toNat_of_nonneg h1']
        exact h3'
      · rw [e', Int.toNat_of_nonneg h1']
theorem left_nodup (n m : Nat) (f : Int) : (left0 (n - 1) ++ left1 f m).Nodup := by
  rw [List.nodup_append]
  refine ⟨?_, ?_, ?_⟩
  · unfold left0
    refine List.pairwise_map.mpr (List.Pairwise.imp (fun h e => h ?_) List.nodup_range)
    have e2 := (Prod.mk.injEq _ _ _ _ ▸ e : _ ∧ _).2
    omega
  · unfold left1
    refine List.pairwise_map.mpr (List.Pairwise.imp (fun h e => h ?_) (List.nodup_range.sublist (List.filter_sublist)))
    have e2 := (Prod.mk.injEq _ _ _ _ ▸ e : _ ∧ _).2
    omega
  · intro x hx y hy e
    rw [← e] at hy
    unfold left0 at hx
    unfold left1 at hy
    obtain ⟨i, _, e1⟩ := List.mem_map.mp hx
    obtain ⟨j, _, e2⟩ := List.mem_map.mp hy
    rw [← e1] at e2
    have := congrArg Prod.fst e2
    simp at this
theorem fresh_tie {K : PySem.W.Frag} {H : Hp} {S : List Addr} {D q : Addr} {acc : List V} {ts : List Tie} {o : HO} {x y : Int} (nq : H q = none) (hS : ∀ b ∈ S, H b ≠ none) (hD : D ∈ S) (hA : DpAll K (wo S H) acc (ts.map tieD)) :
    DpAll K (wo S (upd (upd H q (.tup [.int x, .int y])) D o)) (acc ++ [.ref q]) ((ts ++ [(x, y)]).map tieD) := by
  have kk : Keeps S H (upd (upd H q (.tup [.int x, .int y])) D o) := (Keeps.new nq).mut' hD
  have nqS : q ∉ S := fun z => hS q z nq
  rw [List.map_append]
  refine (hA.sm kk.wo).append (.cons (Dp.mkTie (SqT.of ?_)) .nil)
  rw [wo_out nqS, upd_ne (fun e => nqS (by rw [e]; exact hD)), upd_same]
  rfl
theorem wo_more {H : Hp} {S : List Addr} {p : Addr} {o : HO} (n : H p = none) : Same (wo S H) (wo (p :: S) (upd H p o)) := fun b u e => by
  obtain ⟨e1, e2⟩ := wo_at e
  have nb : b ≠ p := (fresh_ne n e1).symm
  rw [wo_out (by simpa using ⟨nb, e2⟩), upd_ne nb]
  exact e1
theorem any_tie (ts : List Tie) (t : Tie) : ((ts.map tieD).any fun z => PyData.eqv z (tieD t)) = decide (t ∈ ts) := by
  rw [Bool.eq_iff_iff, List.any_eq_true, decide_eq_true_eq]
  constructor
  · rintro ⟨z, hz, e⟩
    obtain ⟨u, hu, rfl⟩ := List.mem_map.mp hz
    rw [eqv_tie, decide_eq_true_eq] at e
    rw [← e]
    exact hu
  · intro h
    exact ⟨_, List.mem_map_of_mem h, by rw [eqv_tie]; exact decide_eq_true rfl⟩
theorem three_ok : (3 : Nat) ≤ sizeLine := by rw [sizeLine_eq]; decide
theorem one_ok : (1 : Nat) ≤ sizeLine := by rw [sizeLine_eq]; decide
theorem u65 {k : Nat} {A : Around} (r : Room (k + 1) A) : A.units + 65 < cLine := by
  have := r.un
  omega
def spWeb (K : PySem.W.Frag) : Sp := fun vs H Q _ => ∃ h : HandId, vs = [.ref h.a, .int 6, .int 6, .int 12] ∧ Hand h H ∧ ∀ (n m : Nat) (us : List Tie) (t l : Addr) (xs : List V) (H' : Hp), TDm.GoodWeb n m us → TDm.Asc us → Go h H H' →
  H' t = some (.tup [.int n, .int m, .ref l]) → H' l = some (.lst xs) → H l = none → DpAll K (wo [h.a] H') xs (us.map tieD) → Q (.ref t) H'
abbrev nWeb : List Str := ["_law_hand_here", "_law_things", "_law_clubs", "_law_most", "_law_n", "_law_m", "_law_first", "_law_ties", "_law_ready", "_law_thing", "_law_club", "_law_left", "_law_k", "_law_side", "_law_number", "_law_others", "_law_mate", "_law_here", "_law_thick"]
theorem scWeb : FnScope nWeb ["_law_hand_here", "_law_things", "_law_clubs", "_law_most"] (C8.fnScope sWeb) := C8.fnScope_by (by decide +kernel)
section
variable {P : Program} {w : World} {K : PySem.W.Frag} {mg : Str → Option Value} {base : Heap} {f : Addr} {fd : FuncData}
theorem ok_web (B : Blt mg) (F : C8.Def K mg "_law_web" sWeb f fd) (b : Binds K fd ["_law_hand_here", "_law_things", "_law_clubs", "_law_most"] []) (cZ : C8.Cal P w K mg base 3 "_law_size" spSize []) (cT : C8.Cal P w K mg base 2 "_law_take" spTake []) : C8.Cal P w K mg base 4 "_law_web" (spWeb K) [] := by
  refine C8.cal0 F b .nil scWeb (fun vs H Q E h => ?_) (fun cdv A outer s H vs Q E hr h => ?_)
  · obtain ⟨h, rfl, _⟩ := h
    rfl
  · obtain ⟨h, rfl, hh, k⟩ := h
    have nd := scWeb.nd
    refine ⟨_, C8.pss_cut (ps_set (i := 4) nd rfl (.inl rfl) (C8.pe_c cZ hr (by decide) (by rfl) (pa_cons (pv 0) (pa_cons (pv 1) pa_nil))))
      (C8.pss_cut (ps_set (i := 5) nd rfl (.inl rfl) (C8.pe_c cZ hr (by decide) (by rfl) (pa_cons (pv 0) (pa_cons (pv 2) pa_nil))))
      (C8.pss_cut (ps_set (i := 6) nd rfl (.inr rfl) (C8.pe_c cT hr (by decide) (by rfl) (pa_cons (pv 0) (pa_cons (pv 5) pa_nil))))
      (pss_cons (ps_set (i := 7) nd rfl (.inl rfl) (pe_lst (pa_cons (pe_tup (pa_cons pe_int (pa_cons (pv 6) pa_nil))) pa_nil)))
      (C8.pss_cut (ps_set (i := 8) nd rfl (.inl rfl) (pe_lst (pa_cons (pe_lst (pa_cons pe_int pa_nil)) (pa_cons (pe_lst (pa_cons (pv 6) pa_nil)) pa_nil))))
      (C8.pss_cut (ps_set (i := 11) nd rfl (.inl rfl) (pe_op op_cat
        (pe_lc (own := [("_law_thing", 9)]) (g := gName 9) (tt := tYes) (te := tTup (tCons (tC (.int 0)) (tCons (tVar 9) tNil))) rfl nd (pi_range2 (by rfl) B.range (pa_cons pe_int (pa_cons (pv 4) pa_nil))) (blkOk_by (N := nWeb) (sc := C8.fnScope sWeb) (by decide +kernel))
          (fun _ _ _ _ _ => pg_name (i := 9) nd rfl (.inl rfl)) (fun _ _ _ _ _ => pts_nil) (fun _ _ _ _ _ => pe_tup (pa_cons pe_int (pa_cons (pv 9) pa_nil))))
        (pe_lc (own := [("_law_club", 10)]) (g := gName 10) (tt := tTest (tOp rNe (tVar 10) (tVar 6))) (te := tTup (tCons (tC (.int 1)) (tCons (tVar 10) tNil))) rfl nd (pi_range1 (by rfl) B.range (pa_cons (pv 5) pa_nil)) (blkOk_by (N := nWeb) (sc := C8.fnScope sWeb) (by decide +kernel))
          (fun _ _ _ _ _ => pg_name (i := 10) nd rfl (.inl rfl)) (fun _ _ _ _ _ => pts_one (pt_cmpR op_ne (pv 10) (pv 6) (nomark _))) (fun _ _ _ _ _ => pe_tup (pa_cons pe_int (pa_cons (pv 10) pa_nil))))))
      (C8.pss_cut (ps_for PassesOwn.never rfl (pi_range1 (by rfl) B.range (pa_cons (pe_op op_sub (pe_op op_add (pv 4) (pv 5)) pe_int) pa_nil)) (pg_name (i := 12) nd rfl (.inl rfl))
        (C8.pss_cut (ps_asg (pe_bm PySem.F.plainAttrs_list PySem.F.slot_list_pop PySem.F.type_list_pop mt_popAt (pv 11) (pa_cons (C8.pe_c cT hr (by decide) (by rfl) (pa_cons (pv 0) (pa_cons (pe_callB call_len_seq (by rfl) B.len PySem.boot_len (pa_cons (pv 11) pa_nil)) pa_nil))) pa_nil))
            (pg_tup (n := 2) rfl (pgs_cons (pg_name (i := 13) nd rfl (.inl rfl)) (pgs_cons (pg_name (i := 14) nd rfl (.inl rfl)) pgs_nil))))
        (pss_cons (ps_set (i := 15) nd rfl (.inl rfl) (pe_ix ix_list (pv 8) (pe_op op_sub pe_int (pv 13)) (fun _ _ => rfl)))
        (pss_cons (ps_set (i := 16) nd rfl (.inl rfl) (pe_ix ix_list (pv 15) (C8.pe_c cT hr (by decide) (by rfl) (pa_cons (pv 0) (pa_cons (pe_callB call_len_seq (by rfl) B.len PySem.boot_len (pa_cons (pv 15) pa_nil)) pa_nil))) (fun _ _ => rfl)))
        (pss_cons (ps_expr (pe_bm PySem.F.plainAttrs_list PySem.F.slot_list_append PySem.F.type_list_append mt_append (pv 7) (pa_cons (pe_ifExp (pt_cmpR op_eq (pv 13) pe_int (nomark _)) (pe_tup (pa_cons (pv 14) (pa_cons (pv 16) pa_nil))) (pe_tup (pa_cons (pv 16) (pa_cons (pv 14) pa_nil)))) pa_nil)))
        (pss_cons (ps_set (i := 17) nd rfl (.inl rfl) (pe_ix ix_list (pv 8) (pv 13) (fun _ _ => rfl)))
        (pss_one (ps_expr (pe_bm PySem.F.plainAttrs_list PySem.F.slot_list_append PySem.F.type_list_append mt_append (pv 17) (pa_cons (pv 14) pa_nil))))))))))
      (C8.pss_cut (ps_set (i := 18) nd rfl (.inl rfl) (C8.pe_c cT hr (by decide) (by rfl) (pa_cons (pv 0) (pa_cons pe_int pa_nil))))
      (C8.pss_cut (ps_for PassesOwn.never rfl (pi_range1 (by rfl) B.range (pa_cons (pv 4) pa_nil)) (pg_name (i := 9) nd rfl (.inl rfl))
        (pss_one (ps_for PassesOwn.never rfl (pi_range1 (by rfl) B.range (pa_cons (pv 5) pa_nil)) (pg_name (i := 10) nd rfl (.inl rfl))
          (pss_one (ps_if (PW.pt (pw_and (pt_cmpR (op_notInD (u65 hr)) (pe_tup (pa_cons (pv 9) (pa_cons (pv 10) pa_nil))) (pv 7) (by rfl)) (pw_and1 (pt_cmpR op_lt (pe_callB call_len_seq (by rfl) B.len PySem.boot_len (pa_cons (pv 7) pa_nil)) (pv 3) (nomark _)))))
            (pss_one (ps_if (pt_cmpR op_lt (C8.pe_c cT hr (by decide) (by rfl) (pa_cons (pv 0) (pa_cons pe_int pa_nil))) (pv 18) (nomark _))
              (pss_one (ps_expr (pe_bm PySem.F.plainAttrs_list PySem.F.slot_list_append PySem.F.type_list_append mt_append (pv 7) (pa_cons (pe_tup (pa_cons (pv 9) (pa_cons (pv 10) pa_nil))) pa_nil)))) pss_nil)) pss_nil)))))
      (pss_one (ps_ret (pe_tup (pa_cons (pv 4) (pa_cons (pv 5) (pa_cons (pe_callB (cr_sortT (d := 2) (B := 64) (by decide)) (by rfl) B.sorted (by decide +kernel) (pa_cons (pv 7) pa_nil)) pa_nil)))))))))))))), ?_⟩
    have nC : ∀ {H' : Hp}, Go h H H' → Hand h H' := fun g => g.hand
    refine ⟨fun σ H1 => (∃ n : Nat, σ = [some (.ref h.a), some (.int 6), some (.int 6), some (.int 12), some (.int (n : Int)), none, none, none, none, none, none, none, none, none, none, none, none, none, none] ∧ 1 ≤ n ∧ n ≤ 6) ∧ Go h H H1, ?_, ?_⟩
    · repeat walk_at "td"
      refine ⟨h, _, rfl, by decide, by decide, hh, fun r H' r0 r1 go => ?_⟩
      exact ⟨⟨r.toNat, by rw [Int.toNat_of_nonneg (by omega)]; rfl, by omega, by omega⟩, go⟩
    rintro σ H1 ⟨⟨n, rfl, n1, n6⟩, go1⟩
    refine ⟨fun σ H1 => (∃ m : Nat, σ = [some (.ref h.a), some (.int 6), some (.int 6), some (.int 12), some (.int (n : Int)), some (.int (m : Int)), none, none, none, none, none, none, none, none, none, none, none, none, none] ∧ 1 ≤ m ∧ m ≤ 6) ∧ Go h H H1, ?_, ?_⟩
    · repeat walk_at "td"
      refine ⟨h, _, rfl, by decide, by decide, go1.hand, fun r H' r0 r1 go => ?_⟩
      exact ⟨⟨r.toNat, by rw [Int.toNat_of_nonneg (by omega)]; rfl, by omega, by omega⟩, go1.trans go⟩
    clear go1 H1
    rintro σ H1 ⟨⟨m, rfl, m1, m6⟩, go1⟩
    refine ⟨fun σ H1 => (∃ f : Int, σ = [some (.ref h.a), some (.int 6), some (.int 6), some (.int 12), some (.int (n : Int)), some (.int (m : Int)), some (.int f), none, none, none, none, none, none, none, none, none, none, none, none] ∧ 0 ≤ f ∧ f < m) ∧ Go h H H1, ?_, ?_⟩
    · repeat walk_at "td"
      refine ⟨h, _, rfl, by omega, by omega, go1.hand, fun r H' r0 r1 go => ?_⟩
      exact ⟨⟨r, rfl, r0, r1⟩, go1.trans go⟩
    clear go1 H1
    rintro σ H1 ⟨⟨f, rfl, f0, f1⟩, go1⟩
    repeat walk_at "td"
    refine ⟨two_ok, fun q0 nq0 => ?_⟩
    repeat walk_at "td"
    refine ⟨one_ok, fun pt npt => ?_⟩
    refine ⟨fun σ H2 => ∃ p0 p1 pr : Addr, σ = [some (.ref h.a), some (.int 6), some (.int 6), some (.int 12), some (.int (n : Int)), some (.int (m : Int)), some (.int f), some (.ref pt), some (.ref pr), none, none, none, none, none, none, none, none, none, none] ∧ Go h H H2 ∧
      H2 q0 = some (.tup [.int 0, .int f]) ∧ H2 pt = some (.lst [.ref q0]) ∧ H2 p0 = some (.lst [.int 0]) ∧ H2 p1 = some (.lst [.int f]) ∧ H2 pr = some (.lst [.ref p0, .ref p1]) ∧ (H pt = none ∧ H p0 = none ∧ H p1 = none ∧ H pr = none) ∧
      (q0 ≠ pt ∧ q0 ≠ p0 ∧ q0 ≠ p1 ∧ p0 ≠ p1 ∧ p0 ≠ pt ∧ p0 ≠ pr ∧ p1 ≠ pt ∧ p1 ≠ pr ∧ pt ≠ pr), ?_, ?_⟩
    · repeat walk_at "td"
      refine ⟨one_ok, fun p0 np0 => ?_⟩
      repeat walk_at "td"
      refine ⟨one_ok, fun p1 np1 => ?_⟩
      repeat walk_at "td"
      refine ⟨two_ok, fun pr npr => ?_⟩
      repeat walk_at "td"
      have g2 : Go h H (upd H1 q0 (.tup [.int 0, .int f])) := go1.new nq0
      have g3 := g2.new (o := .lst [.ref q0]) npt
      have g4 := g3.new (o := .lst [.int 0]) np0
      have g5 := g4.new (o := .lst [.int f]) np1
      have g6 := g5.new (o := .lst [.ref p0, .ref p1]) npr
      have nh : ∀ {p : Addr} {Hx : Hp}, Go h H Hx → Hx p = none → H p = none := fun {p Hx} g z => g.keep.free z (by simpa using (g.hand.fresh z).1)
      have e0 : upd H1 q0 (HO.tup [V.int 0, V.int f]) q0 = some (.tup [.int 0, .int f]) := upd_same
      have e1 : upd (upd H1 q0 (HO.tup [V.int 0, V.int f])) pt (.lst [.ref q0]) pt = some (.lst [.ref q0]) := upd_same
      have nqt := fresh_ne npt e0
      have n0q := fresh_ne np0 ((Keeps.new (S := []) npt).same _ _ e0)
      have n0t := fresh_ne np0 e1
      have e2 : upd (upd (upd H1 q0 (HO.tup [V.int 0, V.int f])) pt (.lst [.ref q0])) p0 (.lst [.int 0]) p0 = some (.lst [.int 0]) := upd_same
      have s3 : Same (upd (upd H1 q0 (HO.tup [V.int 0, V.int f])) pt (.lst [.ref q0])) (upd (upd (upd H1 q0 (HO.tup [V.int 0, V.int f])) pt (.lst [.ref q0])) p0 (.lst [.int 0])) := (Keeps.new (S := []) np0).same
      have n1q := fresh_ne np1 (s3 _ _ ((Keeps.new (S := []) npt).same _ _ e0))
      have n1t := fresh_ne np1 (s3 _ _ e1)
      have n10 := fresh_ne np1 e2
      have s4 : Same (upd (upd (upd H1 q0 (HO.tup [V.int 0, V.int f])) pt (.lst [.ref q0])) p0 (.lst [.int 0])) (upd (upd (upd (upd H1 q0 (HO.tup [V.int 0, V.int f])) pt (.lst [.ref q0])) p0 (.lst [.int 0])) p1 (.lst [.int f])) := (Keeps.new (S := []) np1).same
      have e3 : upd (upd (upd (upd H1 q0 (HO.tup [V.int 0, V.int f])) pt (.lst [.ref q0])) p0 (.lst [.int 0])) p1 (.lst [.int f]) p1 = some (.lst [.int f]) := upd_same
      have nrt := fresh_ne npr (s4 _ _ (s3 _ _ e1))
      have nr0 := fresh_ne npr (s4 _ _ e2)
      have nr1 := fresh_ne npr e3
      have s5 : Same (upd (upd (upd (upd H1 q0 (HO.tup [V.int 0, V.int f])) pt (.lst [.ref q0])) p0 (.lst [.int 0])) p1 (.lst [.int f])) (upd (upd (upd (upd (upd H1 q0 (HO.tup [V.int 0, V.int f])) pt (.lst [.ref q0])) p0 (.lst [.int 0])) p1 (.lst [.int f])) pr (.lst [.ref p0, .ref p1])) := (Keeps.new (S := []) npr).same
      exact ⟨p0, p1, pr, rfl, g6, s5 _ _ (s4 _ _ (s3 _ _ ((Keeps.new (S := []) npt).same _ _ e0))), s5 _ _ (s4 _ _ (s3 _ _ e1)), s5 _ _ (s4 _ _ e2), s5 _ _ e3, upd_same, ⟨nh g2 npt, nh g3 np0, nh g4 np1, nh g5 npr⟩, nqt.symm, n0q.symm, n1q.symm, n10.symm, n0t, nr0.symm, n1t, nr1.symm, nrt.symm⟩
    rintro σ H2 ⟨p0, p1, pr, rfl, go2, hq0, hpt, hp0, hp1, hpr, ⟨zt, z0, z1, zr⟩, dd⟩
    refine ⟨fun σ H3 => ∃ (pl : Addr) (left : List Tie) (lx : List V), σ = [some (.ref h.a), some (.int 6), some (.int 6), some (.int 12), some (.int (n : Int)), some (.int (m : Int)), some (.int f), some (.ref pt), some (.ref pr), none, none, some (.ref pl), none, none, none, none, none, none, none] ∧
      GA K h H pl p0 p1 pt pr left [0] [f] [(0, f)] lx [.ref q0] H3 ∧ TDm.Grow n m left [0] [f] [(0, f)] ∧ left.length + 2 = n + m, ?_, ?_⟩
    · obtain ⟨oa, hha⟩ := go2.hand.some
      have nha : H2 h.a ≠ none := by rw [hha]; exact fun z => nomatch z
      repeat walk_at "td"
      refine ⟨1, n, rfl, ⟨by decide, by decide, by omega, by omega⟩, fun D1 nD1 => ?_⟩
      have inS : ∀ {Hx : Hp}, Same H2 Hx → ∀ b ∈ [h.a, p0, p1, pt], Hx b ≠ none := fun {Hx} sm b hb z => by
        simp only [List.mem_cons, List.not_mem_nil, or_false] at hb
        rcases hb with e | e | e | e <;> subst e
        · rw [sm _ _ hha] at z; cases z
        · rw [sm _ _ hp0] at z; cases z
        · rw [sm _ _ hp1] at z; cases z
        · rw [sm _ _ hpt] at z; cases z
      have inS2 : ∀ {Hx : Hp} {D : Addr} {o : HO}, Same H2 Hx → Hx D = some o → ∀ b ∈ [D, h.a, p0, p1, pt], Hx b ≠ none := fun {Hx D o} sm hD b hb => by
        rcases List.mem_cons.mp hb with e | hb
        · subst e
          rw [hD]
          exact fun z => nomatch z
        · exact inS sm b hb
      refine lc_range (fun j H3 => ∃ acc, Same H2 H3 ∧ H3 D1 = some (.lst acc) ∧ DpAll K (wo [D1, h.a, p0, p1, pt] H3) acc ((left0 j).map tieD))
        ⟨[], (Keeps.new (S := []) nD1).same, upd_same, .nil⟩ ?_ ?_
      · rintro j H3 hj ⟨acc, sm, hD, hA⟩
        refine ⟨rfl, ?_⟩
        repeat walk_at "td"
        refine ⟨two_ok, fun q nq => ?_⟩
        have ne1 : D1 ≠ q := ne_of_none hD nq
        refine ⟨acc, by rw [upd_ne ne1]; exact hD, ?_, acc ++ [.ref q], ((Keeps.of (S := []) sm).new' nq |>.late nD1).same, upd_same, ?_⟩
        · rw [hA.length, List.length_map, left0_len]
          exact small12 (by omega)
        · rw [left0_snoc]
          exact fresh_tie nq (inS2 sm hD) (by simp) hA
      · rintro H3 ⟨acc1, sm1, hD1, hA1⟩
        repeat walk_at "td"
        refine ⟨by omega, by omega, fun D2 nD2 => ?_⟩
        refine lc_range (fun j H4 => ∃ acc, Same H3 H4 ∧ H4 D2 = some (.lst acc) ∧ DpAll K (wo [D2, h.a, p0, p1, pt] H4) acc ((left1 f j).map tieD))
          ⟨[], (Keeps.new (S := []) nD2).same, upd_same, .nil⟩ ?_ ?_
        · rintro j H4 hj ⟨acc, sm, hD, hA⟩
          refine ⟨rfl, ?_⟩
          repeat walk_at "td"
          refine iteDN (fun c => ?_) (fun c => ?_)
          · repeat walk_at "td"
            refine ⟨two_ok, fun q nq => ?_⟩
            have ne1 : D2 ≠ q := ne_of_none hD nq
            have cf : (j : Int) ≠ f := fun e => c (by rw [← e, Int.zero_add])
            refine ⟨acc, by rw [upd_ne ne1]; exact hD, ?_, acc ++ [.ref q], ((Keeps.of (S := []) sm).new' nq |>.late nD2).same, upd_same, ?_⟩
            · rw [hA.length, List.length_map, left1_len f0]
              exact small12 (by split <;> omega)
            · rw [left1_snoc cf, Int.zero_add]
              exact fresh_tie nq (inS2 (fun b o e => sm b o (sm1 b o e)) hD) (by simp) hA
          · have cf : (j : Int) = f := by
              have := V.int.inj c
              omega
            exact ⟨acc, sm, hD, by rw [left1_skip cf]; exact hA⟩
        · rintro H4 ⟨acc2, sm2, hD2, hA2⟩
          have hD1' := sm2 _ _ hD1
          have l1 : acc1.length = n - 1 := by rw [hA1.length, List.length_map, left0_len]; omega
          have l2 : acc2.length = m - 1 := by rw [hA2.length, List.length_map, left1_len f0, if_pos (by omega)]; omega
          have s24 : Same H2 H4 := fun b o e => sm2 b o (sm1 b o e)
          refine ⟨D1, D2, acc1, acc2, rfl, rfl, hD1', hD2, small12' (by omega), fun pl npl => ?_⟩
          refine ⟨pl, left0 (n - 1) ++ left1 f m, acc1 ++ acc2, rfl, ?_, TDm.Grow.start n1 ⟨f0, f1⟩ (left_nodup n m f) (left_mem n m f), ?_⟩
          · have g4 : Go h H H4 := ⟨go2.keep.trans (Keeps.of s24), go2.hand.same s24⟩
            have s25 : Same H2 (upd H4 pl (.lst (acc1 ++ acc2))) := (Keeps.of (S := []) s24 |>.new' npl).same
            obtain ⟨d1, d2, d3, d4, d5, d6, d7, d8, d9⟩ := dd
            have nn : ∀ {b : Addr} {o : HO}, H2 b = some o → pl ≠ b := fun {b o} e => fresh_ne npl (s24 _ _ e)
            have nz : ∀ {b : Addr}, H b = none → b ≠ h.a ∧ b ≠ h.c := fun {b} e => hh.fresh e
            have up : Same (wo [h.a, p0, p1, pt] H4) (wo [h.a, pl, p0, p1, pt] (upd H4 pl (.lst (acc1 ++ acc2)))) := fun b o e => by
              have e1 := wo_more (S := [h.a, p0, p1, pt]) (o := .lst (acc1 ++ acc2)) npl b o e
              obtain ⟨e2, e3⟩ := wo_at e1
              rw [wo_out]
              · exact e2
              · simp only [List.mem_cons, List.not_mem_nil, or_false, not_or] at e3 ⊢
                exact ⟨e3.2.1, e3.1, e3.2.2.1, e3.2.2.2.1, e3.2.2.2.2⟩
            refine ⟨g4.new npl, upd_same, ?_, s25 _ _ hpr, s25 _ _ hp0, s25 _ _ hp1, s25 _ _ hpt, ?_, ⟨?_, z0, z1, zt, zr⟩, ⟨?_, (nz z0).1, (nz z1).1, (nz zt).1, (nz zr).1⟩, ⟨?_, (nz z0).2, (nz z1).2, (nz zt).2, (nz zr).2⟩, nn hp0, nn hp1, nn hpt, nn hpr, d4, d5, d6, d7, d8, d9⟩
            · rw [List.map_append]
              refine DpAll.append ?_ ?_
              · refine DpAll.sm ?_ up
                refine DpAll.sm ?_ (Keeps.of sm2).wo
                have e0 : (((n : Int) - 1).toNat) = n - 1 := by omega
                rw [e0] at hA1
                exact hA1.sm (wo_mono (by simp))
              · refine DpAll.sm ?_ up
                have e0 : ((m : Int).toNat) = m := by omega
                rw [e0] at hA2
                exact hA2.sm (wo_mono (by simp))
            · refine .cons (Dp.mkTie (SqT.of ?_)) .nil
              rw [wo_out]
              · exact s25 _ _ hq0
              · simp only [List.mem_cons, List.not_mem_nil, or_false, not_or]
                refine ⟨fun e => ?_, (nn hq0).symm, d2, d3, d1⟩
                obtain ⟨i', g', s', e', _⟩ := go2.hand.at_
                rw [← e, hq0] at e'
                cases e'
            · exact g4.keep.free npl (by simpa using (g4.hand.fresh npl).1)
            · exact (g4.hand.fresh npl).1
            · exact (g4.hand.fresh npl).2
          · rw [List.length_append, left0_len, left1_len f0, if_pos f1]
            omega
    clear hq0 hpt hp0 hp1 hpr dd zt z0 z1 zr go2 H2 go1 nq0 npt
    rintro σ H2 ⟨pl, left, lx, rfl, ga, gr, hlen⟩
    refine ⟨fun σ H3 => ∃ (x12 x13 x14 x15 x16 x17 : Option V) (ts : List Tie) (tx : List V), σ = [some (.ref h.a), some (.int 6), some (.int 6), some (.int 12), some (.int (n : Int)), some (.int (m : Int)), some (.int f), some (.ref pt), some (.ref pr), none, none, some (.ref pl), x12, x13, x14, x15, x16, x17, none] ∧
      Go h H H3 ∧ H3 pt = some (.lst tx) ∧ DpAll K (wo [h.a, pt] H3) tx (ts.map tieD) ∧ TDm.Web0 n m ts ∧ ts.length ≤ 12 ∧ H pt = none ∧ pt ≠ h.a ∧ pt ≠ h.c, ?_, ?_⟩
    · repeat walk_at "td"
      refine ⟨by omega, by omega, ?_⟩
      refine for_range (fun j σ H3 => ∃ (x12 x13 x14 x15 x16 x17 : Option V) (left : List Tie) (r0 r1 : List Int) (ts : List Tie) (lx tx : List V), σ = [some (.ref h.a), some (.int 6), some (.int 6), some (.int 12), some (.int (n : Int)), some (.int (m : Int)), some (.int f), some (.ref pt), some (.ref pr), none, none, some (.ref pl), x12, x13, x14, x15, x16, x17, none] ∧
        GA K h H pl p0 p1 pt pr left r0 r1 ts lx tx H3 ∧ TDm.Grow n m left r0 r1 ts ∧ left.length + 2 + j = n + m ∧ ts.length = 1 + j ∧ r0.length ≤ 1 + j ∧ r1.length ≤ 1 + j ∧ 1 ≤ r0.length ∧ 1 ≤ r1.length)
        ⟨none, none, none, none, none, none, left, [0], [f], [(0, f)], lx, [.ref q0], rfl, ga, gr, hlen, rfl, Nat.le_refl _, Nat.le_refl _, Nat.le_refl _, Nat.le_refl _⟩ ?_ ?_
      · rintro j σ H3 hj ⟨x12, x13, x14, x15, x16, x17, left, r0, r1, ts, lx, tx, rfl, ga, gr, hlen, hts, hr0, hr1, br0, br1⟩
        have hlx : lx.length = left.length := by rw [ga.ld.length, List.length_map]
        refine ⟨fun σ H4 => ∃ (s x : Int) (kk : Nat), σ = [some (.ref h.a), some (.int 6), some (.int 6), some (.int 12), some (.int (n : Int)), some (.int (m : Int)), some (.int f), some (.ref pt), some (.ref pr), none, none, some (.ref pl), some (.int (0 + (j : Int))), some (.int s), some (.int x), x15, x16, x17, none] ∧
          left[kk]? = some (s, x) ∧ GA K h H pl p0 p1 pt pr (left.eraseIdx kk) r0 r1 ts (lx.eraseIdx kk) tx H4, ?_, ?_⟩
        · have eL := ga.l
          repeat walk_at "td"
          refine ⟨_, _, rfl, .inl (SqL.of ga.l), ?_⟩
          repeat walk_at "td"
          refine ⟨h, _, rfl, by omega, by omega, ga.go.hand, fun r H4 h0 h1 go => ?_⟩
          have ga4 := ga.turn go
          obtain ⟨t, ht⟩ : ∃ t, left[r.toNat]? = some t := ⟨_, List.getElem?_eq_getElem (by omega : r.toNat < left.length)⟩
          obtain ⟨v, hv, hdv⟩ := ga4.ld.getd (i := r.toNat) (d := tieD t) (by rw [List.getElem?_map, ht]; rfl)
          obtain ⟨pv, rfl, hpv⟩ := hdv.tie
          refine ⟨pl, lx, r, r.toNat, _, rfl, rfl, ga4.l, by omega, by omega, seqIx (k := 0) h0 (by omega), hv, ?_⟩
          have ga5 := ga4.pop r.toNat
          have hpv5 : SqT K (upd H4 pl (.lst (lx.eraseIdx r.toNat))) pv (tieV t) := (hpv.sm (Keeps.mut (by simp) : Keeps [h.a, pl, p0, p1, pt] H4 (upd H4 pl (.lst (lx.eraseIdx r.toNat)))).wo).sm wo_same
          refine ⟨pv, _, rfl, hpv5, rfl, _, _, rfl, _, _, rfl, rfl, ?_⟩
          exact ⟨t.1, t.2, r.toNat, rfl, ht, ga5⟩
        rintro σ H4 ⟨s, x, kk, rfl, hk, ga4⟩
        have inr := gr.lok _ (List.mem_of_getElem? hk)
        have eR := ga4.r
        have eT := ga4.t
        have e0 := ga4.a0
        have e1 := ga4.a1
        have ltx : tx.length = ts.length := by rw [ga4.td.length, List.length_map]
        rcases inr with ⟨es, x0, x1⟩ | ⟨es, x0, x1⟩
        · have es' : s = 0 := es
          subst es'
          repeat walk_at "td"
          refine ⟨_, _, rfl, .inl (SqL.of e1), ?_⟩
          repeat walk_at "td"
          refine ⟨h, _, rfl, by rw [List.length_map]; omega, by rw [List.length_map]; omega, ga4.go.hand, fun r H5 h0 h1 go => ?_⟩
          have ga5 := ga4.turn go
          have hr1' : r.toNat < r1.length := by rw [List.length_map] at h1; omega
          refine ⟨_, _, _, _, rfl, rfl, SqL.of ga5.a1, at_of (j := r.toNat) (by omega) (ints_at hr1'), ?_⟩
          have eR := ga5.r
          have eT := ga5.t
          have e0 := ga5.a0
          have e1 := ga5.a1
          repeat walk_at "td"
          refine ⟨two_ok, fun q nq => ?_⟩
          have npq := fresh_ne nq eT
          refine ⟨pt, tx, _, rfl, rfl, by rw [upd_ne npq.symm]; exact eT, small12 (by omega), ?_⟩
          have ga6 := ga5.tie nq x (r1.getD r.toNat 0)
          have eR := ga6.r
          have e0 := ga6.a0
          repeat walk_at "td"
          refine ⟨_, _, _, rfl, rfl, e0, by rw [List.length_map]; exact small12 (by omega), ?_⟩
          have ga7 := ga6.here0 x
          have gr7 := gr.thing hk (y := r1.getD r.toNat 0) (by rw [List.getD_eq_getElem?_getD, List.getElem?_eq_getElem hr1']; exact List.getElem_mem hr1')
          refine ⟨_, _, _, _, _, _, left.eraseIdx kk, r0 ++ [x], r1, ts ++ [(x, r1.getD r.toNat 0)], lx.eraseIdx kk, tx ++ [.ref q], rfl, ga7, gr7, ?_, ?_, ?_, ?_, ?_, ?_⟩
          · rw [List.length_eraseIdx_of_lt (by have := (List.getElem?_eq_some_iff.mp hk).1; exact this)]
            have := (List.getElem?_eq_some_iff.mp hk).1
            omega
          · rw [List.length_append]; show ts.length + 1 = _; omega
          · rw [List.length_append]; show r0.length + 1 ≤ _; omega
          · omega
          · rw [List.length_append]; omega
          · omega
        · have es' : s = 1 := es
          subst es'
          repeat walk_at "td"
          refine ⟨_, _, rfl, .inl (SqL.of e0), ?_⟩
          repeat walk_at "td"
          refine ⟨h, _, rfl, by rw [List.length_map]; omega, by rw [List.length_map]; omega, ga4.go.hand, fun r H5 h0 h1 go => ?_⟩
          have ga5 := ga4.turn go
          have hr1' : r.toNat < r0.length := by rw [List.length_map] at h1; omega
          refine ⟨_, _, _, _, rfl, rfl, SqL.of ga5.a0, at_of (j := r.toNat) (by omega) (ints_at hr1'), ?_⟩
          have eR := ga5.r
          have eT := ga5.t
          have e0 := ga5.a0
          have e1 := ga5.a1
          repeat walk_at "td"
          refine ⟨two_ok, fun q nq => ?_⟩
          have npq := fresh_ne nq eT
          refine ⟨pt, tx, _, rfl, rfl, by rw [upd_ne npq.symm]; exact eT, small12 (by omega), ?_⟩
          have ga6 := ga5.tie nq (r0.getD r.toNat 0) x
          have eR := ga6.r
          have e0 := ga6.a1
          repeat walk_at "td"
          refine ⟨_, _, _, rfl, rfl, e0, by rw [List.length_map]; exact small12 (by omega), ?_⟩
          have ga7 := ga6.here1 x
          have gr7 := gr.club hk (x := r0.getD r.toNat 0) (by rw [List.getD_eq_getElem?_getD, List.getElem?_eq_getElem hr1']; exact List.getElem_mem hr1')
          refine ⟨_, _, _, _, _, _, left.eraseIdx kk, r0, r1 ++ [x], ts ++ [(r0.getD r.toNat 0, x)], lx.eraseIdx kk, tx ++ [.ref q], rfl, ga7, gr7, ?_, ?_, ?_, ?_, ?_, ?_⟩
          · rw [List.length_eraseIdx_of_lt (by have := (List.getElem?_eq_some_iff.mp hk).1; exact this)]
            have := (List.getElem?_eq_some_iff.mp hk).1
            omega
          · rw [List.length_append]; show ts.length + 1 = _; omega
          · omega
          · rw [List.length_append]; show r1.length + 1 ≤ _; omega
          · omega
          · rw [List.length_append]; omega
      · rintro σ H3 ⟨x12, x13, x14, x15, x16, x17, left, r0, r1, ts, lx, tx, rfl, ga, gr, hlen, hts, hr0, hr1, br0, br1⟩
        have e0 : left = [] := List.eq_nil_of_length_eq_zero (by omega)
        subst e0
        exact ⟨_, _, _, _, _, _, ts, tx, rfl, ga.go, ga.t, ga.td.sm (wo_mono (by simp)), gr.web, by omega, ga.n0.2.2.2.1, ga.na.2.2.2.1, ga.nc.2.2.2.1⟩
    clear ga gr hlen H2 lx left
    rintro σ H2 ⟨x12, x13, x14, x15, x16, x17, ts, tx, rfl, go2, hpt, htd, hw, hl12, nHt, nta, ntc⟩
    refine ⟨fun σ H3 => ∃ (x12 x13 x14 x15 x16 x17 : Option V) (th : Int) (ts : List Tie) (tx : List V), σ = [some (.ref h.a), some (.int 6), some (.int 6), some (.int 12), some (.int (n : Int)), some (.int (m : Int)), some (.int f), some (.ref pt), some (.ref pr), none, none, some (.ref pl), x12, x13, x14, x15, x16, x17, some (.int th)] ∧
      Go h H H3 ∧ H3 pt = some (.lst tx) ∧ DpAll K (wo [h.a, pt] H3) tx (ts.map tieD) ∧ TDm.Web0 n m ts ∧ ts.length ≤ 12, ?_, ?_⟩
    · repeat walk_at "td"
      refine ⟨h, _, rfl, by decide, by decide, go2.hand, fun r H3 h0 h1 go => ?_⟩
      exact ⟨_, _, _, _, _, _, r, ts, tx, rfl, go2.trans go, go.keep _ _ (by simpa using nta) hpt, htd.sm (go.keep.mono (by simp)).wo, hw, hl12⟩
    clear go2 hpt htd hw hl12 H2 tx ts x12 x13 x14 x15 x16 x17
    rintro σ H2 ⟨x12, x13, x14, x15, x16, x17, th, ts, tx, rfl, go2, hpt, htd, hw, hl12⟩
    refine ⟨fun σ H3 => ∃ (x9 x10 : Option V) (ts : List Tie) (tx : List V), σ = [some (.ref h.a), some (.int 6), some (.int 6), some (.int 12), some (.int (n : Int)), some (.int (m : Int)), some (.int f), some (.ref pt), some (.ref pr), x9, x10, some (.ref pl), x12, x13, x14, x15, x16, x17, some (.int th)] ∧
      Go h H H3 ∧ H3 pt = some (.lst tx) ∧ DpAll K (wo [h.a, pt] H3) tx (ts.map tieD) ∧ TDm.Web0 n m ts ∧ ts.length ≤ 12, ?_, ?_⟩
    · repeat walk_at "td"
      refine ⟨by omega, by omega, ?_⟩
      refine for_range (fun _ σ H3 => ∃ (x9 x10 : Option V) (ts : List Tie) (tx : List V), σ = [some (.ref h.a), some (.int 6), some (.int 6), some (.int 12), some (.int (n : Int)), some (.int (m : Int)), some (.int f), some (.ref pt), some (.ref pr), x9, x10, some (.ref pl), x12, x13, x14, x15, x16, x17, some (.int th)] ∧
        Go h H H3 ∧ H3 pt = some (.lst tx) ∧ DpAll K (wo [h.a, pt] H3) tx (ts.map tieD) ∧ TDm.Web0 n m ts ∧ ts.length ≤ 12) ⟨_, _, ts, tx, rfl, go2, hpt, htd, hw, hl12⟩ ?_ (fun σ H3 z => z)
      clear go2 hpt htd hw hl12 tx ts
      rintro i σ H3 hi ⟨x9, x10, ts, tx, rfl, go3, hpt, htd, hw, hl12⟩
      repeat walk_at "td"
      refine ⟨by omega, by omega, ?_⟩
      refine for_range (fun _ σ H3 => ∃ (x10 : Option V) (ts : List Tie) (tx : List V), σ = [some (.ref h.a), some (.int 6), some (.int 6), some (.int 12), some (.int (n : Int)), some (.int (m : Int)), some (.int f), some (.ref pt), some (.ref pr), some (.int (0 + (i : Int))), x10, some (.ref pl), x12, x13, x14, x15, x16, x17, some (.int th)] ∧
        Go h H H3 ∧ H3 pt = some (.lst tx) ∧ DpAll K (wo [h.a, pt] H3) tx (ts.map tieD) ∧ TDm.Web0 n m ts ∧ ts.length ≤ 12) ⟨_, ts, tx, rfl, go3, hpt, htd, hw, hl12⟩ ?_ (fun σ H3 ⟨x10, ts, tx, r⟩ => ⟨_, x10, ts, tx, r⟩)
      clear go3 hpt htd hw hl12 tx ts
      rintro j σ H3 hj ⟨x10, ts, tx, rfl, go3, hpt, htd, hw, hl12⟩
      have ltx : tx.length = ts.length := by rw [htd.length, List.length_map]
      repeat walk_at "td"
      refine ⟨two_ok, fun q nq => ?_⟩
      have npq := fresh_ne nq hpt
      have go4 := go3.new (o := .tup [.int (0 + (i : Int)), .int (0 + (j : Int))]) nq
      have hpt4 : upd H3 q (.tup [.int (0 + (i : Int)), .int (0 + (j : Int))]) pt = some (.lst tx) := (Keeps.new (S := []) nq).same _ _ hpt
      have htd4 := htd.sm (Keeps.new (S := [h.a, pt]) (o := .tup [.int (0 + (i : Int)), .int (0 + (j : Int))]) nq).wo
      have hq4 : upd H3 q (.tup [.int (0 + (i : Int)), .int (0 + (j : Int))]) q = some (.tup [.int (0 + (i : Int)), .int (0 + (j : Int))]) := upd_same
      repeat walk_at "td"
      refine ⟨tieD (0 + (i : Int), 0 + (j : Int)), ts.map tieD, Dp.mkTie (SqT.of hq4), .lst (SqL.of hpt4) (htd4.sm wo_same), shaped_tie _, shaped_lst _, ?_⟩
      rw [any_tie]
      have same : ∃ (x10 : Option V) (ts' : List Tie) (tx' : List V), [some (V.ref h.a), some (.int 6), some (.int 6), some (.int 12), some (.int (n : Int)), some (.int (m : Int)), some (.int f), some (.ref pt), some (.ref pr), some (.int (0 + (i : Int))), some (.int (0 + (j : Int))), some (.ref pl), x12, x13, x14, x15, x16, x17, some (.int th)] = [some (.ref h.a), some (.int 6), some (.int 6), some (.int 12), some (.int (n : Int)), some (.int (m : Int)), some (.int f), some (.ref pt), some (.ref pr), some (.int (0 + (i : Int))), x10, some (.ref pl), x12, x13, x14, x15, x16, x17, some (.int th)] ∧
          Go h H (upd H3 q (.tup [.int (0 + (i : Int)), .int (0 + (j : Int))])) ∧ upd H3 q (.tup [.int (0 + (i : Int)), .int (0 + (j : Int))]) pt = some (.lst tx') ∧ DpAll K (wo [h.a, pt] (upd H3 q (.tup [.int (0 + (i : Int)), .int (0 + (j : Int))]))) tx' (ts'.map tieD) ∧ TDm.Web0 n m ts' ∧ ts'.length ≤ 12 := ⟨_, ts, tx, rfl, go4, hpt4, htd4, hw, hl12⟩
      repeat walk_at "td"
      refine iteDN (fun c1 => ?_) (fun c1 => same)
      repeat walk_at "td"
      refine ⟨_, _, rfl, .inl (SqL.of hpt4), ?_⟩
      repeat walk_at "td"
      refine iteD (fun c2 => ?_) (fun c2 => same)
      clear same
      repeat walk_at "td"
      refine ⟨h, _, rfl, by decide, by decide, go4.hand, fun r H5 h0 h1 go => ?_⟩
      have go5 := go4.trans go
      have hpt5 : H5 pt = some (.lst tx) := go.keep _ _ (by simpa using nta) hpt4
      have htd5 : DpAll K (wo [h.a, pt] H5) tx (ts.map tieD) := htd4.sm (go.keep.mono (by simp)).wo
      repeat walk_at "td"
      refine iteD (fun c3 => ?_) (fun c3 => ?_)
      · repeat walk_at "td"
        refine ⟨two_ok, fun q2 nq2 => ?_⟩
        have npq2 := fresh_ne nq2 hpt5
        refine ⟨pt, tx, _, rfl, rfl, by rw [upd_ne npq2.symm]; exact hpt5, small12 (by omega), ?_⟩
        refine ⟨_, ts ++ [(0 + (i : Int), 0 + (j : Int))], tx ++ [.ref q2], rfl, (go5.new nq2).late nHt nta ntc, upd_same, ?_, hw.more ⟨by show (0 : Int) ≤ 0 + i; omega, by show 0 + (i : Int) < n; omega, by show (0 : Int) ≤ 0 + j; omega, by show 0 + (j : Int) < m; omega⟩ c1, ?_⟩
        · refine fresh_tie nq2 (fun b hb z => ?_) (by simp) htd5
          simp only [List.mem_cons, List.not_mem_nil, or_false] at hb
          rcases hb with e | e <;> subst e
          · obtain ⟨o, e⟩ := go5.hand.some
            rw [e] at z
            cases z
          · rw [hpt5] at z
            cases z
        · rw [List.length_append]
          have : ts.length < 12 := by omega
          show ts.length + 1 ≤ 12
          omega
      · exact ⟨_, ts, tx, rfl, go5, hpt5, htd5, hw, hl12⟩
    clear go2 hpt htd hw hl12 tx ts H2
    rintro σ H2 ⟨x9, x10, ts, tx, rfl, go2, hpt, htd, hw, hl12⟩
    have ltx : tx.length = ts.length := by rw [htd.length, List.length_map]
    have inr := hw.inr
    repeat walk_at "td"
    refine ⟨pt, tx, rfl, SqL.of hpt, by omega, fun y hy => ?_, fun ys q perm pw nq => ?_⟩
    · obtain ⟨i, hi, e⟩ := List.getElem_of_mem hy
      obtain ⟨d, hd, hdp⟩ := (htd.sm wo_same).get (List.getElem?_eq_getElem hi)
      rw [List.getElem?_map] at hd
      cases et : ts[i]? with
      | none => rw [et] at hd; cases hd
      | some t =>
        rw [et] at hd
        have ed : tieD t = d := Option.some.inj hd
        rw [← ed] at hdp
        obtain ⟨p, ept, hp⟩ := hdp.tie
        obtain ⟨r1, r2, r3, r4⟩ := inr t (List.mem_of_getElem? et)
        refine ⟨[t.1, t.2], ⟨p, by rw [← e, ept], hp⟩, rfl, fun z hz => ?_⟩
        rcases List.mem_cons.mp hz with e | hz
        · rw [e]; omega
        · rw [List.mem_singleton.mp hz]; omega
    obtain ⟨us, pus, hus⟩ := dpAll_perm perm htd
    have inru : ∀ t ∈ us, TDm.InR n m t := fun t ht => inr t (pus.mem_iff.mp ht)
    have asc : TDm.Asc us := asc_of (hus.sm wo_same) (fun t ht => by
      obtain ⟨r1, r2, r3, r4⟩ := inru t ht
      exact ⟨r1, by omega, r3, by omega⟩) pw
    repeat walk_at "td"
    refine ⟨three_ok, fun t nt => ?_⟩
    have ntq := fresh_ne nt (upd_same (H := H2) (a := q) (o := .lst ys))
    refine k n m us t q ys _ ((hw.good n1 n6 m1 m6 hl12).perm pus) asc ((go2.new nq).new nt) upd_same (by rw [upd_ne ntq.symm]; exact upd_same) (go2.keep.free nq (by simpa using (go2.hand.fresh nq).1)) ?_
    exact (hus.sm (wo_mono (by simp))).sm ((Keeps.new nq).new' nt).wo
end
end L2.TD
namespace L2.TD
open PySem PySem.Spec PyProof.Rows
local macro_rules | `(tactic| walk_at "td_side") => `(tactic| first
  | ((with_reducible show CMul _ _); refine Or.inr ⟨?_, ?_⟩ <;> decide)
  | ((with_reducible show CDiv _ _); refine ⟨?_, ?_⟩ <;> decide)
  | ((with_reducible show CPow _ _); refine ⟨?_, ?_, ?_⟩ <;> decide)
  | (show (0 : Int) < _; first | decide | omega)
  | ((with_reducible show scal _ _ = true); rfl)
  | ((show tyV _ "list" _ _); exact Or.inl ⟨rfl, _, SqL.of (by first | exact upd_same | assumption)⟩))
local macro_rules | `(tactic| walk_at "td") => `(tactic| first
  | (refine ⟨_, _, rfl, rfl, ?_⟩)
  | (refine ⟨_, rfl, ?_⟩)
  | (refine Or.inl ⟨_, rfl, ?_⟩)
  | (refine And.intro ?side ?_; (case side => walk_at "td_side"))
  | (refine ⟨_, _, _, _, rfl, rfl, SqL.of (by first | exact upd_same | assumption), by rfl, ?_⟩)
  | (refine ⟨_, _, _, _, rfl, rfl, (by first | exact upd_same | assumption), by rfl, ?_⟩))
/-! _law_whole, _law_mixed_up, _law_couples, _law_shape -/
abbrev sMixed : Stmt := top 24
abbrev sCouples : Stmt := top 25
abbrev sShape : Stmt := top 26
def isNum : PyData → Bool
  | .int _ => true
  | _ => false
abbrev rLof (K : PySem.W.Frag) : List V → Hp → VK → Prop := fun xs H Q => ∃ p ys, xs = [.ref p] ∧ (SqL K H p ys ∨ SqT K H p ys) ∧ ∀ l, H l = none → Q (.ref l) (upd H l (.lst ys))
abbrev rTof (K : PySem.W.Frag) : List V → Hp → VK → Prop := fun xs H Q => ∃ p ys, xs = [.ref p] ∧ ((SqL K H p ys ∧ ∀ l, H l = none → Q (.ref l) (upd H l (.tup ys))) ∨ (SqT K H p ys ∧ Q (.ref p) H))
section
variable {P : Program} {w : World} {K : PySem.W.Frag} {mg : Str → Option Value} {base : Heap} {f : Addr} {fd : FuncData}
def spWhole (K : PySem.W.Frag) : Sp := fun vs H Q _ => ∃ (v : V) (d : PyData), vs = [v] ∧ Dp K H v d ∧ Q (.bl (isNum d)) H
theorem scWhole : FnScope ["_law_thing"] ["_law_thing"] (C8.fnScope sWhole) := C8.fnScope_by (by decide +kernel)
theorem ok_whole (B : Blt mg) (F : C8.Def K mg "_law_whole" sWhole f fd) (b : Binds K fd ["_law_thing"] []) : C8.Cal P w K mg base 1 "_law_whole" (spWhole K) [] := by
  refine C8.cal0 F b .nil scWhole (fun vs H Q E h => ?_) (fun cdv A outer s H vs Q E hr h => ?_)
  · obtain ⟨v, d, rfl, _⟩ := h
    rfl
  · obtain ⟨v, d, rfl, hd, k⟩ := h
    refine ⟨_, pss_one (ps_ret (pe_and (pe_callB call_isi (by rfl) B.isinstance (by decide +kernel) (pa_cons (pv 0) (pa_cons (pe_bltn (v := .ty "int") (by rfl) B.int (by decide +kernel) rfl) pa_nil)))
      (pe_one (pe_not (pe_callB call_isi (by rfl) B.isinstance (by decide +kernel) (pa_cons (pv 0) (pa_cons (pe_bltn (v := .ty "bool") (by rfl) B.bool (by decide +kernel) rfl) pa_nil))))))), ?_⟩
    repeat walk_at "td"
    refine ⟨_, _, _, _, _, rfl, .ty _, dp_ty hd, kit_int d, ?_⟩
    repeat walk_at "td"
    cases ei : isI d with
    | false =>
      have e : isNum d = false := by cases d <;> first | rfl | exact Bool.noConfusion ei
      rw [e] at k
      exact iteF k
    | true =>
      refine iteT ?_
      repeat walk_at "td"
      refine ⟨_, _, _, _, _, rfl, .ty _, dp_ty hd, kit_bool d, ?_⟩
      repeat walk_at "td"
      have e : isNum d = !isB d := by cases d <;> first | rfl | exact Bool.noConfusion ei
      rw [e] at k
      exact k
/-- _law_mixed_up: the items in some order, in a new list -/
def spMixed (K : PySem.W.Frag) : Sp := fun vs H Q _ => ∃ (h : HandId) (a : Addr) (xs : List V) (ts : List Tie), vs = [.ref h.a, .ref a] ∧ Hand h H ∧ SqL K H a xs ∧ DpAll K (wo [h.a] H) xs (ts.map tieD) ∧ ts.length ≤ 12 ∧
  ∀ (q : Addr) (ys : List V) (us : List Tie) (H' : Hp), Go h H H' → H q = none → H' q = some (.lst ys) → DpAll K (wo [h.a] H') ys (us.map tieD) → us.Perm ts → Q (.ref q) H'
abbrev nMixed : List Str := ["_law_hand_here", "_law_things", "_law_left", "_law_told", "_law_k"]
theorem scMixed : FnScope nMixed ["_law_hand_here", "_law_things"] (C8.fnScope sMixed) := C8.fnScope_by (by decide +kernel)
theorem erase_perm {α : Type} : ∀ {l : List α} {k : Nat} {a : α}, l[k]? = some a → l.Perm (a :: l.eraseIdx k)
  | [], _, _, h => by simp at h
  | x :: l, 0, a, h => by
    have e : x = a := Option.some.inj h
    rw [e]
    exact .refl _
  | x :: l, k + 1, a, h => by
    have ih := erase_perm (l := l) (k := k) (a := a) h
    exact (ih.cons x).trans (.swap a x _)
theorem ok_mixed (B : Blt mg) (F : C8.Def K mg "_law_mixed_up" sMixed f fd) (b : Binds K fd ["_law_hand_here", "_law_things"] []) (cT : C8.Cal P w K mg base 2 "_law_take" spTake []) : C8.Cal P w K mg base 3 "_law_mixed_up" (spMixed K) [] := by
  refine C8.cal0 F b .nil scMixed (fun vs H Q E h => ?_) (fun cdv A outer s H vs Q E hr h => ?_)
  · obtain ⟨h, a, xs, ts, rfl, _⟩ := h
    rfl
  · obtain ⟨h, a, xs, ts, rfl, hh, hs, hd, hl, k⟩ := h
    have nd := scMixed.nd
    refine ⟨_, pss_cons (ps_set (i := 2) nd rfl (.inl rfl) (pe_callTy call_list_of (by rfl) B.list (by decide +kernel) (pa_cons (pv 1) pa_nil)))
      (pss_cons (ps_set (i := 3) nd rfl (.inl rfl) (pe_lst pa_nil))
      (pss_cons (ps_for PassesOwn.never rfl (pi_range1 (by rfl) B.range (pa_cons (pe_callB call_len_seq (by rfl) B.len PySem.boot_len (pa_cons (pv 2) pa_nil)) pa_nil)) (pg_name (i := 4) nd rfl (.inl rfl))
        (pss_one (ps_expr (pe_bm PySem.F.plainAttrs_list PySem.F.slot_list_append PySem.F.type_list_append mt_append (pv 3) (pa_cons (pe_bm PySem.F.plainAttrs_list PySem.F.slot_list_pop PySem.F.type_list_pop mt_popAt (pv 2) (pa_cons (C8.pe_c cT hr (by decide) (by rfl) (pa_cons (pv 0) (pa_cons (pe_callB call_len_seq (by rfl) B.len PySem.boot_len (pa_cons (pv 2) pa_nil)) pa_nil))) pa_nil)) pa_nil)))))
      (pss_one (ps_ret (pv 3))))), ?_⟩
    have lxs : xs.length = ts.length := by rw [hd.length, List.length_map]
    repeat walk_at "td"
    refine ⟨a, xs, rfl, .inl hs, fun p np => ?_⟩
    obtain ⟨npa, npc⟩ := hh.fresh np
    have hp1 : upd H p (.lst xs) p = some (.lst xs) := upd_same
    have go1 : Go h H (upd H p (.lst xs)) := (Go.refl hh).new np
    have hd1 : DpAll K (wo [p, h.a] (upd H p (.lst xs))) xs (ts.map tieD) := hd.sm (wo_more np)
    generalize upd H p (.lst xs) = H1 at *
    repeat walk_at "td"
    refine ⟨Nat.zero_le _, fun q nq => ?_⟩
    have nqp := fresh_ne nq hp1
    obtain ⟨nqa, nqc⟩ := go1.hand.fresh nq
    have nq0 : H q = none := go1.keep.free nq (by simpa using nqa)
    have hp2 : upd H1 q (.lst []) p = some (.lst xs) := (Keeps.new (S := []) nq).same _ _ hp1
    have hq2 : upd H1 q (.lst []) q = some (.lst []) := upd_same
    have go2 : Go h H (upd H1 q (.lst [])) := go1.new nq
    have hd2 : DpAll K (wo [q, p, h.a] (upd H1 q (.lst []))) xs (ts.map tieD) := hd1.sm (wo_more nq)
    generalize upd H1 q (.lst []) = H2 at *
    repeat walk_at "td"
    refine ⟨_, _, rfl, .inl (SqL.of hp2), ?_⟩
    repeat walk_at "td"
    refine ⟨by omega, by omega, ?_⟩
    refine for_range (fun j σ H3 => ∃ (x4 : Option V) (lx tx : List V) (ls us : List Tie), σ = [some (.ref h.a), some (.ref a), some (.ref p), some (.ref q), x4] ∧ Go h H H3 ∧ H3 p = some (.lst lx) ∧ H3 q = some (.lst tx) ∧
      DpAll K (wo [q, p, h.a] H3) lx (ls.map tieD) ∧ DpAll K (wo [q, p, h.a] H3) tx (us.map tieD) ∧ (ls ++ us).Perm ts ∧ us.length = j)
      ⟨none, xs, [], ts, [], rfl, go2, hp2, hq2, hd2, .nil, by rw [List.append_nil], rfl⟩ ?_ ?_
    · clear hp2 hq2 hd2 go2 H2
      rintro j σ H3 hj ⟨x4, lx, tx, ls, us, rfl, go3, hp3, hq3, hl3, ht3, pm, hj'⟩
      have l1 : lx.length = ls.length := by rw [hl3.length, List.length_map]
      have l2 : tx.length = us.length := by rw [ht3.length, List.length_map]
      have l3 := pm.length_eq
      rw [List.length_append] at l3
      repeat walk_at "td"
      refine ⟨_, _, rfl, .inl (SqL.of hp3), ?_⟩
      repeat walk_at "td"
      refine ⟨h, _, rfl, by omega, by omega, go3.hand, fun r H4 r0 r1 go => ?_⟩
      have hp4 := go.keep _ _ (by simpa using npa) hp3
      have hq4 := go.keep _ _ (by simpa using nqa) hq3
      have kk : Keeps [q, p, h.a] H3 H4 := go.keep.mono (by simp)
      have hr : r.toNat < lx.length := by omega
      obtain ⟨t, ht⟩ : ∃ t, ls[r.toNat]? = some t := ⟨_, List.getElem?_eq_getElem (by omega : r.toNat < ls.length)⟩
      obtain ⟨v, hv, hdv⟩ := (hl3.sm kk.wo).getd (i := r.toNat) (d := tieD t) (by rw [List.getElem?_map, ht]; rfl)
      refine ⟨p, lx, r, r.toNat, v, rfl, rfl, hp4, by omega, by omega, seqIx (k := 0) r0 (by omega), hv, ?_⟩
      repeat walk_at "td"
      refine ⟨q, tx, _, rfl, rfl, by rw [upd_ne nqp]; exact hq4, small12 (by omega), ?_⟩
      have k5 : Keeps [q, p, h.a] H4 (upd (upd H4 p (.lst (lx.eraseIdx r.toNat))) q (.lst (tx ++ [v]))) := (Keeps.mut (by simp)).mut' (by simp)
      refine ⟨_, lx.eraseIdx r.toNat, tx ++ [v], ls.eraseIdx r.toNat, us ++ [t], rfl, ((go3.trans go).late np npa npc).late nq0 nqa nqc, by rw [upd_ne nqp.symm]; exact upd_same, upd_same, ?_, ?_, ?_, by rw [List.length_append, hj']; rfl⟩
      · rw [← map_erase]
        exact ((hl3.sm kk.wo).sm k5.wo).erase _
      · rw [List.map_append]
        exact ((ht3.sm kk.wo).sm k5.wo).append (.cons (hdv.sm k5.wo) .nil)
      · refine List.Perm.trans ?_ pm
        rw [← List.append_assoc]
        refine List.Perm.trans (List.perm_append_comm) ?_
        exact ((erase_perm ht).append_right us).symm
    · rintro σ H3 ⟨x4, lx, tx, ls, us, rfl, go3, hp3, hq3, hl3, ht3, pm, hj'⟩
      have l3 := pm.length_eq
      rw [List.length_append] at l3
      have e0 : ls = [] := List.eq_nil_of_length_eq_zero (by omega)
      subst e0
      repeat walk_at "td"
      exact k q tx us H3 go3 nq0 hq3 (ht3.sm (wo_mono (by simp))) pm
theorem sqL_kp {S : List Addr} {H H' : Hp} {a : Addr} {xs : List V} (h : SqL K H a xs) (k : Keeps S H H') (n : a ∉ S) : SqL K H' a xs := by
  rcases h with (h | ⟨o, h⟩) | h
  · exact .inl (.inl (k _ _ n h))
  · exact .inl (.inr ⟨o, k _ _ n h⟩)
  · exact .inr h
theorem sqT_kp {S : List Addr} {H H' : Hp} {a : Addr} {xs : List V} (h : SqT K H a xs) (k : Keeps S H H') (n : a ∉ S) : SqT K H' a xs := by
  rcases h with (h | ⟨o, h⟩) | h
  · exact .inl (.inl (k _ _ n h))
  · exact .inl (.inr ⟨o, k _ _ n h⟩)
  · exact .inr h
/-- the items of couples: each the tie's numbers, in a list or in a tuple -/
def IsCouples (ds : List PyData) (ts : List Tie) : Prop := ds.length = ts.length ∧ ∀ (i : Nat) (d : PyData) (t : Tie), ds[i]? = some d → ts[i]? = some t → d = .list [.int t.1, .int t.2] ∨ d = .tuple [.int t.1, .int t.2]
theorem IsCouples.snoc {ds : List PyData} {ts : List Tie} {d : PyData} {t : Tie} (h : IsCouples ds ts) (hd : d = .list [.int t.1, .int t.2] ∨ d = .tuple [.int t.1, .int t.2]) : IsCouples (ds ++ [d]) (ts ++ [t]) := by
  obtain ⟨h1, h2⟩ := h
  refine ⟨by rw [List.length_append, List.length_append, h1]; rfl, fun i e u he hu => ?_⟩
  rcases Nat.lt_trichotomy i ds.length with hi | hi | hi
  · rw [List.getElem?_append_left hi] at he
    rw [List.getElem?_append_left (by omega)] at hu
    exact h2 i e u he hu
  · subst hi
    rw [List.getElem?_append_right (Nat.le_refl _), Nat.sub_self] at he
    rw [h1, List.getElem?_append_right (Nat.le_refl _), Nat.sub_self] at hu
    cases he
    cases hu
    exact hd
  · rw [List.getElem?_eq_none (by rw [List.length_append]; show ds.length + 1 ≤ i; omega)] at he
    cases he
def CoupleV (K : PySem.W.Frag) (H0 H : Hp) (D : Addr) (S : List Addr) (v : V) : Prop := (∃ (p : Addr) (zs : List V), v = .ref p ∧ H0 p = none ∧ p ≠ D ∧ H p = some (.lst zs) ∧ zs.length = 2) ∨ ∃ (p : Addr) (t : Tie), v = .ref p ∧ SqT K (wo S H) p (tieV t)
def spCouples (K : PySem.W.Frag) : Sp := fun vs H Q _ => ∃ (h : HandId) (a : Addr) (xs : List V) (ts : List Tie), vs = [.ref h.a, .ref a] ∧ Hand h H ∧ a ≠ h.a ∧ SqL K H a xs ∧ DpAll K (wo [h.a] H) xs (ts.map tieD) ∧ ts.length ≤ 12 ∧
  ∀ (D : Addr) (ys : List V) (ds : List PyData) (H' : Hp), Go h H H' → H D = none → H' D = some (.lst ys) → DpAll K (wo [D, h.a] H') ys ds → IsCouples ds ts → (∀ v ∈ ys, CoupleV K H H' D [D, h.a] v) → Q (.ref D) H'
abbrev nCouples : List Str := ["_law_hand_here", "_law_ties", "_law_tie"]
theorem scCouples : FnScope nCouples ["_law_hand_here", "_law_ties"] (C8.fnScope sCouples) := C8.fnScope_by (by decide +kernel)
theorem ok_couples (B : Blt mg) (F : C8.Def K mg "_law_couples" sCouples f fd) (b : Binds K fd ["_law_hand_here", "_law_ties"] []) (cT : C8.Cal P w K mg base 2 "_law_take" spTake []) : C8.Cal P w K mg base 3 "_law_couples" (spCouples K) [] := by
  refine C8.cal0 F b .nil scCouples (fun vs H Q E h => ?_) (fun cdv A outer s H vs Q E hr h => ?_)
  · obtain ⟨h, a, xs, ts, rfl, _⟩ := h
    rfl
  · obtain ⟨h, a, xs, ts, rfl, hh, nah, hs, hd, hl, k⟩ := h
    have nd := scCouples.nd
    refine ⟨_, pss_one (ps_ret (pe_lc (own := [("_law_tie", 2)]) (g := gName 2) (tt := tYes) (te := tIf (tTest (tOp rEq (tCall spTake [] C8.E0 (tCons (tVar 0) (tCons (tC (.int 2)) tNil))) (tC (.int 0)))) (tCB (rLof K) (tCons (tVar 2) tNil)) (tCB (rTof K) (tCons (tVar 2) tNil))) rfl nd (pi_list (pv 1)) (blkOk_by (N := nCouples) (sc := C8.fnScope sCouples) (by decide +kernel))
      (fun _ _ _ _ _ => pg_name (i := 2) nd rfl (.inl rfl)) (fun _ _ _ _ _ => pts_nil) (fun _ _ _ _ _ => pe_ifExp (pt_cmpR op_eq (C8.pe_c cT hr (by decide) (by rfl) (pa_cons (pv 0) (pa_cons pe_int pa_nil))) pe_int (nomark _))
        (pe_callTy call_list_of (by rfl) B.list (by decide +kernel) (pa_cons (pv 2) pa_nil)) (pe_callTy call_tuple_of (by rfl) B.tuple (by decide +kernel) (pa_cons (pv 2) pa_nil))))), ?_⟩
    have lxs : xs.length = ts.length := by rw [hd.length, List.length_map]
    repeat walk_at "td"
    refine ⟨⟨_, hs⟩, fun D nD => ?_⟩
    obtain ⟨nDa, nDc⟩ := hh.fresh nD
    have cvk : ∀ {Ha Hb : Hp} {v : V}, CoupleV K H Ha D [D, h.a] v → Keeps [D, h.a] Ha Hb → CoupleV K H Hb D [D, h.a] v := by
      rintro Ha Hb v (⟨p, zs, rfl, np, npD, hp, hz⟩ | ⟨p, t, rfl, hp⟩) kk
      · exact .inl ⟨p, zs, rfl, np, npD, kk _ _ (by simp only [List.mem_cons, List.not_mem_nil, or_false, not_or]; exact ⟨npD, (hh.fresh np).1⟩) hp, hz⟩
      · exact .inr ⟨p, t, rfl, hp.sm kk.wo⟩
    refine lc_list (K := K) (a := a) (xs := xs) (fun j H3 => ∃ (acc : List V) (ds : List PyData), Go h H H3 ∧ H3 D = some (.lst acc) ∧ DpAll K (wo [D, h.a] H3) acc ds ∧ IsCouples ds (ts.take j) ∧ ∀ v ∈ acc, CoupleV K H H3 D [D, h.a] v)
      ⟨[], [], (Go.refl hh).new nD, upd_same, .nil, ⟨rfl, fun i d t e => by cases e⟩, fun v hv => by cases hv⟩ (fun j H3 _ ⟨_, _, go, _⟩ => sqL_kp hs go.keep (by simpa using nah)) ?_ ?_
    · rintro j y H3 hy ⟨acc, ds, go3, hD3, hA3, hC3, hV3⟩
      obtain ⟨d, hd', hdp⟩ := hd.get hy
      obtain ⟨t, ht, rfl⟩ : ∃ t, ts[j]? = some t ∧ d = tieD t := by
        rw [List.getElem?_map] at hd'
        cases e : ts[j]? with
        | none => rw [e] at hd'; cases hd'
        | some t => rw [e] at hd'; exact ⟨t, rfl, (Option.some.inj hd').symm⟩
      obtain ⟨pt, rfl, hpt⟩ := hdp.tie
      have hj : j < ts.length := (List.getElem?_eq_some_iff.mp ht).1
      have hla : acc.length < sizeLine := by
        have e1 := hA3.length
        have e2 := hC3.1
        rw [List.length_take] at e2
        exact small12 (by omega)
      refine ⟨rfl, ?_⟩
      repeat walk_at "td"
      refine ⟨h, _, rfl, by decide, by decide, go3.hand, fun r H4 r0 r1 go => ?_⟩
      have hD4 := go.keep _ _ (by simpa using nDa) hD3
      have k4 : Keeps [D, h.a] H3 H4 := go.keep.mono (by simp)
      have go4 := go3.trans go
      have hpt4w : SqT K (wo [D, h.a] H4) pt (tieV t) := by
        have e1 : Same (wo [h.a] H) (wo [D, h.a] H4) := fun b o e => by
          obtain ⟨e2, e3⟩ := wo_at e
          have nb : b ≠ D := (fresh_ne nD e2).symm
          rw [wo_out (by simp only [List.mem_cons, List.not_mem_nil, or_false, not_or]; exact ⟨nb, by simpa using e3⟩)]
          exact go4.keep _ _ e3 e2
        exact hpt.sm e1
      have hpt4 : SqT K H4 pt (tieV t) := hpt4w.sm wo_same
      repeat walk_at "td"
      refine iteD (fun c => ?_) (fun c => ?_)
      · repeat walk_at "td"
        refine ⟨pt, _, rfl, .inr hpt4, fun l nl => ?_⟩
        have nlD := fresh_ne nl hD4
        have nla := go4.hand.fresh nl
        have k5 : Keeps [D, h.a] H4 (upd (upd H4 l (.lst (tieV t))) D (.lst (acc ++ [.ref l]))) := (Keeps.new nl).mut' (by simp)
        refine ⟨acc, by rw [upd_ne nlD.symm]; exact hD4, hla, acc ++ [.ref l], ds ++ [.list [.int t.1, .int t.2]], (go4.new nl).late nD nDa nDc, upd_same, ?_, ?_, ?_⟩
        · refine ((hA3.sm k4.wo).sm k5.wo).snoc (.lst (SqL.of ?_) (.cons (.int _) (.cons (.int _) .nil)))
          rw [wo_out (by simp only [List.mem_cons, List.not_mem_nil, or_false, not_or]; exact ⟨nlD, nla.1⟩), upd_ne nlD, upd_same]
          rfl
        · rw [take_more ht]
          exact hC3.snoc (.inl rfl)
        · intro v hv
          rcases List.mem_append.mp hv with hv | hv
          · exact cvk (cvk (hV3 v hv) k4) k5
          · have e : v = .ref l := by simpa using hv
            refine .inl ⟨l, tieV t, e, go4.keep.free nl (by simpa using nla.1), nlD, ?_, rfl⟩
            rw [upd_ne nlD, upd_same]
      · repeat walk_at "td"
        refine ⟨pt, _, rfl, .inr ⟨hpt4, ?_⟩⟩
        have k5 : Keeps [D, h.a] H4 (upd H4 D (.lst (acc ++ [.ref pt]))) := Keeps.mut (by simp)
        refine ⟨acc, hD4, hla, acc ++ [.ref pt], ds ++ [tieD t], go4.late nD nDa nDc, upd_same, ?_, ?_, ?_⟩
        · exact ((hA3.sm k4.wo).sm k5.wo).snoc (Dp.mkTie (hpt4w.sm k5.wo))
        · rw [take_more ht]
          exact hC3.snoc (.inr rfl)
        · intro v hv
          rcases List.mem_append.mp hv with hv | hv
          · exact cvk (cvk (hV3 v hv) k4) k5
          · have e : v = .ref pt := by simpa using hv
            exact .inr ⟨pt, t, e, hpt4w.sm k5.wo⟩
    · rintro H3 ⟨acc, ds, go3, hD3, hA3, hC3, hV3⟩
      rw [lxs, List.take_length] at hC3
      exact k D acc ds H3 go3 nD hD3 hA3 hC3 hV3
/-- _law_shape: the ties in a new list or tuple -/
def spShape (K : PySem.W.Frag) : Sp := fun vs H Q _ => ∃ (h : HandId) (a : Addr) (xs : List V), vs = [.ref h.a, .ref a] ∧ Hand h H ∧ a ≠ h.a ∧ SqL K H a xs ∧
  ∀ (q : Addr) (H' : Hp), Go h H H' → H q = none → (H' q = some (.lst xs) ∨ H' q = some (.tup xs)) → Q (.ref q) H'
theorem scShape : FnScope ["_law_hand_here", "_law_things"] ["_law_hand_here", "_law_things"] (C8.fnScope sShape) := C8.fnScope_by (by decide +kernel)
theorem ok_shape (B : Blt mg) (F : C8.Def K mg "_law_shape" sShape f fd) (b : Binds K fd ["_law_hand_here", "_law_things"] []) (cT : C8.Cal P w K mg base 2 "_law_take" spTake []) : C8.Cal P w K mg base 3 "_law_shape" (spShape K) [] := by
  refine C8.cal0 F b .nil scShape (fun vs H Q E h => ?_) (fun cdv A outer s H vs Q E hr h => ?_)
  · obtain ⟨h, a, xs, rfl, _⟩ := h
    rfl
  · obtain ⟨h, a, xs, rfl, hh, nah, hs, k⟩ := h
    have nd := scShape.nd
    refine ⟨_, pss_one (ps_ret (pe_ifExp (pt_cmpR op_eq (C8.pe_c cT hr (by decide) (by rfl) (pa_cons (pv 0) (pa_cons pe_int pa_nil))) pe_int (nomark _))
        (pe_callTy call_list_of (by rfl) B.list (by decide +kernel) (pa_cons (pv 1) pa_nil)) (pe_callTy call_tuple_of (by rfl) B.tuple (by decide +kernel) (pa_cons (pv 1) pa_nil)))), ?_⟩
    repeat walk_at "td"
    refine ⟨h, _, rfl, by decide, by decide, hh, fun r H4 r0 r1 go => ?_⟩
    have hs4 := sqL_kp hs go.keep (by simpa using nah)
    repeat walk_at "td"
    refine iteD (fun c => ?_) (fun c => ?_)
    · repeat walk_at "td"
      refine ⟨a, xs, rfl, .inl hs4, fun l nl => ?_⟩
      exact k l _ (go.new nl) (go.keep.free nl (by simpa using (go.hand.fresh nl).1)) (.inl upd_same)
    · repeat walk_at "td"
      refine ⟨a, xs, rfl, .inl ⟨hs4, fun l nl => ?_⟩⟩
      exact k l _ (go.new nl) (go.keep.free nl (by simpa using (go.hand.fresh nl).1)) (.inr upd_same)
end
end L2.TD
namespace L2.TD
open PySem PySem.Spec PyProof.Rows
local macro_rules | `(tactic| walk_at "td_side") => `(tactic| first
  | ((with_reducible show CMul _ _); refine Or.inr ⟨?_, ?_⟩ <;> decide)
  | ((with_reducible show CDiv _ _); refine ⟨?_, ?_⟩ <;> decide)
  | ((with_reducible show CPow _ _); refine ⟨?_, ?_, ?_⟩ <;> decide)
  | (show (0 : Int) < _; first | decide | omega)
  | ((with_reducible show scal _ _ = true); rfl)
  | ((show tyV _ "list" _ _); exact Or.inl ⟨rfl, _, SqL.of (by first | exact upd_same | assumption)⟩))
local macro_rules | `(tactic| walk_at "td") => `(tactic| first
  | (refine ⟨_, _, rfl, rfl, ?_⟩)
  | (refine ⟨_, rfl, ?_⟩)
  | (refine Or.inl ⟨_, rfl, ?_⟩)
  | (refine And.intro ?side ?_; (case side => walk_at "td_side"))
  | (refine ⟨_, _, _, _, rfl, rfl, SqL.of (by first | exact upd_same | assumption), by rfl, ?_⟩)
  | (refine ⟨_, _, _, _, rfl, rfl, (by first | exact upd_same | assumption), by rfl, ?_⟩))
/-! _law_word_due -/
abbrev sDue : Stmt := top 27
def wordV : Option Str → V
  | none => .non
  | some x => .str x
section
variable {P : Program} {w : World} {K : PySem.W.Frag} {mg : Str → Option Value} {base : Heap} {f : Addr} {fd : FuncData}
theorem TArg.same {H H' : Hp} {v : V} {T : Option (List PyData)} (h : TArg K H v T) (e : Same H H') : TArg K H' v T := by
  cases h with
  | seq hq hd hl => exact .seq (hq.elim (fun h => .inl (h.sm e)) fun h => .inr (h.sm e)) (hd.sm e) hl
  | no ht hk => exact .no (tyX_same ht e) hk
theorem len_sub {L ks : List (Addr × List Int)} (nd : (L.map (·.2)).Nodup) (h1 : ∀ p ∈ L, p ∈ ks) (h2 : ∀ p ∈ ks, p.2 ∈ L.map (·.2)) : L.length ≤ ks.length := by
  obtain ⟨r, hr⟩ := perm_of_sub (l := L.map (·.2)) (k := ks.map (·.2)) nd (fun x hx => by
    obtain ⟨p, hp, e⟩ := List.mem_map.mp hx
    exact List.mem_map.mpr ⟨p, h1 p hp, e⟩)
  have := hr.length_eq
  rw [List.length_append, List.length_map, List.length_map] at this
  omega
theorem isNum_in {lo hi : Int} {d : PyData} (h : isNum d = false) : wholeIn lo hi d = false := by cases d <;> first | rfl | exact Bool.noConfusion h
theorem isNum_int {d : PyData} (h : isNum d = true) : ∃ i, d = .int i := by cases d <;> first | exact ⟨_, rfl⟩ | exact Bool.noConfusion h
theorem in_lo {lo hi i : Int} (h : i < lo) : wholeIn lo hi (.int i) = false := by
  show (decide (lo ≤ i) && decide (i ≤ hi)) = false
  rw [decide_eq_false (by omega)]
  rfl
theorem in_hi {lo hi i : Int} (h : hi < i) : wholeIn lo hi (.int i) = false := by
  show (decide (lo ≤ i) && decide (i ≤ hi)) = false
  rw [decide_eq_false (by omega : ¬ i ≤ hi), Bool.and_false]
theorem in_ok {lo hi i : Int} (h : lo ≤ i) (h2 : i ≤ hi) : wholeIn lo hi (.int i) = true := by
  show (decide (lo ≤ i) && decide (i ≤ hi)) = true
  rw [decide_eq_true h, decide_eq_true h2]
  rfl
def spDue (K : PySem.W.Frag) : Sp := fun vs H Q _ => ∃ (v1 v2 v3 : V) (d1 d2 : PyData) (T : Option (List PyData)), vs = [v1, v2, v3] ∧ Dp K H v1 d1 ∧ Dp K H v2 d2 ∧ TArg K H v3 T ∧ ∀ H', Same H H' → Q (wordV (word d1 d2 T)) H'
abbrev nDue : List Str := ["_law_things", "_law_clubs", "_law_ties", "_law_kept_here", "_law_item", "_law_thing", "_law_club"]
theorem scDue : FnScope nDue ["_law_things", "_law_clubs", "_law_ties"] (C8.fnScope sDue) := C8.fnScope_by (by decide +kernel)
theorem ok_due (B : Blt mg) (F : C8.Def K mg "_law_word_due" sDue f fd) (b : Binds K fd ["_law_things", "_law_clubs", "_law_ties"] []) (cW : C8.Cal P w K mg base 1 "_law_whole" (spWhole K) []) (cM : C8.Cal P w K mg base 1 "_law_marks" (spMarks K) []) : C8.Cal P w K mg base 2 "_law_word_due" (spDue K) [] := by
  refine C8.cal0 F b .nil scDue (fun vs H Q E h => ?_) (fun cdv A outer s H vs Q E hr h => ?_)
  · obtain ⟨v1, v2, v3, d1, d2, T, rfl, _⟩ := h
    rfl
  · obtain ⟨v1, v2, v3, d1, d2, T', rfl, hd1, hd2, hT, k⟩ := h
    have nd := scDue.nd
    refine ⟨_, pss_cons (ps_if (PW.pt (pw_or (pt_not (pt_val (C8.pe_c cW hr (by decide) (by rfl) (pa_cons (pv 0) pa_nil)))) (pw_or (pt_cmpR op_lt (pv 0) pe_int (nomark _)) (pw_or1 (pt_cmpR op_gt (pv 0) pe_int (nomark _)))))) (pss_one (ps_ret pe_str)) pss_nil)
      (pss_cons (ps_if (PW.pt (pw_or (pt_not (pt_val (C8.pe_c cW hr (by decide) (by rfl) (pa_cons (pv 1) pa_nil)))) (pw_or (pt_cmpR op_lt (pv 1) pe_int (nomark _)) (pw_or1 (pt_cmpR op_gt (pv 1) pe_int (nomark _)))))) (pss_one (ps_ret pe_str)) pss_nil)
      (pss_cons (ps_if (pt_not (pt_val (pe_callB call_isiT (by rfl) B.isinstance (by decide +kernel) (pa_cons (pv 2) (pa_cons (pe_tup (pa_cons (pe_bltn (v := .ty "list") (by rfl) B.list (by decide +kernel) rfl) (pa_cons (pe_bltn (v := .ty "tuple") (by rfl) B.tuple (by decide +kernel) rfl) pa_nil))) pa_nil))))) (pss_one (ps_ret pe_str)) pss_nil)
      (pss_cons (ps_set (i := 3) nd rfl (.inl rfl) (pe_lst pa_nil))
      (pss_cons (ps_for PassesOwn.never rfl (pi_seq (pv 2)) (pg_name (i := 4) nd rfl (.inl rfl))
        (pss_cons (ps_if (PW.pt (pw_or (pt_not (pt_val (pe_callB call_isiT (by rfl) B.isinstance (by decide +kernel) (pa_cons (pv 4) (pa_cons (pe_tup (pa_cons (pe_bltn (v := .ty "list") (by rfl) B.list (by decide +kernel) rfl) (pa_cons (pe_bltn (v := .ty "tuple") (by rfl) B.tuple (by decide +kernel) rfl) pa_nil))) pa_nil)))))
            (pw_or1 (pt_cmpR op_ne (pe_callB call_len_seq (by rfl) B.len PySem.boot_len (pa_cons (pv 4) pa_nil)) pe_int (nomark _))))) (pss_one (ps_ret pe_str)) pss_nil)
        (pss_cons (ps_asg (pv 4) (pg_seq (n := 2) rfl (pgs_cons (pg_name (i := 5) nd rfl (.inl rfl)) (pgs_cons (pg_name (i := 6) nd rfl (.inl rfl)) pgs_nil))))
        (pss_cons (ps_if (PW.pt (pw_or (pt_not (pt_val (C8.pe_c cW hr (by decide) (by rfl) (pa_cons (pv 5) pa_nil)))) (pw_or (pt_cmpR op_lt (pv 5) pe_int (nomark _)) (pw_or1 (pt_cmpR op_ge (pv 5) (pv 0) (nomark _)))))) (pss_one (ps_ret pe_str)) pss_nil)
        (pss_cons (ps_if (PW.pt (pw_or (pt_not (pt_val (C8.pe_c cW hr (by decide) (by rfl) (pa_cons (pv 6) pa_nil)))) (pw_or (pt_cmpR op_lt (pv 6) pe_int (nomark _)) (pw_or1 (pt_cmpR op_ge (pv 6) (pv 1) (nomark _)))))) (pss_one (ps_ret pe_str)) pss_nil)
        (pss_one (ps_expr (pe_bm PySem.F.plainAttrs_list PySem.F.slot_list_append PySem.F.type_list_append mt_append (pv 3) (pa_cons (pe_tup (pa_cons (pv 5) (pa_cons (pv 6) pa_nil))) pa_nil)))))))))
      (pss_cons (ps_if (pt_cmpR op_lt (pe_callB call_len_setT (by rfl) B.len PySem.boot_len (pa_cons (pe_callTy (cr_setOfT rfl hr.units) (by rfl) B.set (by decide +kernel) (pa_cons (pv 3) pa_nil)) pa_nil)) (pe_callB call_len_seq (by rfl) B.len PySem.boot_len (pa_cons (pv 3) pa_nil)) (nomark _))
          (pss_one (ps_ret pe_str)) pss_nil)
      (pss_cons (ps_if (pt_cmpR op_gt (pe_callB call_len_seq (by rfl) B.len PySem.boot_len (pa_cons (pv 3) pa_nil)) pe_int (nomark _)) (pss_one (ps_ret pe_str)) pss_nil)
      (pss_one (ps_ret (pe_ifExp (pt_cmpR op_eq (pe_lenSetN rfl (by rfl) B.len (by rfl) B.set (C8.pe_c cM hr (by decide) (by rfl) (pa_cons (pv 0) (pa_cons (pv 1) (pa_cons (pv 3) pa_nil))))) pe_int (nomark _)) pe_non pe_str))))))))), ?_⟩
    have refl1 : Same H H := fun _ _ e => e
    have wordThings : wholeIn 1 6 d1 = false → Q (.str "things") H := fun h => by
      have := k H refl1
      rw [word_things h] at this
      exact this
    repeat walk_at "td"
    refine ⟨_, _, rfl, hd1, ?_⟩
    repeat walk_at "td"
    cases w1 : isNum d1 with
    | false => exact iteT (wordThings (isNum_in w1))
    | true =>
    refine iteF ?_
    obtain ⟨i, rfl⟩ := isNum_int w1
    cases hd1
    repeat walk_at "td"
    refine iteD (fun c => wordThings (in_lo c)) (fun c1 => ?_)
    repeat walk_at "td"
    refine iteD (fun c => wordThings (in_hi c)) (fun c2 => ?_)
    clear wordThings
    obtain ⟨n, rfl⟩ : ∃ n : Nat, i = n := ⟨i.toNat, by omega⟩
    have w1 : wholeIn 1 6 (.int n) = true := in_ok (by omega) (by omega)
    have wordClubs : wholeIn 1 6 d2 = false → Q (.str "clubs") H := fun h => by
      have := k H refl1
      rw [word_clubs w1 h] at this
      exact this
    repeat walk_at "td"
    refine ⟨_, _, rfl, hd2, ?_⟩
    repeat walk_at "td"
    cases w2 : isNum d2 with
    | false => exact iteT (wordClubs (isNum_in w2))
    | true =>
    refine iteF ?_
    obtain ⟨j, rfl⟩ := isNum_int w2
    cases hd2
    repeat walk_at "td"
    refine iteD (fun c => wordClubs (in_lo c)) (fun c3 => ?_)
    repeat walk_at "td"
    refine iteD (fun c => wordClubs (in_hi c)) (fun c4 => ?_)
    clear wordClubs
    obtain ⟨m, rfl⟩ : ∃ m : Nat, j = m := ⟨j.toNat, by omega⟩
    have w2 : wholeIn 1 6 (.int m) = true := in_ok (by omega) (by omega)
    have wT : word (.int n) (.int m) T' = wordT n m T' := word_T w1 w2
    rw [wT] at k
    clear wT w1 w2 refl1
    repeat walk_at "td"
    refine ⟨two_ok, fun p0 np0 => ?_⟩
    have sm1 : Same H (upd H p0 (.tup [.ty "list", .ty "tuple"])) := (Keeps.new (S := []) np0).same
    cases hT with
    | no ht hk =>
      refine ⟨_, _, _, _, _, _, rfl, upd_same, .cons (.ty _) (.cons (.ty _) .nil), tyX_same ht sm1, hk, ?_⟩
      repeat walk_at "td"
      exact k _ sm1
    | @seq a xs ds hq hds hlen =>
    obtain ⟨ty, hty, hkt⟩ : ∃ ty, TyX K H (.ref a) ty ∧ PySem.W.kitAny K ty [.type "list", .type "tuple"] = some true := by
      rcases hq with h | h
      · exact ⟨_, dp_ty (Dp.lst h hds), kit_lt (.list ds)⟩
      · exact ⟨_, dp_ty (Dp.tup h hds), kit_lt (.tuple ds)⟩
    refine ⟨_, _, _, _, _, _, rfl, upd_same, .cons (.ty _) (.cons (.ty _) .nil), tyX_same hty sm1, hkt, ?_⟩
    generalize upd H p0 (.tup [.ty "list", .ty "tuple"]) = H1 at sm1 ⊢
    repeat walk_at "td"
    refine ⟨Nat.zero_le _, fun p np => ?_⟩
    repeat walk_at "td"
    refine seq_loop (K := K) (a := a) (xs := xs) (H0 := H) hq (fun i σ' H' => ∃ (x4 x5 x6 : Option V) (xs' : List V) (ts' : List Tie), σ' = [some (.int n), some (.int m), some (.ref a), some (.ref p), x4, x5, x6] ∧ Same H1 H' ∧ H' p = some (.lst xs') ∧
        DpAll K (wo [p] H') xs' (ts'.map tieD) ∧ tiesOf n m (ds.take i) = some ts')
      ⟨none, none, none, [], [], rfl, (Keeps.new (S := []) np).same, upd_same, .nil, rfl⟩ (fun i σ' H' ⟨_, _, _, _, _, _, sm, _⟩ b o e => sm b o (sm1 b o e)) ?_ ?_
    · rintro i y σ' H' hy ⟨x4, x5, x6, xs', ts', rfl, sm, hp, hts, htake⟩
      obtain ⟨d, hd, hdp⟩ := hds.get hy
      have sm0 : Same H H' := fun b o e => sm b o (sm1 b o e)
      have hil : i < ds.length := (List.getElem?_eq_some_iff.mp hd).1
      have bad : tieOf n m d = none → ∀ H9, Same H H9 → Q (.str "tie") H9 := fun h H9 s9 => by
        have := k H9 s9
        rw [wordT_tie (tiesOf_bad (List.mem_of_getElem? hd) h)] at this
        exact this
      repeat walk_at "td"
      refine ⟨two_ok, fun p2 np2 => ?_⟩
      have sm2 : Same H' (upd H' p2 (.tup [.ty "list", .ty "tuple"])) := (Keeps.new (S := []) np2).same
      refine ⟨_, _, _, _, _, _, rfl, upd_same, .cons (.ty _) (.cons (.ty _) .nil), tyX_same (dp_ty (hdp.sm sm0)) sm2, kit_lt d, ?_⟩
      have hp2 := sm2 _ _ hp
      have hts2 := hts.sm (sm2.wo (S := [p]))
      have sm12 : Same H1 (upd H' p2 (.tup [.ty "list", .ty "tuple"])) := fun b o e => sm2 b o (sm b o e)
      have sm02 : Same H (upd H' p2 (.tup [.ty "list", .ty "tuple"])) := fun b o e => sm2 b o (sm0 b o e)
      have hdp2 := hdp.sm sm02
      generalize upd H' p2 (.tup [.ty "list", .ty "tuple"]) = H2 at hp2 hts2 sm12 sm02 hdp2 ⊢
      repeat walk_at "td"
      cases el : isLT d with
      | false => exact iteT (bad (tieOf_nopair (by cases d <;> first | rfl | exact Bool.noConfusion el)) _ sm02)
      | true =>
      refine iteF ?_
      obtain ⟨pp, vs', es, rfl, hpp, hes, epair⟩ : ∃ (pp : Addr) (vs' : List V) (es : List PyData), y = .ref pp ∧ (SqL K H2 pp vs' ∨ SqT K H2 pp vs') ∧ DpAll K H2 vs' es ∧ isPair d = decide (V.int (es.length : Int) = V.int 2) := by
        cases d with
        | list es =>
          cases hdp2 with
          | lst hs ha => exact ⟨_, _, _, rfl, .inl hs, ha, isPair_len.1⟩
        | tuple es =>
          cases hdp2 with
          | tup hs ha => exact ⟨_, _, _, rfl, .inr hs, ha, isPair_len.2⟩
        | none => exact Bool.noConfusion el
        | bool b => exact Bool.noConfusion el
        | int b => exact Bool.noConfusion el
        | str b => exact Bool.noConfusion el
        | dict b => exact Bool.noConfusion el
      rw [← hes.length] at epair
      repeat walk_at "td"
      refine ⟨_, _, rfl, hpp, ?_⟩
      repeat walk_at "td"
      cases ip : isPair d with
      | false =>
        rw [ip] at epair
        refine iteDN (fun c => bad (tieOf_nopair ip) _ sm02) (fun c => ?_)
        rw [decide_eq_true c] at epair
        cases epair
      | true =>
      rw [ip] at epair
      refine iteDN (fun c => ?_) (fun c => ?_)
      · rw [decide_eq_false c] at epair
        cases epair
      clear c epair hpp hes vs' es el
      obtain ⟨pp', va, vb, da, db, epp, hpp, hda, hdb, tie_eq⟩ := dp_pair hdp2 ip
      cases epp
      rw [tie_eq] at bad
      repeat walk_at "td"
      refine ⟨pp, [va, vb], rfl, hpp, rfl, _, _, rfl, _, _, rfl, rfl, ?_⟩
      repeat walk_at "td"
      refine ⟨_, _, rfl, hda, ?_⟩
      repeat walk_at "td"
      cases w3 : isNum da with
      | false => exact iteT (bad (tieOf_none1 (isNum_in w3)) _ sm02)
      | true =>
      refine iteF ?_
      obtain ⟨ia, rfl⟩ := isNum_int w3
      cases hda
      repeat walk_at "td"
      refine iteD (fun c => bad (tieOf_none1 (in_lo c)) _ sm02) (fun ca => ?_)
      repeat walk_at "td"
      refine iteD (fun c => bad (tieOf_none1 (in_hi (by omega))) _ sm02) (fun cb => ?_)
      repeat walk_at "td"
      refine ⟨_, _, rfl, hdb, ?_⟩
      repeat walk_at "td"
      cases w4 : isNum db with
      | false => exact iteT (bad (tieOf_none2 (isNum_in w4)) _ sm02)
      | true =>
      refine iteF ?_
      obtain ⟨ib, rfl⟩ := isNum_int w4
      cases hdb
      repeat walk_at "td"
      refine iteD (fun c => bad (tieOf_none2 (in_lo c)) _ sm02) (fun cc => ?_)
      repeat walk_at "td"
      refine iteD (fun c => bad (tieOf_none2 (in_hi (by omega))) _ sm02) (fun cd => ?_)
      repeat walk_at "td"
      refine ⟨two_ok, fun q nq => ?_⟩
      have npq : p ≠ q := ne_of_none hp2 nq
      refine ⟨p, xs', _, rfl, rfl, by rw [upd_ne npq]; exact hp2, ?_, ?_⟩
      · have e1 := hts.length
        rw [List.length_map, tiesOf_len htake, List.length_take] at e1
        exact small12 (by omega)
      · refine ⟨_, _, _, xs' ++ [.ref q], ts' ++ [(ia, ib)], rfl, ?_, upd_same, ?_, ?_⟩
        · exact (((Keeps.of (S := []) sm12).new' nq).late np).same
        · exact fresh_tie nq (fun b hb z => by
            have e : b = p := by simpa using hb
            rw [e, hp2] at z
            cases z) (by simp) hts2
        · rw [take_more hd]
          refine tiesOf_snoc htake ?_
          rw [tie_eq]
          exact tieOf_some (in_ok (by omega) (by omega)) (in_ok (by omega) (by omega))
    · rintro σ' H' ⟨x4, x5, x6, xs', ts, rfl, sm, hp, hts, htake⟩
      have sm0 : Same H H' := fun b o e => sm b o (sm1 b o e)
      have e1 : ds.take xs.length = ds := by rw [hds.length, List.take_length]
      rw [e1] at htake
      have hlts : ts.length = ds.length := tiesOf_len htake
      have hlx : xs'.length = ts.length := by rw [hts.length, List.length_map]
      have w3 := wordT_some htake
      rw [Int.toNat_natCast, Int.toNat_natCast] at w3
      have htsH : DpAll K H' xs' (ts.map tieD) := hts.sm wo_same
      have inr : ∀ t ∈ ts, TDm.InR n m t := tiesOf_inR htake
      obtain ⟨ks, ek1, ek2, ek3⟩ := dpAll_refs htsH
      repeat walk_at "td"
      refine ⟨p, ks, rfl, by rw [← ek1]; exact SqL.of hp, ek3, by rw [← List.length_map (f := fun p : Addr × List Int => V.ref p.1), ← ek1, hlx]; omega, fun a' L na' l1 l2 => ?_⟩
      repeat walk_at "td"
      refine ⟨_, L, rfl, upd_same, fun ndL => ?_⟩
      have sa : Same H' (upd H' a' (SetTO P w a' L)) := (Keeps.new (S := []) na').same
      have hpa : upd H' a' (SetTO P w a' L) p = some (.lst xs') := sa _ _ hp
      have sa0 : Same H (upd H' a' (SetTO P w a' L)) := fun b o e => sa b o (sm0 b o e)
      have hLk := set_len ek2 l1 l2 ndL
      have ekl : ks.length = xs'.length := by rw [ek1, List.length_map]
      have hLle : L.length ≤ ks.length := len_sub ndL l1 l2
      repeat walk_at "td"
      refine ⟨_, _, rfl, .inl (SqL.of hpa), ?_⟩
      repeat walk_at "td"
      refine iteD (fun c => ?_) (fun c => ?_)
      · have := k _ sa0
        rw [w3, if_pos fun h => absurd (hLk.mpr h) (by omega)] at this
        exact this
      have ndts : ts.Nodup := hLk.mp (by omega)
      rw [if_neg (fun h => h ndts)] at w3
      repeat walk_at "td"
      refine ⟨_, _, rfl, .inl (SqL.of hpa), ?_⟩
      repeat walk_at "td"
      refine iteD (fun c => ?_) (fun c => ?_)
      · have := k _ sa0
        rw [w3, if_pos (by omega)] at this
        exact this
      rw [if_neg (by omega)] at w3
      repeat walk_at "td"
      refine ⟨n, m, ts, p, xs', rfl, by omega, by omega, SqL.of hpa, htsH.sm sa, inr, fun q H7 sm7 hq7 => ?_⟩
      have hn0 : TDm.marks n m ts ≠ [] := fun e => by
        have := TDm.len_marks n m ts
        rw [e] at this
        simp at this
        omega
      have hcard := TDm.card_one hn0
      repeat walk_at "td"
      refine ⟨q, _, rfl, SqL.of hq7, by rw [TDm.len_marks]; omega, ?_⟩
      repeat walk_at "td"
      have := k H7 (fun b o e => sm7 b o (sa0 b o e))
      refine iteD (fun c => ?_) (fun c => ?_)
      · have h1 : TDm.card (TDm.marks n m ts) = 1 := Int.ofNat.inj (V.int.inj c)
        rw [w3, if_pos (show TDm.joined n m ts = true from hcard.mp h1)] at this
        exact this
      · rw [w3, if_neg (fun (h : TDm.joined n m ts = true) => c (by rw [hcard.mpr h]; rfl))] at this
        exact this
end
end L2.TD
namespace L2.TD
open PySem PySem.Spec PyProof.Rows
local macro_rules | `(tactic| walk_at "td_side") => `(tactic| first
  | ((with_reducible show CMul _ _); refine Or.inr ⟨?_, ?_⟩ <;> decide)
  | ((with_reducible show CDiv _ _); refine ⟨?_, ?_⟩ <;> decide)
  | ((with_reducible show CPow _ _); refine ⟨?_, ?_, ?_⟩ <;> decide)
  | (show (0 : Int) < _; first | decide | omega)
  | ((with_reducible show scal _ _ = true); rfl)
  | ((show tyV _ "list" _ _); exact Or.inl ⟨rfl, _, SqL.of (by first | exact upd_same | assumption)⟩))
local macro_rules | `(tactic| walk_at "td") => `(tactic| first
  | (refine ⟨_, _, rfl, rfl, ?_⟩)
  | (refine ⟨_, rfl, ?_⟩)
  | (refine Or.inl ⟨_, rfl, ?_⟩)
  | (refine And.intro ?side ?_; (case side => walk_at "td_side"))
  | (refine ⟨_, _, _, _, rfl, rfl, SqL.of (by first | exact upd_same | assumption), by rfl, ?_⟩)
  | (refine ⟨_, _, _, _, rfl, rfl, (by first | exact upd_same | assumption), by rfl, ?_⟩))
/-! _law_word_told -/
abbrev sTold : Stmt := top 28
/-- of BadWeb, DealError and ValueError -/
structure BadTxt (K : PySem.W.Frag) (mg : Str → Option Value) (CB CD : Addr) : Prop where
  gB : mg "BadWeb" = some (.ref CB)
  gD : mg "DealError" = some (.ref CD)
  xf : XfC K CB
  no : PySem.W.findIn K (.ref CB) "what" = some none
  ec : ExcC K CB
  ex : PySem.W.exmOne K (.ref CB) (.ref CB) = some true
  kD : PySem.W.kitOne K (.ref CB) (.ref CD) = some true
  kV : PySem.W.kitOne K (.ref CB) (.type "ValueError") = some true
section
variable {P : Program} {w : World} {K : PySem.W.Frag} {mg : Str → Option Value} {base : Heap} {f : Addr} {fd : FuncData}
def spTold (K : PySem.W.Frag) : Sp := fun vs H Q _ => ∃ (v1 v2 v3 : V) (d1 d2 : PyData) (T : Option (List PyData)), vs = [v1, v2, v3] ∧ Dp K H v1 d1 ∧ Dp K H v2 d2 ∧ TArg K H v3 T ∧ ∀ H', Same H H' → Q (wordV (word d1 d2 T)) H'
abbrev nTold : List Str := ["_law_things", "_law_clubs", "_law_ties", "_law_told", "raised"]
theorem scTold : FnScope nTold ["_law_things", "_law_clubs", "_law_ties"] (C8.fnScope sTold) := C8.fnScope_by (by decide +kernel)
theorem ok_told {C CB CD fI : Addr} {fdI : FuncData} (B : Blt mg) (F : C8.Def K mg "_law_word_told" sTold f fd) (b : Binds K fd ["_law_things", "_law_clubs", "_law_ties"] []) (T : WebTxt K mg C) (BT : BadTxt K mg CB CD) (M : Mk K C fI)
    (FI : FnOk P w K mg base (L2.CX P w) 3 fI fdI ["self", "things", "clubs", "ties"] (spInit K C CB)) (bI : Binds K fdI ["self", "things", "clubs", "ties"] []) : C8.Cal P w K mg base 5 "_law_word_told" (spTold K) [] := by
  refine C8.cal0 F b .nil scTold (fun vs H Q E h => ?_) (fun cdv A outer s H vs Q E hr h => ?_)
  · obtain ⟨v1, v2, v3, d1, d2, T, rfl, _⟩ := h
    rfl
  · obtain ⟨v1, v2, v3, d1, d2, T', rfl, hd1, hd2, hT, k⟩ := h
    have nd := scTold.nd
    refine ⟨_, pss_cons (ps_set (i := 3) nd rfl (.inl rfl) pe_non)
      (pss_cons (ps_try_as (i := 4) (c := .ref CB) rfl rfl nd rfl rfl ⟨rfl, by decide, .inl BT.gB⟩ takes0
        (fun W pn xe tk _ => pss_one (ps_expr (pe_makeS M FI hr (by rfl) T.gC bI (fun σ => passAt tk σ) (pa_cons (pv 0) (pa_cons (pv 1) (pa_cons (pv 2) pa_nil))))))
        (fun a oe cls d pn hz hf => pss_one (ps_set (i := 3) nd rfl (.inl rfl) (pe_ifExp (PW.pt (pw_and (pt_val (pe_callB (call_isED hz hf) (by rfl) B.isinstance (by decide +kernel) (pa_cons (pv 4) (pa_cons (pe_glob (v := .ref CD) (by rfl) BT.gD rfl) pa_nil))))
            (pw_and1 (pt_val (pe_callB (call_isED hz hf) (by rfl) B.isinstance (by decide +kernel) (pa_cons (pv 4) (pa_cons (pe_bltn (v := .ty "ValueError") (by rfl) B.ValueError (by decide +kernel) rfl) pa_nil)))))))
          (pe_xf BT.xf BT.no hz hf (pv 4)) pe_str))))
      (pss_one (ps_ret (pv 3)))), ?_⟩
    repeat walk_at "td"
    intro x dx nx ndx ndxx
    have sm : Same H (upd (upd H dx (.own x)) x (.ins C dx [])) := (((Keeps.new (S := []) ndx)).late nx).same
    have fin : ∀ {H9 : Hp}, Keeps [x] (upd (upd H dx (.own x)) x (.ins C dx [])) H9 → Same H H9 := fun {H9} k9 b o e => k9 b o (by simpa using ne_of_none e nx) (sm b o e)
    refine ⟨x, dx, v1, v2, v3, d1, d2, T', rfl, upd_same, hd1.sm sm, hd2.sm sm, hT.same sm, fun wd hw d H9 nd9 k9 h9 => ⟨true, BT.ex, fun _ a na => ?_, fun h => nomatch h⟩, fun n m ds ts us H9 hw e1 e2 e3 e4 e5 e6 k9 hx9 => ?_⟩
    · have k := k H9 (fin k9)
      rw [hw] at k
      repeat walk_at "td"
      refine ⟨CB, d, _, _, _, true, rfl, rfl, rfl, BT.ec, h9, .own _, BT.kD, ?_⟩
      repeat walk_at "td"
      refine ⟨CB, d, _, _, _, true, rfl, rfl, rfl, BT.ec, h9, .ty _, BT.kV, ?_⟩
      repeat walk_at "td"
      refine ⟨rfl, rfl, d, _, _, rfl, h9, rfl, ?_⟩
      repeat walk_at "td"
      exact k
    · have k := k H9 (fin k9)
      rw [hw] at k
      refine ⟨rfl, ?_⟩
      repeat walk_at "td"
      exact k
end
end L2.TD
namespace L2.TD
open PySem PySem.Spec PyProof.Rows
local macro_rules | `(tactic| walk_at "td_side") => `(tactic| first
  | ((with_reducible show CMul _ _); refine Or.inr ⟨?_, ?_⟩ <;> decide)
  | ((with_reducible show CDiv _ _); refine ⟨?_, ?_⟩ <;> decide)
  | ((with_reducible show CPow _ _); refine ⟨?_, ?_, ?_⟩ <;> decide)
  | (show (0 : Int) < _; first | decide | omega)
  | ((with_reducible show scal _ _ = true); rfl)
  | ((show tyV _ "list" _ _); exact Or.inl ⟨rfl, _, SqL.of (by first | exact upd_same | assumption)⟩))
local macro_rules | `(tactic| walk_at "td") => `(tactic| first
  | (refine ⟨_, _, rfl, rfl, ?_⟩)
  | (refine ⟨_, rfl, ?_⟩)
  | (refine Or.inl ⟨_, rfl, ?_⟩)
  | (refine And.intro ?side ?_; (case side => walk_at "td_side"))
  | (refine ⟨_, _, _, _, rfl, rfl, SqL.of (by first | exact upd_same | assumption), by rfl, ?_⟩)
  | (refine ⟨_, _, _, _, rfl, rfl, (by first | exact upd_same | assumption), by rfl, ?_⟩))
/-! _law_checks -/
abbrev sChecks : Stmt := top 30
theorem clubsV_ints (us : List Tie) (i : Int) : clubsV us i = ((us.filter fun t => decide (t.1 = i)).map (·.2)).map V.int := by
  unfold clubsV
  rw [List.map_map]
  rfl
theorem thingsV_ints (us : List Tie) (i : Int) : thingsV us i = ((us.filter fun t => decide (t.2 = i)).map (·.1)).map V.int := by
  unfold thingsV
  rw [List.map_map]
  rfl
section
variable {P : Program} {w : World} {K : PySem.W.Frag} {mg : Str → Option Value} {base : Heap} {f : Addr} {fd : FuncData}
theorem eqv_ints (is : List Int) : PyData.eqv (.tuple (is.map PyData.int)) (.tuple (is.map PyData.int)) = true := by
  show PyData.eqvAll _ _ = true
  rw [eqvAll_ints]
  exact decide_eq_true rfl
def spChecks (K : PySem.W.Frag) (C : Addr) : Sp := fun vs H Q _ => ∃ (x a : Addr) (n m : Nat) (us : List Tie) (xs : List V), vs = [.ref x, .int n, .int m, .ref a] ∧ n ≤ 6 ∧ m ≤ 6 ∧ WebAt K C H x n m us ∧ us.length ≤ 12 ∧ SqL K H a xs ∧ DpAll K H xs (us.map tieD) ∧ ∀ H', Same H H' → Q (.bl true) H'
abbrev nChecks : List Str := ["_law_web_here", "_law_n", "_law_m", "_law_ties", "_law_thing", "_law_due", "_law_club", "_law_tie"]
theorem scChecks : FnScope nChecks ["_law_web_here", "_law_n", "_law_m", "_law_ties"] (C8.fnScope sChecks) := C8.fnScope_by (by decide +kernel)
theorem ok_checks {C CT CC : Addr} (B : Blt mg) (F : C8.Def K mg "_law_checks" sChecks f fd) (b : Binds K fd ["_law_web_here", "_law_n", "_law_m", "_law_ties"] [])
    (c1 : CalX P w K mg base 4 "clubs_of" (spClubsOf K C CT)) (c2 : CalX P w K mg base 3 "check_thing" (spCheckT K C CT)) (c3 : CalX P w K mg base 4 "things_of" (spThingsOf K C CC)) (c4 : CalX P w K mg base 3 "check_club" (spCheckC K C CC)) :
    C8.Cal P w K mg base 5 "_law_checks" (spChecks K C) [] := by
  refine C8.cal0 F b .nil scChecks (fun vs H Q E h => ?_) (fun cdv A outer s H vs Q E hr h => ?_)
  · obtain ⟨x, a, n, m, us, xs, rfl, _⟩ := h
    rfl
  · obtain ⟨x, a, n, m, us, xs, rfl, n6, m6, hw, hl, hs, hd, k⟩ := h
    have nd := scChecks.nd
    refine ⟨_, C8.pss_cut (ps_for PassesOwn.never rfl (pi_range1 (by rfl) B.range (pa_cons (pv 1) pa_nil)) (pg_name (i := 4) nd rfl (.inr rfl))
        (pss_cons (ps_set (i := 5) nd rfl (.inl rfl) (pe_callTy call_tuple_of (by rfl) B.tuple (by decide +kernel) (pa_cons (pe_lc (own := [("_law_tie", 7)]) (g := gName 7) (tt := tTest (tOp rEq (tOp (rIxT K) (tVar 7) (tC (.int 0))) (tVar 4))) (te := tOp (rIxT K) (tVar 7) (tC (.int 1))) rfl nd (pi_list (pv 3)) (blkOk_by (N := nChecks) (sc := C8.fnScope sChecks) (by decide +kernel))
            (fun _ _ _ _ _ => pg_name (i := 7) nd rfl (.inl rfl)) (fun _ _ _ _ _ => pts_one (pt_cmpR op_eq (pe_ix ix_tup (pv 7) pe_int (fun _ _ => rfl)) (pv 4) (nomark _))) (fun _ _ _ _ _ => pe_ix ix_tup (pv 7) pe_int (fun _ _ => rfl))) pa_nil)))
        (pss_one (ps_if (PW.pt (pw_or (pt_cmpR (op_neD hr.units) (pe_cx c1 hr (by decide) (by rfl) passL (pa_cons (pv 0) (pa_cons (pv 4) pa_nil))) (pv 5) (nomark _)) (pw_or1 (pt_cmpR op_ne (pe_cx c2 hr (by decide) (by rfl) passL (pa_cons (pv 0) (pa_cons (pv 4) pa_nil))) (pv 4) (nomark _)))))
          (pss_one (ps_ret pe_bl)) pss_nil))))
      (pss_cons (ps_for PassesOwn.never rfl (pi_range1 (by rfl) B.range (pa_cons (pv 2) pa_nil)) (pg_name (i := 6) nd rfl (.inr rfl))
        (pss_cons (ps_set (i := 5) nd rfl (.inl rfl) (pe_callTy call_tuple_of (by rfl) B.tuple (by decide +kernel) (pa_cons (pe_lc (own := [("_law_tie", 7)]) (g := gName 7) (tt := tTest (tOp rEq (tOp (rIxT K) (tVar 7) (tC (.int 1))) (tVar 6))) (te := tOp (rIxT K) (tVar 7) (tC (.int 0))) rfl nd (pi_list (pv 3)) (blkOk_by (N := nChecks) (sc := C8.fnScope sChecks) (by decide +kernel))
            (fun _ _ _ _ _ => pg_name (i := 7) nd rfl (.inl rfl)) (fun _ _ _ _ _ => pts_one (pt_cmpR op_eq (pe_ix ix_tup (pv 7) pe_int (fun _ _ => rfl)) (pv 6) (nomark _))) (fun _ _ _ _ _ => pe_ix ix_tup (pv 7) pe_int (fun _ _ => rfl))) pa_nil)))
        (pss_one (ps_if (PW.pt (pw_or (pt_cmpR (op_neD hr.units) (pe_cx c3 hr (by decide) (by rfl) passL (pa_cons (pv 0) (pa_cons (pv 6) pa_nil))) (pv 5) (nomark _)) (pw_or1 (pt_cmpR op_ne (pe_cx c4 hr (by decide) (by rfl) passL (pa_cons (pv 0) (pa_cons (pv 6) pa_nil))) (pv 6) (nomark _)))))
          (pss_one (ps_ret pe_bl)) pss_nil))))
      (pss_one (ps_ret pe_bl))), ?_⟩
    have lxs : xs.length = us.length := by rw [hd.length, List.length_map]
    refine ⟨fun σ H' => (∃ x4 x5 : Option V, σ = [some (.ref x), some (.int n), some (.int m), some (.ref a), x4, x5, none, none]) ∧ Same H H', ?_, ?_⟩
    · repeat walk_at "td"
      refine ⟨by omega, by omega, ?_⟩
      refine for_range (fun _ σ H' => (∃ x4 x5 : Option V, σ = [some (.ref x), some (.int n), some (.int m), some (.ref a), x4, x5, none, none]) ∧ Same H H') ⟨⟨_, _, rfl⟩, fun _ _ e => e⟩ ?_ (fun σ H' z => z)
      rintro i σ H1 hi ⟨⟨x4, x5, rfl⟩, sm⟩
      repeat walk_at "td"
      refine ⟨⟨_, hs.sm sm⟩, fun D nD => ?_⟩
      refine lc_list (K := K) (a := a) (xs := xs) (fun j H2 => Same H1 H2 ∧ H2 D = some (.lst (clubsV (us.take j) (0 + (i : Int)))))
        ⟨(Keeps.new (S := []) nD).same, upd_same⟩ (fun j H2 _ ⟨s1, _⟩ => (hs.sm sm).sm s1) ?_ ?_
      · rintro j y H2 hy ⟨s1, hD2⟩
        obtain ⟨e, he, hdp⟩ := hd.get hy
        obtain ⟨u, hu, rfl⟩ : ∃ u, us[j]? = some u ∧ e = tieD u := by
          rw [List.getElem?_map] at he
          cases q : us[j]? with
          | none => rw [q] at he; cases he
          | some u => rw [q] at he; exact ⟨u, rfl, (Option.some.inj he).symm⟩
        obtain ⟨pt, rfl, hpt⟩ := hdp.tie
        have hpt2 := (hpt.sm sm).sm s1
        refine ⟨rfl, ?_⟩
        repeat walk_at "td"
        refine iteD (fun c => ?_) (fun c => ?_)
        · repeat walk_at "td"
          refine ⟨_, hD2, ?_, ((Keeps.of (S := []) s1).late nD).same, ?_⟩
          · refine small12 (Nat.le_trans (?_ : _ ≤ us.length) (by omega))
            unfold clubsV
            rw [List.length_map]
            exact Nat.le_trans (List.length_filter_le _ _) (by rw [List.length_take]; omega)
          · rw [upd_same, take_more hu]
            unfold clubsV
            rw [List.filter_append, List.map_append, List.filter_cons_of_pos (by simpa using V.int.inj c)]
            rfl
        · refine ⟨s1, ?_⟩
          rw [hD2, take_more hu]
          unfold clubsV
          rw [List.filter_append, List.filter_cons_of_neg (by simpa using fun e => c (by rw [e, Int.zero_add]))]
          simp
      · rintro H2 ⟨s1, hD2⟩
        have e1 : us.take xs.length = us := by rw [lxs, List.take_length]
        rw [e1] at hD2
        repeat walk_at "td"
        refine ⟨D, _, rfl, .inl ⟨SqL.of hD2, fun l nl => ?_⟩⟩
        have s3 : Same H (upd H2 l (.tup (clubsV us (0 + (i : Int))))) := fun b o e => (Keeps.new (S := []) nl).same b o (s1 b o (sm b o e))
        have hl3 : upd H2 l (.tup (clubsV us (0 + (i : Int)))) l = some (.tup (clubsV us (0 + (i : Int)))) := upd_same
        generalize upd H2 l (.tup (clubsV us (0 + (i : Int)))) = H3 at s3 hl3 ⊢
        have wi : wholeIn 0 (n - 1) (.int (0 + (i : Int))) = true := in_ok (by omega) (by omega)
        repeat walk_at "td"
        refine ⟨x, n, m, us, _, _, rfl, hw.same s3, by omega, .int _, fun j _ ej => ?_, fun h => ?_⟩
        · cases ej
          intro l4 H4 s4 hl4
          have hl5 := s4 _ _ hl3
          rw [clubsV_ints] at hl4 hl5
          repeat walk_at "td"
          refine ⟨_, _, .tup (SqT.of hl4) (dp_ints _), .tup (SqT.of hl5) (dp_ints _), shaped_ints _, shaped_ints _, ?_⟩
          rw [eqv_ints]
          repeat walk_at "td"
          refine ⟨x, n, m, us, _, _, rfl, hw.same (fun b o e => s4 b o (s3 b o e)), .int _, fun _ => ?_, fun h => ?_⟩
          · repeat walk_at "td"
            refine iteDN (fun c => absurd rfl c) (fun c => ?_)
            exact ⟨⟨_, _, rfl⟩, fun b o e => s4 b o (s3 b o e)⟩
          · rw [wi] at h
            cases h
        · rw [wi] at h
          cases h
    rintro σ H1 ⟨⟨x4, x5, rfl⟩, sm⟩
    repeat walk_at "td"
    refine ⟨by omega, by omega, ?_⟩
    refine for_range (fun _ σ H' => (∃ x5 x6 : Option V, σ = [some (.ref x), some (.int n), some (.int m), some (.ref a), x4, x5, x6, none]) ∧ Same H H') ⟨⟨_, _, rfl⟩, sm⟩ ?_ ?_
    · clear sm x5 H1
      rintro i σ H1 hi ⟨⟨x5, x6, rfl⟩, sm⟩
      repeat walk_at "td"
      refine ⟨⟨_, hs.sm sm⟩, fun D nD => ?_⟩
      refine lc_list (K := K) (a := a) (xs := xs) (fun j H2 => Same H1 H2 ∧ H2 D = some (.lst (thingsV (us.take j) (0 + (i : Int)))))
        ⟨(Keeps.new (S := []) nD).same, upd_same⟩ (fun j H2 _ ⟨s1, _⟩ => (hs.sm sm).sm s1) ?_ ?_
      · rintro j y H2 hy ⟨s1, hD2⟩
        obtain ⟨e, he, hdp⟩ := hd.get hy
        obtain ⟨u, hu, rfl⟩ : ∃ u, us[j]? = some u ∧ e = tieD u := by
          rw [List.getElem?_map] at he
          cases q : us[j]? with
          | none => rw [q] at he; cases he
          | some u => rw [q] at he; exact ⟨u, rfl, (Option.some.inj he).symm⟩
        obtain ⟨pt, rfl, hpt⟩ := hdp.tie
        have hpt2 := (hpt.sm sm).sm s1
        refine ⟨rfl, ?_⟩
        repeat walk_at "td"
        refine iteD (fun c => ?_) (fun c => ?_)
        · repeat walk_at "td"
          refine ⟨_, hD2, ?_, ((Keeps.of (S := []) s1).late nD).same, ?_⟩
          · refine small12 (Nat.le_trans (?_ : _ ≤ us.length) (by omega))
            unfold thingsV
            rw [List.length_map]
            exact Nat.le_trans (List.length_filter_le _ _) (by rw [List.length_take]; omega)
          · rw [upd_same, take_more hu]
            unfold thingsV
            rw [List.filter_append, List.map_append, List.filter_cons_of_pos (by simpa using V.int.inj c)]
            rfl
        · refine ⟨s1, ?_⟩
          rw [hD2, take_more hu]
          unfold thingsV
          rw [List.filter_append, List.filter_cons_of_neg (by simpa using fun e => c (by rw [e, Int.zero_add]))]
          simp
      · rintro H2 ⟨s1, hD2⟩
        have e1 : us.take xs.length = us := by rw [lxs, List.take_length]
        rw [e1] at hD2
        repeat walk_at "td"
        refine ⟨D, _, rfl, .inl ⟨SqL.of hD2, fun l nl => ?_⟩⟩
        have s3 : Same H (upd H2 l (.tup (thingsV us (0 + (i : Int))))) := fun b o e => (Keeps.new (S := []) nl).same b o (s1 b o (sm b o e))
        have hl3 : upd H2 l (.tup (thingsV us (0 + (i : Int)))) l = some (.tup (thingsV us (0 + (i : Int)))) := upd_same
        generalize upd H2 l (.tup (thingsV us (0 + (i : Int)))) = H3 at s3 hl3 ⊢
        have wi : wholeIn 0 (m - 1) (.int (0 + (i : Int))) = true := in_ok (by omega) (by omega)
        repeat walk_at "td"
        refine ⟨x, n, m, us, _, _, rfl, hw.same s3, by omega, .int _, fun j _ ej => ?_, fun h => ?_⟩
        · cases ej
          intro l4 H4 s4 hl4
          have hl5 := s4 _ _ hl3
          rw [thingsV_ints] at hl4 hl5
          repeat walk_at "td"
          refine ⟨_, _, .tup (SqT.of hl4) (dp_ints _), .tup (SqT.of hl5) (dp_ints _), shaped_ints _, shaped_ints _, ?_⟩
          rw [eqv_ints]
          repeat walk_at "td"
          refine ⟨x, n, m, us, _, _, rfl, hw.same (fun b o e => s4 b o (s3 b o e)), .int _, fun _ => ?_, fun h => ?_⟩
          · repeat walk_at "td"
            refine iteDN (fun c => absurd rfl c) (fun c => ?_)
            exact ⟨⟨_, _, rfl⟩, fun b o e => s4 b o (s3 b o e)⟩
          · rw [wi] at h
            cases h
        · rw [wi] at h
          cases h
    · rintro σ H' ⟨⟨x5', x6', rfl⟩, sm'⟩
      repeat walk_at "td"
      exact k _ sm'
end
end L2.TD
namespace L2.TD
open PySem PySem.Spec PyProof.Rows
local macro_rules | `(tactic| walk_at "td_side") => `(tactic| first
  | ((with_reducible show CMul _ _); refine Or.inr ⟨?_, ?_⟩ <;> decide)
  | ((with_reducible show CDiv _ _); refine ⟨?_, ?_⟩ <;> decide)
  | ((with_reducible show CPow _ _); refine ⟨?_, ?_, ?_⟩ <;> decide)
  | (show (0 : Int) < _; first | decide | omega)
  | ((with_reducible show scal _ _ = true); rfl)
  | ((show tyV _ "list" _ _); exact Or.inl ⟨rfl, _, SqL.of (by first | exact upd_same | assumption)⟩))
local macro_rules | `(tactic| walk_at "td") => `(tactic| first
  | (refine ⟨_, _, rfl, rfl, ?_⟩)
  | (refine ⟨_, rfl, ?_⟩)
  | (refine Or.inl ⟨_, rfl, ?_⟩)
  | (refine And.intro ?side ?_; (case side => walk_at "td_side"))
  | (refine ⟨_, _, _, _, rfl, rfl, SqL.of (by first | exact upd_same | assumption), by rfl, ?_⟩)
  | (refine ⟨_, _, _, _, rfl, rfl, (by first | exact upd_same | assumption), by rfl, ?_⟩))
/-! _law_odd_refused -/
abbrev sOdd : Stmt := top 31
section
variable {P : Program} {w : World} {K : PySem.W.Frag} {mg : Str → Option Value} {base : Heap} {f : Addr} {fd : FuncData}
theorem six_ok : (6 : Nat) ≤ sizeLine := by rw [sizeLine_eq]; decide
def spOdd (K : PySem.W.Frag) (C : Addr) : Sp := fun vs H Q _ => ∃ (x : Addr) (n m : Nat) (us : List Tie), vs = [.ref x, .int n, .int m] ∧ n ≤ 6 ∧ m ≤ 6 ∧ WebAt K C H x n m us ∧ us.length ≤ 12 ∧ ∀ H', Same H H' → Q (.bl true) H'
abbrev nOdd : List Str := ["_law_web_here", "_law_n", "_law_m", "_law_odd", "_law_count"]
theorem scOdd : FnScope nOdd ["_law_web_here", "_law_n", "_law_m"] (C8.fnScope sOdd) := C8.fnScope_by (by decide +kernel)
theorem ok_odd {C CT CC : Addr} (B : Blt mg) (F : C8.Def K mg "_law_odd_refused" sOdd f fd) (b : Binds K fd ["_law_web_here", "_law_n", "_law_m"] [])
    (c1 : CalX P w K mg base 4 "clubs_of" (spClubsOf K C CT)) (c2 : CalX P w K mg base 3 "check_thing" (spCheckT K C CT)) (c3 : CalX P w K mg base 4 "things_of" (spThingsOf K C CC)) (c4 : CalX P w K mg base 3 "check_club" (spCheckC K C CC))
    (gT : mg "BadThing" = some (.ref CT)) (gC : mg "BadClub" = some (.ref CC)) (eT : PySem.W.exmOne K (.ref CT) (.ref CT) = some true) (eC : PySem.W.exmOne K (.ref CC) (.ref CC) = some true) :
    C8.Cal P w K mg base 5 "_law_odd_refused" (spOdd K C) [] := by
  refine C8.cal0 F b .nil scOdd (fun vs H Q E h => ?_) (fun cdv A outer s H vs Q E hr h => ?_)
  · obtain ⟨x, n, m, us, rfl, _⟩ := h
    rfl
  · obtain ⟨x, n, m, us, rfl, n6, m6, hw, hl, k⟩ := h
    have nd := scOdd.nd
    refine ⟨_, C8.pss_cut (ps_for PassesOwn.never rfl (pi_tup (pe_tup (pa_cons (pe_un un_neg pe_int) (pa_cons (pv 1) (pa_cons pe_bl (pa_cons pe_non (pa_cons pe_str (pa_cons (pe_lst (pa_cons pe_int pa_nil)) pa_nil)))))))) (pg_name (i := 3) nd rfl (.inl rfl))
        (pss_cons (ps_set (i := 4) nd rfl (.inl rfl) pe_int)
        (pss_cons (ps_try_only (c := .ref CT) rfl rfl ⟨rfl, by decide, .inl gT⟩ takes0 (fun W pn xe tk _ => pss_one (ps_expr (pe_cxS c2 hr (by decide) (by rfl) (fun σ => passAt tk σ) (pa_cons (pv 0) (pa_cons (pv 3) pa_nil)))))
          (fun a oe cls d pn _ _ => pss_one (ps_set (i := 4) nd rfl (.inl rfl) (pe_op op_add (pv 4) pe_int))))
        (pss_cons (ps_try_only (c := .ref CT) rfl rfl ⟨rfl, by decide, .inl gT⟩ takes0 (fun W pn xe tk _ => pss_one (ps_expr (pe_cxS c1 hr (by decide) (by rfl) (fun σ => passAt tk σ) (pa_cons (pv 0) (pa_cons (pv 3) pa_nil)))))
          (fun a oe cls d pn _ _ => pss_one (ps_set (i := 4) nd rfl (.inl rfl) (pe_op op_add (pv 4) pe_int))))
        (pss_one (ps_if (pt_cmpR op_ne (pv 4) pe_int (nomark _)) (pss_one (ps_ret pe_bl)) pss_nil))))))
      (pss_cons (ps_for PassesOwn.never rfl (pi_tup (pe_tup (pa_cons (pe_un un_neg pe_int) (pa_cons (pv 2) (pa_cons pe_bl (pa_cons pe_non (pa_cons pe_str (pa_cons (pe_tup (pa_cons pe_int pa_nil)) pa_nil)))))))) (pg_name (i := 3) nd rfl (.inl rfl))
        (pss_cons (ps_set (i := 4) nd rfl (.inl rfl) pe_int)
        (pss_cons (ps_try_only (c := .ref CC) rfl rfl ⟨rfl, by decide, .inl gC⟩ takes0 (fun W pn xe tk _ => pss_one (ps_expr (pe_cxS c4 hr (by decide) (by rfl) (fun σ => passAt tk σ) (pa_cons (pv 0) (pa_cons (pv 3) pa_nil)))))
          (fun a oe cls d pn _ _ => pss_one (ps_set (i := 4) nd rfl (.inl rfl) (pe_op op_add (pv 4) pe_int))))
        (pss_cons (ps_try_only (c := .ref CC) rfl rfl ⟨rfl, by decide, .inl gC⟩ takes0 (fun W pn xe tk _ => pss_one (ps_expr (pe_cxS c3 hr (by decide) (by rfl) (fun σ => passAt tk σ) (pa_cons (pv 0) (pa_cons (pv 3) pa_nil)))))
          (fun a oe cls d pn _ _ => pss_one (ps_set (i := 4) nd rfl (.inl rfl) (pe_op op_add (pv 4) pe_int))))
        (pss_one (ps_if (pt_cmpR op_ne (pv 4) pe_int (nomark _)) (pss_one (ps_ret pe_bl)) pss_nil))))))
      (pss_one (ps_ret pe_bl))), ?_⟩
    refine ⟨fun σ H' => (∃ x3 x4 : Option V, σ = [some (.ref x), some (.int n), some (.int m), x3, x4]) ∧ Same H H', ?_, ?_⟩
    · repeat walk_at "td"
      refine ⟨one_ok, fun q nq => ?_⟩
      repeat walk_at "td"
      refine ⟨six_ok, fun p np => ?_⟩
      repeat walk_at "td"
      have s1 : Same H (upd H q (.lst [.int 0])) := (Keeps.new (S := []) nq).same
      have s2 : Same (upd H q (.lst [.int 0])) (upd (upd H q (.lst [.int 0])) p (.tup [.int (-1), .int n, .bl true, .non, .str "0", .ref q])) := (Keeps.new (S := []) np).same
      have hq2 := s2 q _ upd_same
      have hp2 : upd (upd H q (.lst [.int 0])) p (.tup [.int (-1), .int n, .bl true, .non, .str "0", .ref q]) p = some (.tup [.int (-1), .int n, .bl true, .non, .str "0", .ref q]) := upd_same
      have s02 : Same H (upd (upd H q (.lst [.int 0])) p (.tup [.int (-1), .int n, .bl true, .non, .str "0", .ref q])) := fun b o e => s2 b o (s1 b o e)
      clear s1 s2
      generalize upd (upd H q (.lst [.int 0])) p (.tup [.int (-1), .int n, .bl true, .non, .str "0", .ref q]) = H2 at *
      have bad : ∀ (i : Nat) (y : V), [V.int (-1), .int n, .bl true, .non, .str "0", .ref q][i]? = some y → ∃ d, Dp K H2 y d ∧ wholeIn 0 (n - 1) d = false := fun i y hy => by
        match i, hy with
        | 0, hy => cases hy; exact ⟨_, .int _, in_lo (by decide)⟩
        | 1, hy => cases hy; exact ⟨_, .int _, in_hi (by omega)⟩
        | 2, hy => cases hy; exact ⟨_, .bl _, rfl⟩
        | 3, hy => cases hy; exact ⟨_, .non, rfl⟩
        | 4, hy => cases hy; exact ⟨_, .str _, rfl⟩
        | 5, hy => cases hy; exact ⟨_, .lst (SqL.of hq2) (.cons (.int _) .nil), rfl⟩
      refine ⟨⟨_, SqT.of hp2⟩, ?_⟩
      refine for_tup (K := K) (a := p) (xs := [V.int (-1), .int n, .bl true, .non, .str "0", .ref q]) (fun _ σ H' => (∃ x3 x4 : Option V, σ = [some (.ref x), some (.int n), some (.int m), x3, x4]) ∧ Same H2 H') ⟨⟨_, _, rfl⟩, fun _ _ e => e⟩ (fun i σ H' _ ⟨_, sm⟩ => (SqT.of hp2).sm sm) ?_ (fun σ H' ⟨z, sm⟩ => ⟨z, fun b o e => sm b o (s02 b o e)⟩)
      rintro i y σ H3 hy ⟨⟨x3, x4, rfl⟩, sm⟩
      obtain ⟨d, hd, hb⟩ := bad i y hy
      have hw3 : WebAt K C H3 x n m us := hw.same fun b o e => sm b o (s02 b o e)
      repeat walk_at "td"
      refine ⟨x, n, m, us, y, d, rfl, hw3, hd.sm sm, fun h => ?_, fun _ => ⟨true, eT, fun _ a1 _ => ?_, fun h => nomatch h⟩⟩
      · rw [hb] at h
        cases h
      repeat walk_at "td"
      refine ⟨x, n, m, us, y, d, rfl, hw3, by omega, hd.sm sm, fun i h => ?_, fun _ => ⟨true, eT, fun _ a2 _ => ?_, fun h => nomatch h⟩⟩
      · rw [hb] at h
        cases h
      repeat walk_at "td"
      exact ⟨⟨_, _, rfl⟩, sm⟩
    rintro σ H1 ⟨⟨x3, x4, rfl⟩, sm0⟩
    repeat walk_at "td"
    refine ⟨one_ok, fun q nq => ?_⟩
    repeat walk_at "td"
    refine ⟨six_ok, fun p np => ?_⟩
    repeat walk_at "td"
    have s1 : Same H1 (upd H1 q (.tup [.int 0])) := (Keeps.new (S := []) nq).same
    have s2 : Same (upd H1 q (.tup [.int 0])) (upd (upd H1 q (.tup [.int 0])) p (.tup [.int (-1), .int m, .bl false, .non, .str "0", .ref q])) := (Keeps.new (S := []) np).same
    have hq2 := s2 q _ upd_same
    have hp2 : upd (upd H1 q (.tup [.int 0])) p (.tup [.int (-1), .int m, .bl false, .non, .str "0", .ref q]) p = some (.tup [.int (-1), .int m, .bl false, .non, .str "0", .ref q]) := upd_same
    have s02 : Same H (upd (upd H1 q (.tup [.int 0])) p (.tup [.int (-1), .int m, .bl false, .non, .str "0", .ref q])) := fun b o e => s2 b o (s1 b o (sm0 b o e))
    clear s1 s2
    generalize upd (upd H1 q (.tup [.int 0])) p (.tup [.int (-1), .int m, .bl false, .non, .str "0", .ref q]) = H2 at *
    have bad : ∀ (i : Nat) (y : V), [V.int (-1), .int m, .bl false, .non, .str "0", .ref q][i]? = some y → ∃ d, Dp K H2 y d ∧ wholeIn 0 (m - 1) d = false := fun i y hy => by
      match i, hy with
      | 0, hy => cases hy; exact ⟨_, .int _, in_lo (by decide)⟩
      | 1, hy => cases hy; exact ⟨_, .int _, in_hi (by omega)⟩
      | 2, hy => cases hy; exact ⟨_, .bl _, rfl⟩
      | 3, hy => cases hy; exact ⟨_, .non, rfl⟩
      | 4, hy => cases hy; exact ⟨_, .str _, rfl⟩
      | 5, hy => cases hy; exact ⟨_, .tup (SqT.of hq2) (.cons (.int _) .nil), rfl⟩
    refine ⟨⟨_, SqT.of hp2⟩, ?_⟩
    refine for_tup (K := K) (a := p) (xs := [V.int (-1), .int m, .bl false, .non, .str "0", .ref q]) (fun _ σ H' => (∃ x3 x4 : Option V, σ = [some (.ref x), some (.int n), some (.int m), x3, x4]) ∧ Same H2 H') ⟨⟨_, _, rfl⟩, fun _ _ e => e⟩ (fun i σ H' _ ⟨_, sm⟩ => (SqT.of hp2).sm sm) ?_ ?_
    · rintro i y σ H3 hy ⟨⟨x3, x4, rfl⟩, sm⟩
      obtain ⟨d, hd, hb⟩ := bad i y hy
      have hw3 : WebAt K C H3 x n m us := hw.same fun b o e => sm b o (s02 b o e)
      repeat walk_at "td"
      refine ⟨x, n, m, us, y, d, rfl, hw3, hd.sm sm, fun h => ?_, fun _ => ⟨true, eC, fun _ a1 _ => ?_, fun h => nomatch h⟩⟩
      · rw [hb] at h
        cases h
      repeat walk_at "td"
      refine ⟨x, n, m, us, y, d, rfl, hw3, by omega, hd.sm sm, fun i h => ?_, fun _ => ⟨true, eC, fun _ a2 _ => ?_, fun h => nomatch h⟩⟩
      · rw [hb] at h
        cases h
      repeat walk_at "td"
      exact ⟨⟨_, _, rfl⟩, sm⟩
    · rintro σ H3 ⟨⟨x3, x4, rfl⟩, sm⟩
      repeat walk_at "td"
      exact k _ fun b o e => sm b o (s02 b o e)
end
end L2.TD
namespace L2.TD
open PySem PySem.Spec PyProof.Rows
local macro_rules | `(tactic| walk_at "td_side") => `(tactic| first
  | ((with_reducible show CMul _ _); refine Or.inr ⟨?_, ?_⟩ <;> decide)
  | ((with_reducible show CDiv _ _); refine ⟨?_, ?_⟩ <;> decide)
  | ((with_reducible show CPow _ _); refine ⟨?_, ?_, ?_⟩ <;> decide)
  | (show (0 : Int) < _; first | decide | omega)
  | ((with_reducible show scal _ _ = true); rfl)
  | ((show tyV _ "list" _ _); exact Or.inl ⟨rfl, _, SqL.of (by first | exact upd_same | assumption)⟩))
local macro_rules | `(tactic| walk_at "td") => `(tactic| first
  | (refine ⟨_, _, rfl, rfl, ?_⟩)
  | (refine ⟨_, rfl, ?_⟩)
  | (refine Or.inl ⟨_, rfl, ?_⟩)
  | (refine And.intro ?side ?_; (case side => walk_at "td_side"))
  | (refine ⟨_, _, _, _, rfl, rfl, SqL.of (by first | exact upd_same | assumption), by rfl, ?_⟩)
  | (refine ⟨_, _, _, _, rfl, rfl, (by first | exact upd_same | assumption), by rfl, ?_⟩))
/-! _law_kept -/
abbrev sKept : Stmt := top 32
/-- Web's own __iter__ and its property, as found on the class -/
structure WebUse (P : Program) (w : World) (K : PySem.W.Frag) (mg : Str → Option Value) (base : Heap) (C : Addr) : Prop where
  it : ∃ (g : Addr) (fd : FuncData), PySem.W.findIn K (.ref C) "__iter__" = some (some (.ref g)) ∧ PySem.W.isFn K (.ref g) = true ∧ FnOk P w K mg base C8.CX0 1 g fd ["self"] (spIter K C) ∧ Binds K fd ["self"] []
  sp : ∃ (p g : Addr) (fd : FuncData), PropOf K C "spare" p g ∧ FnOk P w K mg base C8.CX0 1 g fd ["self"] (spSpare K C) ∧ Binds K fd ["self"] []
  eq : ∃ (g : Addr) (fd : FuncData), PySem.W.findIn K (.ref C) "__eq__" = some (some (.ref g)) ∧ PySem.W.isFn K (.ref g) = true ∧ FnOk P w K mg base C8.CX0 2 g fd ["self", "other"] (spWebEq K C) ∧ Binds K fd ["self", "other"] []
section
variable {P : Program} {w : World} {K : PySem.W.Frag} {mg : Str → Option Value} {base : Heap} {f : Addr} {fd : FuncData}
def spKept (K : PySem.W.Frag) (C : Addr) : Sp := fun vs H Q _ => ∃ (x a : Addr) (n m : Nat) (us : List Tie) (xs : List V), vs = [.ref x, .int n, .int m, .ref a] ∧ WebAt K C H x n m us ∧ us.length ≤ 12 ∧ SqL K H a xs ∧ DpAll K H xs (us.map tieD) ∧ ∀ H', Same H H' → Q (.bl true) H'
abbrev nKept : List Str := ["_law_web_here", "_law_n", "_law_m", "_law_ties", "_law_tie"]
theorem scKept : FnScope nKept ["_law_web_here", "_law_n", "_law_m", "_law_ties"] (C8.fnScope sKept) := C8.fnScope_by (by decide +kernel)
theorem eqv_tiesT (us : List Tie) : PyData.eqv (.tuple (us.map tieD)) (.tuple (us.map tieD)) = true := by
  show PyData.eqvAll _ _ = true
  rw [eqvAll_ties]
  exact decide_eq_true rfl
theorem eqv_tiesL (us : List Tie) : PyData.eqv (.list (us.map tieD)) (.list (us.map tieD)) = true := by
  show PyData.eqvAll _ _ = true
  rw [eqvAll_ties]
  exact decide_eq_true rfl
theorem ok_kept {C : Addr} (B : Blt mg) (F : C8.Def K mg "_law_kept" sKept f fd) (b : Binds K fd ["_law_web_here", "_law_n", "_law_m", "_law_ties"] []) (T : WebTxt K mg C) (U : WebUse P w K mg base C) (cW : C8.Cal P w K mg base 1 "_law_whole" (spWhole K) []) :
    C8.Cal P w K mg base 3 "_law_kept" (spKept K C) [] := by
  obtain ⟨gi, fdi, fi1, fi2, fi3, fi4⟩ := U.it
  obtain ⟨ps, gs, fds, fs1, fs2, fs3⟩ := U.sp
  refine C8.cal0 F b .nil scKept (fun vs H Q E h => ?_) (fun cdv A outer s H vs Q E hr h => ?_)
  · obtain ⟨x, a, n, m, us, xs, rfl, _⟩ := h
    rfl
  · obtain ⟨x, a, n, m, us, xs, rfl, ⟨dx, t, ys, hx, ht, hdt⟩, hl, hs, hd, k⟩ := h
    have nd := scKept.nd
    refine ⟨_, pss_cons (ps_if (PW.pt (pw_or (pt_cmpR op_ne (pe_fld (pv 0) rfl) (pv 1) (nomark _)) (pw_or (pt_cmpR op_ne (pe_fld (pv 0) rfl) (pv 2) (nomark _))
          (pw_or (pt_cmpR (op_neD hr.units) (pe_fld (pv 0) rfl) (pe_callTy call_tuple_young (by rfl) B.tuple (by decide +kernel) (pa_cons (pv 3) pa_nil)) (nomark _))
          (pw_or1 (pt_not (pt_val (pe_callB call_isi (by rfl) B.isinstance (by decide +kernel) (pa_cons (pe_fld (pv 0) rfl) (pa_cons (pe_bltn (v := .ty "tuple") (by rfl) B.tuple (by decide +kernel) rfl) pa_nil))))))))))
        (pss_one (ps_ret pe_bl)) pss_nil)
      (pss_cons (ps_if (PW.pt (pw_or (pt_cmpR (op_neD hr.units)
            (pe_lc (own := [("_law_tie", 4)]) (g := gName 4) (tt := tYes) (te := tVar 4) rfl nd (pi_own (pv 0) fi1 fi2 fi3 (hr.mono (by decide)) fi4 (C8.pass0 (E := C8.E0))) (blkOk_by (N := nKept) (sc := C8.fnScope sKept) (by decide +kernel))
              (fun _ _ _ _ _ => pg_name (i := 4) nd rfl (.inl rfl)) (fun _ _ _ _ _ => pts_nil) (fun _ _ _ _ _ => pv 4))
            (pe_callTy call_list_of (by rfl) B.list (by decide +kernel) (pa_cons (pv 3) pa_nil)) (nomark _))
          (pw_or1 (pt_not (pt_val (C8.pe_c cW hr (by decide) (by rfl) (pa_cons (pe_prop (E := C8.E0) (pv 0) T.cl fs1 fs2 hr fs3 .nil C8.pass0 rfl) pa_nil)))))))
        (pss_one (ps_ret pe_bl)) pss_nil)
      (pss_one (ps_ret (pe_cmpR op_eq (pe_prop (E := C8.E0) (pv 0) T.cl fs1 fs2 hr fs3 .nil C8.pass0 rfl) (pe_op op_add (pe_op op_sub (pe_op op_sub (pe_callB call_len_seq (by rfl) B.len PySem.boot_len (pa_cons (pv 3) pa_nil)) (pv 1)) (pv 2)) pe_int) (nomark _))))), ?_⟩
    have lys : ys.length = us.length := by rw [hdt.length, List.length_map]
    have lxs : xs.length = us.length := by rw [hd.length, List.length_map]
    repeat walk_at "td"
    refine ⟨x, C, dx, _, .int n, rfl, hx, T.cl, T.nT, webF_things n m t, ?_⟩
    repeat walk_at "td"
    refine iteDN (fun c => absurd rfl c) (fun _ => ?_)
    repeat walk_at "td"
    refine ⟨x, C, dx, _, .int m, rfl, hx, T.cl, T.nC, webF_clubs n m t, ?_⟩
    repeat walk_at "td"
    refine iteDN (fun c => absurd rfl c) (fun _ => ?_)
    repeat walk_at "td"
    refine ⟨x, C, dx, _, .ref t, rfl, hx, T.cl, T.nS, webF_ties n m t, ?_⟩
    repeat walk_at "td"
    refine ⟨a, xs, rfl, hs, fun p np yp => ?_⟩
    have s1 : Same H (upd H p (.tup xs)) := (Keeps.new (S := []) np).same
    have hp1 : upd H p (.tup xs) p = some (.tup xs) := upd_same
    generalize upd H p (.tup xs) = H1 at s1 hp1 ⊢
    refine ⟨.tuple (us.map tieD), .tuple (us.map tieD), .tup (ht.sm s1) (hdt.sm s1), .tup (SqT.of hp1) (hd.sm s1), shaped_tup us, shaped_tup us, ?_⟩
    rw [eqv_tiesT]
    repeat walk_at "td"
    refine ⟨x, C, dx, _, .ref t, rfl, s1 _ _ hx, T.cl, T.nS, webF_ties n m t, ?_⟩
    repeat walk_at "td"
    refine ⟨_, _, _, _, _, rfl, .ty _, dp_ty (Dp.tup (ht.sm s1) (hdt.sm s1)), kit_tuple (.tuple (us.map tieD)), ?_⟩
    repeat walk_at "td"
    refine ⟨x, dx, _, t, ys, p, _, rfl, s1 _ _ hx, webF_ties n m t, ht.sm s1, hp1, yp, fun D nD => ?_⟩
    refine lc_tup (K := K) (a := t) (xs := ys) (fun j H2 => Same H1 H2 ∧ H2 D = some (.lst (ys.take j)))
      ⟨(Keeps.new (S := []) nD).same, upd_same⟩ (fun j H2 _ ⟨s2, _⟩ => (ht.sm s1).sm s2) ?_ ?_
    · rintro j y H2 hy ⟨s2, hD⟩
      refine ⟨rfl, ?_⟩
      repeat walk_at "td"
      refine ⟨_, hD, ?_, ((Keeps.of (S := []) s2).late nD).same, ?_⟩
      · rw [List.length_take]
        exact small12 (by omega)
      · rw [upd_same, take_more hy]
    · rintro H2 ⟨s2, hD⟩
      rw [List.take_length] at hD
      have s02 : Same H H2 := fun b o e => s2 b o (s1 b o e)
      repeat walk_at "td"
      refine ⟨a, xs, rfl, .inl (hs.sm s02), fun l nl => ?_⟩
      have s3 : Same H2 (upd H2 l (.lst xs)) := (Keeps.new (S := []) nl).same
      have hl3 : upd H2 l (.lst xs) l = some (.lst xs) := upd_same
      generalize upd H2 l (.lst xs) = H3 at s3 hl3 ⊢
      have s03 : Same H H3 := fun b o e => s3 b o (s02 b o e)
      refine ⟨.list (us.map tieD), .list (us.map tieD), .lst (SqL.of (s3 _ _ hD)) (hdt.sm s03), .lst (SqL.of hl3) (hd.sm s03), shaped_lst us, shaped_lst us, ?_⟩
      rw [eqv_tiesL]
      have hx3 := s03 _ _ hx
      repeat walk_at "td"
      refine ⟨x, dx, _, rfl, hx3, x, n, m, us, rfl, ⟨dx, t, ys, hx3, ht.sm s03, hdt.sm s03⟩, ?_⟩
      repeat walk_at "td"
      refine ⟨_, _, rfl, .int _, ?_⟩
      repeat walk_at "td"
      refine ⟨x, dx, _, rfl, hx3, x, n, m, us, rfl, ⟨dx, t, ys, hx3, ht.sm s03, hdt.sm s03⟩, ?_⟩
      repeat walk_at "td"
      refine ⟨a, xs, rfl, .inl (hs.sm s03), ?_⟩
      repeat walk_at "td"
      rw [lxs, decide_eq_true rfl]
      exact k _ s03
end
end L2.TD
namespace L2.TD
open PySem PySem.Spec PyProof.Rows
local macro_rules | `(tactic| walk_at "td_side") => `(tactic| first
  | ((with_reducible show CMul _ _); refine Or.inr ⟨?_, ?_⟩ <;> decide)
  | ((with_reducible show CDiv _ _); refine ⟨?_, ?_⟩ <;> decide)
  | ((with_reducible show CPow _ _); refine ⟨?_, ?_, ?_⟩ <;> decide)
  | (show (0 : Int) < _; first | decide | omega)
  | ((with_reducible show scal _ _ = true); rfl)
  | ((show tyV _ "list" _ _); exact Or.inl ⟨rfl, _, SqL.of (by first | exact upd_same | assumption)⟩))
local macro_rules | `(tactic| walk_at "td") => `(tactic| first
  | (refine ⟨_, _, rfl, rfl, ?_⟩)
  | (refine ⟨_, rfl, ?_⟩)
  | (refine Or.inl ⟨_, rfl, ?_⟩)
  | (refine And.intro ?side ?_; (case side => walk_at "td_side"))
  | (refine ⟨_, _, _, _, rfl, rfl, SqL.of (by first | exact upd_same | assumption), by rfl, ?_⟩)
  | (refine ⟨_, _, _, _, rfl, rfl, (by first | exact upd_same | assumption), by rfl, ?_⟩))
/-! _law_spoilt -/
abbrev sSpoilt : Stmt := top 29
structure RS (K : PySem.W.Frag) (h : HandId) (H : Hp) (pr : Addr) (ys : List V) (ds : List PyData) (v4 v5 : V) (d4 d5 : PyData) (acc : List V) (ads : List PyData) (Hi : Hp) : Prop where
  go : Go h H Hi
  nr : H pr = none
  na : pr ≠ h.a
  nc : pr ≠ h.c
  raw : Hi pr = some (.lst ys)
  ds : DpAll K (wo [pr, h.a] Hi) ys ds
  k4 : Dp K (wo [pr, h.a] Hi) v4 d4
  k5 : Dp K (wo [pr, h.a] Hi) v5 d5
  acc : DpAll K (wo [pr, h.a] Hi) acc ads
section
variable {K : PySem.W.Frag} {h : HandId} {H : Hp} {pr q : Addr} {ys zs acc : List V} {ds ads es : List PyData} {v4 v5 v : V} {d4 d5 d : PyData} {Hi Hj : Hp} {o : HO}
theorem RS.kp (r : RS K h H pr ys ds v4 v5 d4 d5 acc ads Hi) (k : Keeps [pr, h.a] Hi Hj) (go : Go h H Hj) (raw : Hj pr = some (.lst ys)) : RS K h H pr ys ds v4 v5 d4 d5 acc ads Hj :=
  ⟨go, r.nr, r.na, r.nc, raw, r.ds.sm k.wo, r.k4.sm k.wo, r.k5.sm k.wo, r.acc.sm k.wo⟩
theorem RS.new (r : RS K h H pr ys ds v4 v5 d4 d5 acc ads Hi) (nq : Hi q = none) : RS K h H pr ys ds v4 v5 d4 d5 acc ads (upd Hi q o) :=
  r.kp (Keeps.new nq) (r.go.new nq) ((Keeps.new (S := []) nq).same _ _ r.raw)
theorem RS.take (r : RS K h H pr ys ds v4 v5 d4 d5 acc ads Hi) (go : Go h Hi Hj) : RS K h H pr ys ds v4 v5 d4 d5 acc ads Hj :=
  r.kp (go.keep.mono (by simp)) (r.go.trans go) (go.keep _ _ (by simpa using r.na) r.raw)
theorem RS.ne (r : RS K h H pr ys ds v4 v5 d4 d5 acc ads Hi) (nq : Hi q = none) : q ∉ [pr, h.a] := by
  have n1 := fresh_ne nq r.raw
  have n2 := (r.go.hand.fresh nq).1
  simp only [List.mem_cons, List.not_mem_nil, or_false, not_or]
  exact ⟨n1, n2⟩
theorem RS.tup (r : RS K h H pr ys ds v4 v5 d4 d5 acc ads Hi) (nq : Hi q = none) (hz : DpAll K (wo [pr, h.a] Hi) zs es) : RS K h H pr ys ds v4 v5 d4 d5 (.ref q :: acc) (.tuple es :: ads) (upd Hi q (.tup zs)) := by
  have r1 := r.new (o := .tup zs) nq
  refine ⟨r1.go, r1.nr, r1.na, r1.nc, r1.raw, r1.ds, r1.k4, r1.k5, .cons (.tup (SqT.of ?_) (hz.sm (Keeps.new nq).wo)) r1.acc⟩
  rw [wo_out (r.ne nq), upd_same]
theorem RS.lst (r : RS K h H pr ys ds v4 v5 d4 d5 acc ads Hi) (nq : Hi q = none) (hz : DpAll K (wo [pr, h.a] Hi) zs es) : RS K h H pr ys ds v4 v5 d4 d5 (.ref q :: acc) (.list es :: ads) (upd Hi q (.lst zs)) := by
  have r1 := r.new (o := .lst zs) nq
  refine ⟨r1.go, r1.nr, r1.na, r1.nc, r1.raw, r1.ds, r1.k4, r1.k5, .cons (.lst (SqL.of ?_) (hz.sm (Keeps.new nq).wo)) r1.acc⟩
  rw [wo_out (r.ne nq), upd_same]
theorem RS.drop (r : RS K h H pr ys ds v4 v5 d4 d5 acc ads Hi) : RS K h H pr ys ds v4 v5 d4 d5 [] [] Hi := ⟨r.go, r.nr, r.na, r.nc, r.raw, r.ds, r.k4, r.k5, .nil⟩
theorem RS.set {ys' : List V} {ds' : List PyData} (r : RS K h H pr ys ds v4 v5 d4 d5 acc ads Hi) (hy : DpAll K (wo [pr, h.a] Hi) ys' ds') : RS K h H pr ys' ds' v4 v5 d4 d5 acc ads (upd Hi pr (.lst ys')) := by
  have k : Keeps [pr, h.a] Hi (upd Hi pr (.lst ys')) := Keeps.mut (by simp)
  exact ⟨r.go.late r.nr r.na r.nc, r.nr, r.na, r.nc, upd_same, hy.sm k.wo, r.k4.sm k.wo, r.k5.sm k.wo, r.acc.sm k.wo⟩
theorem RS.put4 {v4' : V} {d4' : PyData} (r : RS K h H pr ys ds v4 v5 d4 d5 acc ads Hi) (hy : Dp K (wo [pr, h.a] Hi) v4' d4') : RS K h H pr ys ds v4' v5 d4' d5 acc ads Hi := ⟨r.go, r.nr, r.na, r.nc, r.raw, r.ds, hy, r.k5, r.acc⟩
theorem RS.put5 {v5' : V} {d5' : PyData} (r : RS K h H pr ys ds v4 v5 d4 d5 acc ads Hi) (hy : Dp K (wo [pr, h.a] Hi) v5' d5') : RS K h H pr ys ds v4 v5' d4 d5' acc ads Hi := ⟨r.go, r.nr, r.na, r.nc, r.raw, r.ds, r.k4, hy, r.acc⟩
/-- another list becomes the raw one -/
theorem RS.change {ys' : List V} {ds' : List PyData} (r : RS K h H pr ys ds v4 v5 d4 d5 acc ads Hi) (nq : Hi q = none) (hy : DpAll K (wo [h.a] Hi) ys' ds') : RS K h H q ys' ds' v4 v5 d4 d5 [] [] (upd Hi q (.lst ys')) := by
  have nf := r.go.hand.fresh nq
  have e : Same (wo [pr, h.a] Hi) (wo [q, h.a] (upd Hi q (.lst ys'))) := fun b o e => by
    have e1 : wo [h.a] Hi b = some o := wo_mono (S := [h.a]) (T := [pr, h.a]) (by simp) b o e
    exact wo_more nq b o e1
  exact ⟨r.go.new nq, r.go.keep.free nq (by simpa using nf.1), nf.1, nf.2, upd_same, hy.sm (wo_more nq), r.k4.sm e, r.k5.sm e, .nil⟩
theorem pick {Hw : Hp} {xs : List V} (hall : DpAll K Hw xs ds) {r : Int} (h0 : 0 ≤ r) (h1 : r < xs.length) : ∃ v d, atI xs r = some v ∧ Dp K Hw v d := by
  have hr : r.toNat < xs.length := by omega
  obtain ⟨d, _, hd⟩ := hall.get (List.getElem?_eq_getElem hr)
  exact ⟨_, d, at_of (j := r.toNat) (by omega) (List.getElem?_eq_getElem hr), hd⟩
end
theorem tand {K : PySem.W.Frag} {p : Prop} [Decidable p] {σ : St} {i : Nat} {x : V} {H : Hp} {k0 : Bool} {A B : Prop} (hx : σ[i]? = some (some x)) (ht : TruV K x H k0) (h1 : p → k0 = true → A) (h2 : ¬(p ∧ k0 = true) → B) :
    if decide p = true then (∃ v, σ[i]? = some (some v) ∧ ∃ k, TruV K v H k ∧ (if k = true then A else B)) else (if false = true then A else B) := by
  refine iteD (fun c => ⟨x, hx, k0, ht, ?_⟩) (fun c => iteF (h2 fun z => c z.1))
  cases k0 with
  | true => exact iteT (h1 c rfl)
  | false => exact iteF (h2 fun z => Bool.noConfusion z.2)
theorem up_ok {n : Nat} (h : n ≤ 100) : n ≤ sizeLine := small12' (by omega)
section
variable {P : Program} {w : World} {K : PySem.W.Frag} {mg : Str → Option Value} {base : Heap} {f : Addr} {fd : FuncData}
def spSpoilt (K : PySem.W.Frag) : Sp := fun vs H Q _ => ∃ (h : HandId) (a : Addr) (n m : Nat) (xs : List V) (us : List Tie), vs = [.ref h.a, .int n, .int m, .ref a] ∧ Hand h H ∧ a ≠ h.a ∧ 1 ≤ n ∧ n ≤ 6 ∧ 1 ≤ m ∧ m ≤ 6 ∧ SqL K H a xs ∧ DpAll K (wo [h.a] H) xs (us.map tieD) ∧ us.length ≤ 12 ∧
  ∀ (t : Addr) (v1 v2 v3 : V) (d1 d2 : PyData) (T : Option (List PyData)) (H' : Hp), Go h H H' → H' t = some (.lst [v1, v2, v3]) → Dp K H' v1 d1 → Dp K H' v2 d2 → TArg K H' v3 T → Q (.ref t) H'
abbrev nSpoilt : List Str := ["_law_hand_here", "_law_n", "_law_m", "_law_ties", "_law_things", "_law_clubs", "_law_raw", "_law_k", "_law_kind", "_law_place", "_law_odd", "_law_thing", "_law_shape_here", "_law_club"]
theorem scSpoilt : FnScope nSpoilt ["_law_hand_here", "_law_n", "_law_m", "_law_ties"] (C8.fnScope sSpoilt) := C8.fnScope_by (by decide +kernel)
theorem ok_spoilt (B : Blt mg) (F : C8.Def K mg "_law_spoilt" sSpoilt f fd) (b : Binds K fd ["_law_hand_here", "_law_n", "_law_m", "_law_ties"] []) (cT : C8.Cal P w K mg base 2 "_law_take" spTake []) (cC : C8.Cal P w K mg base 3 "_law_couples" (spCouples K) []) (cM : C8.Cal P w K mg base 3 "_law_mixed_up" (spMixed K) []) :
    C8.Cal P w K mg base 4 "_law_spoilt" (spSpoilt K) [] := by
  refine C8.cal0 F b .nil scSpoilt (fun vs H Q E h => ?_) (fun cdv A outer s H vs Q E hr h => ?_)
  · obtain ⟨h, a, n, m, xs, us, rfl, _⟩ := h
    rfl
  · obtain ⟨h, a, n, m, xs, us, rfl, hh, nah, n1, n6, m1, m6, hs, hd, hl, k⟩ := h
    have nd := scSpoilt.nd
    refine ⟨_, pss_cons (ps_set (i := 4) nd rfl (.inl rfl) (pv 1))
      (pss_cons (ps_set (i := 5) nd rfl (.inl rfl) (pv 2))
      (pss_cons (ps_set (i := 6) nd rfl (.inl rfl) (C8.pe_c cC hr (by decide) (by rfl) (pa_cons (pv 0) (pa_cons (C8.pe_c cM hr (by decide) (by rfl) (pa_cons (pv 0) (pa_cons (pv 3) pa_nil))) pa_nil))))
      (C8.pss_cut (ps_for PassesOwn.never rfl (pi_range1 (by rfl) B.range (pa_cons (C8.pe_c cT hr (by decide) (by rfl) (pa_cons (pv 0) (pa_cons pe_int pa_nil))) pa_nil)) (pg_name (i := 7) nd rfl (.inl rfl))
        (pss_cons (ps_set (i := 8) nd rfl (.inl rfl) (C8.pe_c cT hr (by decide) (by rfl) (pa_cons (pv 0) (pa_cons pe_int pa_nil))))
        (pss_cons (ps_set (i := 9) nd rfl (.inl rfl) (C8.pe_c cT hr (by decide) (by rfl) (pa_cons (pv 0) (pa_cons (pe_op op_add (pe_callB call_len_seq (by rfl) B.len PySem.boot_len (pa_cons (pv 6) pa_nil)) pe_int) pa_nil))))
        (pss_one (ps_if (pt_cmpR op_eq (pv 8) pe_int (nomark _))
          (pss_one (ps_set (i := 4) nd rfl (.inl rfl) (pe_ix ix_tup (pe_tup (pa_cons pe_int (pa_cons pe_int (pa_cons (pe_un un_neg pe_int) (pa_cons pe_bl (pa_cons pe_non (pa_cons pe_str (pa_cons (pe_op op_add (pv 1) pe_int) (pa_cons (pe_op op_sub (pv 1) pe_int) (pa_cons (pe_tup (pa_cons pe_int pa_nil)) pa_nil))))))))))
            (C8.pe_c cT hr (by decide) (by rfl) (pa_cons (pv 0) (pa_cons pe_int pa_nil))) (fun _ _ => rfl))))
          (pss_one (ps_if (pt_cmpR op_eq (pv 8) pe_int (nomark _))
            (pss_one (ps_set (i := 5) nd rfl (.inl rfl) (pe_ix ix_tup (pe_tup (pa_cons pe_int (pa_cons pe_int (pa_cons (pe_un un_neg pe_int) (pa_cons pe_bl (pa_cons pe_non (pa_cons pe_str (pa_cons (pe_op op_add (pv 2) pe_int) (pa_cons (pe_op op_sub (pv 2) pe_int) (pa_cons (pe_lst (pa_cons pe_int pa_nil)) pa_nil))))))))))
              (C8.pe_c cT hr (by decide) (by rfl) (pa_cons (pv 0) (pa_cons pe_int pa_nil))) (fun _ _ => rfl))))
            (pss_one (ps_if (pt_cmpR op_eq (pv 8) pe_int (nomark _))
              (pss_cons (ps_set (i := 10) nd rfl (.inl rfl) (pe_lst (pa_cons (pe_tup (pa_cons (pv 1) (pa_cons pe_int pa_nil))) (pa_cons (pe_tup (pa_cons pe_int (pa_cons (pv 2) pa_nil))) (pa_cons (pe_tup (pa_cons (pe_un un_neg pe_int) (pa_cons pe_int pa_nil))) (pa_cons (pe_tup (pa_cons pe_int (pa_cons (pe_un un_neg pe_int) pa_nil)))
                  (pa_cons (pe_tup (pa_cons pe_bl (pa_cons pe_int pa_nil))) (pa_cons (pe_tup (pa_cons pe_int (pa_cons pe_bl pa_nil))) (pa_cons (pe_tup (pa_cons pe_int pa_nil)) (pa_cons (pe_tup (pa_cons pe_int (pa_cons pe_int (pa_cons pe_int pa_nil)))) (pa_cons pe_non (pa_cons pe_str (pa_cons pe_int (pa_cons (pe_lst pa_nil)
                  (pa_cons (pe_tup (pa_cons pe_str (pa_cons pe_int pa_nil))) pa_nil)))))))))))))))
              (pss_one (ps_expr (pe_bm PySem.F.plainAttrs_list PySem.F.slot_list_insert PySem.F.type_list_insert mt_insert (pv 6) (pa_cons (pv 9) (pa_cons (pe_ix ix_list (pv 10) (C8.pe_c cT hr (by decide) (by rfl) (pa_cons (pv 0) (pa_cons pe_int pa_nil))) (fun _ _ => rfl)) pa_nil))))))
              (pss_one (ps_if (PW.pt (pw_and (pt_cmpR op_eq (pv 8) pe_int (nomark _)) (pw_and1 (pt_truth (pv 6) (by intro _; rfl)))))
                (pss_one (ps_expr (pe_bm PySem.F.plainAttrs_list PySem.F.slot_list_insert PySem.F.type_list_insert mt_insert (pv 6) (pa_cons (pv 9) (pa_cons (pe_ix ix_list (pv 6) (C8.pe_c cT hr (by decide) (by rfl) (pa_cons (pv 0) (pa_cons (pe_callB call_len_seq (by rfl) B.len PySem.boot_len (pa_cons (pv 6) pa_nil)) pa_nil))) (fun _ _ => rfl)) pa_nil)))))
                (pss_one (ps_if (PW.pt (pw_and (pt_cmpR op_le (pv 8) pe_int (nomark _)) (pw_and1 (pt_truth (pv 6) (by intro _; rfl)))))
                  (pss_cons (ps_expr (pe_bm PySem.F.plainAttrs_list PySem.F.slot_list_pop PySem.F.type_list_pop mt_popAt (pv 6) (pa_cons (C8.pe_c cT hr (by decide) (by rfl) (pa_cons (pv 0) (pa_cons (pe_callB call_len_seq (by rfl) B.len PySem.boot_len (pa_cons (pv 6) pa_nil)) pa_nil))) pa_nil)))
                  (pss_one (ps_if (pt_cmpR op_eq (pv 8) pe_int (nomark _)) (pss_one (ps_expr (pe_bm PySem.F.plainAttrs_list PySem.F.slot_list_append PySem.F.type_list_append mt_append (pv 6) (pa_cons (pe_tup (pa_cons (C8.pe_c cT hr (by decide) (by rfl) (pa_cons (pv 0) (pa_cons (pv 1) pa_nil))) (pa_cons (C8.pe_c cT hr (by decide) (by rfl) (pa_cons (pv 0) (pa_cons (pv 2) pa_nil))) pa_nil))) pa_nil)))) pss_nil)))
                  (pss_one (ps_if (pt_cmpR op_eq (pv 8) pe_int (nomark _))
                    (pss_cons (ps_set (i := 6) nd rfl (.inl rfl) (pe_lst pa_nil))
                    (pss_one (ps_for PassesOwn.never rfl (pi_range1 (by rfl) B.range (pa_cons (pv 1) pa_nil)) (pg_name (i := 11) nd rfl (.inr rfl))
                      (pss_one (ps_set (i := 6) nd rfl (.inl rfl) (pe_op op_cat (pv 6) (pe_lc (own := [("_law_club", 13)]) (g := gName 13) (tt := tYes) (te := tTup (tCons (tVar 11) (tCons (tVar 13) tNil))) rfl nd (pi_range1 (by rfl) B.range (pa_cons (pv 2) pa_nil)) (blkOk_by (N := nSpoilt) (sc := C8.fnScope sSpoilt) (by decide +kernel))
                        (fun _ _ _ _ _ => pg_name (i := 13) nd rfl (.inl rfl)) (fun _ _ _ _ _ => pts_nil) (fun _ _ _ _ _ => pe_tup (pa_cons (pv 11) (pa_cons (pv 13) pa_nil))))))))))
                    pss_nil)))))))))))))))
      (pss_cons (ps_set (i := 12) nd rfl (.inl rfl) (C8.pe_c cT hr (by decide) (by rfl) (pa_cons (pv 0) (pa_cons pe_int pa_nil))))
      (pss_cons (ps_if (pt_cmpR op_eq (pv 12) pe_int (nomark _))
        (pss_one (ps_ret (pe_lst (pa_cons (pv 4) (pa_cons (pv 5) (pa_cons (pe_ix ix_tup (pe_tup (pa_cons pe_non (pa_cons pe_int (pa_cons pe_str (pa_cons pe_dnewK pa_nil))))) (C8.pe_c cT hr (by decide) (by rfl) (pa_cons (pv 0) (pa_cons pe_int pa_nil))) (fun _ _ => rfl)) pa_nil)))))) pss_nil)
      (pss_one (ps_ret (pe_lst (pa_cons (pv 4) (pa_cons (pv 5) (pa_cons (pe_ifExp (pt_cmpR op_eq (pe_op op_mod (pe_callTy call_int1 (by rfl) B.int (by decide +kernel) (pa_cons (pv 12) pa_nil)) pe_int) pe_int (nomark _)) (pv 6) (pe_callTy call_tuple_of (by rfl) B.tuple (by decide +kernel) (pa_cons (pv 6) pa_nil))) pa_nil))))))))))), ?_⟩
    repeat walk_at "td"
    refine ⟨h, a, xs, us, rfl, hh, hs, hd, hl, fun q1 ys1 us1 H1 go1 nq1 hq1 hd1 pm1 => ?_⟩
    repeat walk_at "td"
    refine ⟨h, q1, ys1, us1, rfl, go1.hand, (hh.fresh nq1).1, SqL.of hq1, hd1, by rw [pm1.length_eq]; exact hl, fun pr ys ds H2 go2 nr hr2 hds hcp cpv => ?_⟩
    have nrH : H pr = none := go1.keep.free nr (by simpa using (go1.hand.fresh nr).1)
    have rs : RS K h H pr ys ds (.int n) (.int m) (.int n) (.int m) [] [] H2 := ⟨go1.trans go2, nrH, (hh.fresh nrH).1, (hh.fresh nrH).2, hr2, hds, .int _, .int _, .nil⟩
    have hlen : ds.length ≤ 36 := by
      have e1 := hcp.1
      have e2 := pm1.length_eq
      omega
    clear cpv go1 nq1 hq1 hd1 pm1 go2 nr nrH hr2 hds hcp H1 q1 ys1 us1
    repeat walk_at "td"
    refine ⟨fun σ H' => ∃ (v4 v5 : V) (x7 x8 x9 x10 x11 : Option V) (pr : Addr) (ys : List V) (ds : List PyData) (d4 d5 : PyData), σ = [some (.ref h.a), some (.int n), some (.int m), some (.ref a), some v4, some v5, some (.ref pr), x7, x8, x9, x10, x11, none, none] ∧ RS K h H pr ys ds v4 v5 d4 d5 [] [] H' ∧ ds.length ≤ 39, ?_, ?_⟩
    · repeat walk_at "td"
      refine ⟨h, _, rfl, by decide, by decide, rs.go.hand, fun rr H3 r0 r1 go => ?_⟩
      repeat walk_at "td"
      refine ⟨by omega, by omega, ?_⟩
      refine for_range (fun j σ H' => ∃ (v4 v5 : V) (x7 x8 x9 x10 x11 : Option V) (pr : Addr) (ys : List V) (ds : List PyData) (d4 d5 : PyData), σ = [some (.ref h.a), some (.int n), some (.int m), some (.ref a), some v4, some v5, some (.ref pr), x7, x8, x9, x10, x11, none, none] ∧ RS K h H pr ys ds v4 v5 d4 d5 [] [] H' ∧ ds.length ≤ 36 + j)
        ⟨_, _, none, none, none, none, none, pr, ys, ds, _, _, rfl, rs.take go, by omega⟩ ?_ (fun σ H' ⟨v4, v5, x7, x8, x9, x10, x11, pr, ys, ds, d4, d5, e, r, l⟩ => ⟨v4, v5, x7, x8, x9, x10, x11, pr, ys, ds, d4, d5, e, r, by omega⟩)
      clear rs hlen ys ds pr H2 H3 go
      rintro j σ H2 hj ⟨v4, v5, x7, x8, x9, x10, x11, pr, ys, ds, d4, d5, rfl, rs, hlen⟩
      have hj3 : j < 3 := by omega
      have lys : ys.length = ds.length := rs.ds.length
      repeat walk_at "td"
      refine ⟨h, _, rfl, by decide, by decide, rs.go.hand, fun kd H3 kd0 kd1 go3 => ?_⟩
      have rs3 := rs.take go3
      repeat walk_at "td"
      refine ⟨pr, ys, rfl, .inl (SqL.of rs3.raw), ?_⟩
      repeat walk_at "td"
      refine ⟨h, _, rfl, by omega, by omega, rs3.go.hand, fun pl H4 pl0 pl1 go4 => ?_⟩
      have rs4 := rs3.take go4
      clear rs rs3 go3 go4 H2 H3
      have hraw := rs4.raw
      repeat walk_at "td"
      refine iteD (fun ck => ?_) (fun ck => ?_)
      · repeat walk_at "td"
        refine ⟨one_ok, fun q nq => ?_⟩
        repeat walk_at "td"
        refine ⟨up_ok (n := 9) (by decide), fun p np => ?_⟩
        have r5 := rs4.tup (zs := [.int 2]) (es := [.int 2]) nq (.cons (.int _) .nil)
        have r6 := r5.new (o := .tup [V.int 0, .int 7, .int (-3), .bl true, .non, .str "2", .int ((n : Int) + 1), .int ((n : Int) - 1), .ref q]) np
        have hp6 : upd (upd H4 q (.tup [.int 2])) p (.tup [V.int 0, .int 7, .int (-3), .bl true, .non, .str "2", .int ((n : Int) + 1), .int ((n : Int) - 1), .ref q]) p = some (.tup [V.int 0, .int 7, .int (-3), .bl true, .non, .str "2", .int ((n : Int) + 1), .int ((n : Int) - 1), .ref q]) := upd_same
        repeat walk_at "td"
        refine ⟨h, _, rfl, by decide, by decide, r6.go.hand, fun r H7 r0 r1 go7 => ?_⟩
        have r7 := r6.take go7
        have hall : DpAll K (wo [pr, h.a] H7) [V.int 0, .int 7, .int (-3), .bl true, .non, .str "2", .int ((n : Int) + 1), .int ((n : Int) - 1), .ref q] _ := .cons (.int _) (.cons (.int _) (.cons (.int _) (.cons (.bl _) (.cons .non (.cons (.str _) (.cons (.int _) (.cons (.int _) r7.acc)))))))
        obtain ⟨v, d, hv, hdv⟩ := pick hall r0 (by exact r1)
        have np7 : p ≠ h.a := (r5.go.hand.fresh np).1
        refine ⟨p, _, r, v, rfl, rfl, SqT.of (go7.keep _ _ (by simpa using np7) hp6), hv, ?_⟩
        repeat walk_at "td"
        exact ⟨v, v5, _, _, _, _, _, pr, ys, ds, d, d5, rfl, (r7.put4 hdv).drop, by omega⟩
      repeat walk_at "td"
      refine iteD (fun ck2 => ?_) (fun ck2 => ?_)
      · repeat walk_at "td"
        refine ⟨one_ok, fun q nq => ?_⟩
        repeat walk_at "td"
        refine ⟨up_ok (n := 9) (by decide), fun p np => ?_⟩
        have r5 := rs4.lst (zs := [.int 2]) (es := [.int 2]) nq (.cons (.int _) .nil)
        have r6 := r5.new (o := .tup [V.int 0, .int 7, .int (-3), .bl true, .non, .str "2", .int ((m : Int) + 1), .int ((m : Int) - 1), .ref q]) np
        have hp6 : upd (upd H4 q (.lst [.int 2])) p (.tup [V.int 0, .int 7, .int (-3), .bl true, .non, .str "2", .int ((m : Int) + 1), .int ((m : Int) - 1), .ref q]) p = some (.tup [V.int 0, .int 7, .int (-3), .bl true, .non, .str "2", .int ((m : Int) + 1), .int ((m : Int) - 1), .ref q]) := upd_same
        repeat walk_at "td"
        refine ⟨h, _, rfl, by decide, by decide, r6.go.hand, fun r H7 r0 r1 go7 => ?_⟩
        have r7 := r6.take go7
        have hall : DpAll K (wo [pr, h.a] H7) [V.int 0, .int 7, .int (-3), .bl true, .non, .str "2", .int ((m : Int) + 1), .int ((m : Int) - 1), .ref q] _ := .cons (.int _) (.cons (.int _) (.cons (.int _) (.cons (.bl _) (.cons .non (.cons (.str _) (.cons (.int _) (.cons (.int _) r7.acc)))))))
        obtain ⟨v, d, hv, hdv⟩ := pick hall r0 (by exact r1)
        have np7 : p ≠ h.a := (r5.go.hand.fresh np).1
        refine ⟨p, _, r, v, rfl, rfl, SqT.of (go7.keep _ _ (by simpa using np7) hp6), hv, ?_⟩
        repeat walk_at "td"
        exact ⟨v4, v, _, _, _, _, _, pr, ys, ds, d4, d, rfl, (r7.put5 hdv).drop, by omega⟩
      repeat walk_at "td"
      refine iteD (fun ck3 => ?_) (fun ck3 => ?_)
      · repeat walk_at "td"
        refine ⟨two_ok, fun q1 nq1 => ?_⟩
        have t1 := rs4.tup (zs := [.int n, .int 0]) (es := [.int n, .int 0]) nq1 (.cons (.int _) (.cons (.int _) .nil))
        repeat walk_at "td"
        refine ⟨two_ok, fun q2 nq2 => ?_⟩
        have t2 := t1.tup (zs := [.int 0, .int m]) (es := [.int 0, .int m]) nq2 (.cons (.int _) (.cons (.int _) .nil))
        repeat walk_at "td"
        refine ⟨two_ok, fun q3 nq3 => ?_⟩
        have t3 := t2.tup (zs := [.int (-1), .int 0]) (es := [.int (-1), .int 0]) nq3 (.cons (.int _) (.cons (.int _) .nil))
        repeat walk_at "td"
        refine ⟨two_ok, fun q4 nq4 => ?_⟩
        have t4 := t3.tup (zs := [.int 0, .int (-1)]) (es := [.int 0, .int (-1)]) nq4 (.cons (.int _) (.cons (.int _) .nil))
        repeat walk_at "td"
        refine ⟨two_ok, fun q5 nq5 => ?_⟩
        have t5 := t4.tup (zs := [.bl true, .int 0]) (es := [.bool true, .int 0]) nq5 (.cons (.bl _) (.cons (.int _) .nil))
        repeat walk_at "td"
        refine ⟨two_ok, fun q6 nq6 => ?_⟩
        have t6 := t5.tup (zs := [.int 0, .bl false]) (es := [.int 0, .bool false]) nq6 (.cons (.int _) (.cons (.bl _) .nil))
        repeat walk_at "td"
        refine ⟨one_ok, fun q7 nq7 => ?_⟩
        have t7 := t6.tup (zs := [.int 0]) (es := [.int 0]) nq7 (.cons (.int _) .nil)
        repeat walk_at "td"
        refine ⟨three_ok, fun q8 nq8 => ?_⟩
        have t8 := t7.tup (zs := [.int 0, .int 0, .int 0]) (es := [.int 0, .int 0, .int 0]) nq8 (.cons (.int _) (.cons (.int _) (.cons (.int _) .nil)))
        repeat walk_at "td"
        refine ⟨Nat.zero_le _, fun q9 nq9 => ?_⟩
        have t9 := t8.lst (zs := []) (es := []) nq9 .nil
        repeat walk_at "td"
        refine ⟨two_ok, fun q10 nq10 => ?_⟩
        have t10 := t9.tup (zs := [.str "0", .int 0]) (es := [.str "0", .int 0]) nq10 (.cons (.str _) (.cons (.int _) .nil))
        repeat walk_at "td"
        refine ⟨up_ok (n := 13) (by decide), fun p np => ?_⟩
        have t11 := t10.new (o := .lst [V.ref q1, .ref q2, .ref q3, .ref q4, .ref q5, .ref q6, .ref q7, .ref q8, .non, .str "00", .int 5, .ref q9, .ref q10]) np
        have np7 : p ≠ h.a := (t10.go.hand.fresh np).1
        have hraw11 := t11.raw
        repeat walk_at "td"
        refine ⟨h, _, rfl, by decide, by decide, t11.go.hand, fun r H7 r0 r1 go7 => ?_⟩
        have r7 := t11.take go7
        have hp7 := go7.keep p _ (by simpa using np7) upd_same
        have acc7 := r7.acc
        cases acc7 with
        | cons b10 acc7 =>
        cases acc7 with
        | cons b9 acc7 =>
        cases acc7 with
        | cons b8 acc7 =>
        cases acc7 with
        | cons b7 acc7 =>
        cases acc7 with
        | cons b6 acc7 =>
        cases acc7 with
        | cons b5 acc7 =>
        cases acc7 with
        | cons b4 acc7 =>
        cases acc7 with
        | cons b3 acc7 =>
        cases acc7 with
        | cons b2 acc7 =>
        cases acc7 with
        | cons b1 acc7 =>
        have hall : DpAll K (wo [pr, h.a] H7) [V.ref q1, .ref q2, .ref q3, .ref q4, .ref q5, .ref q6, .ref q7, .ref q8, .non, .str "00", .int 5, .ref q9, .ref q10] _ := (.cons b1 (.cons b2 (.cons b3 (.cons b4 (.cons b5 (.cons b6 (.cons b7 (.cons b8 (.cons .non (.cons (.str _) (.cons (.int _) (.cons b9 (.cons b10 .nil)))))))))))))
        obtain ⟨v, d, hv, hdv⟩ := pick hall r0 (by exact r1)
        refine ⟨p, _, r, v, rfl, rfl, SqL.of hp7, hv, ?_⟩
        repeat walk_at "td"
        refine ⟨pr, ys, pl, v, rfl, rfl, r7.raw, small12 (by omega), pl0, by omega, ?_⟩
        have hy : DpAll K (wo [pr, h.a] H7) (ys.take pl.toNat ++ [v] ++ ys.drop pl.toNat) (ds.take pl.toNat ++ [d] ++ ds.drop pl.toNat) := ((r7.ds.take _).append (.cons hdv .nil)).append (r7.ds.drop _)
        refine ⟨v4, v5, _, _, _, _, _, pr, _, _, d4, d5, rfl, (r7.set hy).drop, ?_⟩
        rw [List.length_append, List.length_append, List.length_take, List.length_drop, List.length_singleton]
        omega
      clear ck ck2 ck3
      repeat walk_at "td"
      refine tand (i := 6) rfl (.inl ⟨ys, SqL.of hraw, rfl⟩) (fun c1 c2 => ?_) (fun c => ?_)
      · have hne : 0 < ys.length := by
          cases ys with
          | nil => exact absurd c2 (by decide)
          | cons y ys => exact Nat.succ_pos _
        repeat walk_at "td"
        refine ⟨pr, ys, rfl, .inl (SqL.of hraw), ?_⟩
        repeat walk_at "td"
        refine ⟨h, _, rfl, by omega, by omega, rs4.go.hand, fun r H7 r0 r1 go7 => ?_⟩
        have r7 := rs4.take go7
        obtain ⟨v, d, hv, hdv⟩ := pick r7.ds r0 (by exact r1)
        refine ⟨pr, ys, r, v, rfl, rfl, SqL.of r7.raw, hv, ?_⟩
        repeat walk_at "td"
        refine ⟨pr, ys, pl, v, rfl, rfl, r7.raw, small12 (by omega), pl0, by omega, ?_⟩
        have hy : DpAll K (wo [pr, h.a] H7) (ys.take pl.toNat ++ [v] ++ ys.drop pl.toNat) (ds.take pl.toNat ++ [d] ++ ds.drop pl.toNat) := ((r7.ds.take _).append (.cons hdv .nil)).append (r7.ds.drop _)
        refine ⟨v4, v5, _, _, _, _, _, pr, _, _, d4, d5, rfl, (r7.set hy).drop, ?_⟩
        rw [List.length_append, List.length_append, List.length_take, List.length_drop, List.length_singleton]
        omega
      clear c
      repeat walk_at "td"
      refine tand (i := 6) rfl (.inl ⟨ys, SqL.of hraw, rfl⟩) (fun c1 c2 => ?_) (fun c => ?_)
      · have hne : 0 < ys.length := by
          cases ys with
          | nil => exact absurd c2 (by decide)
          | cons y ys => exact Nat.succ_pos _
        repeat walk_at "td"
        refine ⟨pr, ys, rfl, .inl (SqL.of hraw), ?_⟩
        repeat walk_at "td"
        refine ⟨h, _, rfl, by omega, by omega, rs4.go.hand, fun r H7 r0 r1 go7 => ?_⟩
        have r7 := rs4.take go7
        obtain ⟨v, hv⟩ : ∃ v, ys[r.toNat]? = some v := ⟨_, List.getElem?_eq_getElem (by omega : r.toNat < ys.length)⟩
        refine ⟨pr, ys, r, r.toNat, v, rfl, rfl, r7.raw, by omega, by omega, seqIx (k := 0) r0 (by omega), hv, ?_⟩
        have r8 := r7.set (r7.ds.erase r.toNat)
        have l8 : (ds.eraseIdx r.toNat).length ≤ 35 + j := by
          rw [List.length_eraseIdx_of_lt (by omega)]
          omega
        clear r7 go7
        generalize upd H7 pr (.lst (ys.eraseIdx r.toNat)) = H8 at r8 ⊢
        have hraw8 := r8.raw
        have lys8 := r8.ds.length
        repeat walk_at "td"
        refine iteD (fun c5 => ?_) (fun c5 => ?_)
        · repeat walk_at "td"
          refine ⟨h, _, rfl, by omega, by omega, r8.go.hand, fun ra H9 a0 a1 go9 => ?_⟩
          have r9 := r8.take go9
          repeat walk_at "td"
          refine ⟨h, _, rfl, by omega, by omega, r9.go.hand, fun rb H10 b0 b1 go10 => ?_⟩
          have r10 := r9.take go10
          repeat walk_at "td"
          refine ⟨two_ok, fun q nq => ?_⟩
          have r11 := r10.tup (zs := [.int ra, .int rb]) (es := [.int ra, .int rb]) nq (.cons (.int _) (.cons (.int _) .nil))
          refine ⟨pr, _, _, rfl, rfl, r11.raw, small12 (by omega), ?_⟩
          have r12 := (r11.set (r11.ds.append r11.acc)).drop
          refine ⟨v4, v5, _, _, _, _, _, pr, _, _, d4, d5, rfl, r12, ?_⟩
          rw [List.length_append]
          show (ds.eraseIdx r.toNat).length + 1 ≤ _
          omega
        · exact ⟨v4, v5, _, _, _, _, _, pr, _, _, d4, d5, rfl, r8, by omega⟩
      clear c
      repeat walk_at "td"
      refine iteD (fun c6 => ?_) (fun c6 => ⟨v4, v5, _, _, _, _, _, pr, _, _, d4, d5, rfl, rs4, by omega⟩)
      repeat walk_at "td"
      refine ⟨Nat.zero_le _, fun p np => ?_⟩
      have r5 := rs4.change np (ys' := []) (ds' := []) .nil
      clear c6 hraw rs4 lys hlen
      generalize upd H4 p (.lst []) = H5 at r5 ⊢
      repeat walk_at "td"
      refine ⟨by omega, by omega, ?_⟩
      refine for_range (fun i σ H' => ∃ (x11 : Option V) (pr : Addr) (ys : List V) (ds : List PyData), σ = [some (.ref h.a), some (.int n), some (.int m), some (.ref a), some v4, some v5, some (.ref pr), some (.int (0 + (j : Int))), some (.int kd), some (.int pl), x10, x11, none, none] ∧ RS K h H pr ys ds v4 v5 d4 d5 [] [] H' ∧ ds.length ≤ i * 6 ∧ i ≤ 6)
        ⟨_, p, [], [], rfl, r5, by decide, by decide⟩ ?_ (fun σ H' ⟨x11, pr, ys, ds, e, r, l, _⟩ => ⟨v4, v5, _, _, _, x10, x11, pr, ys, ds, d4, d5, e, r, by omega⟩)
      clear pl1 np r5 H5 p x11 ys ds pr
      rintro i σ H5 hi ⟨x11, pr, ys, ds, rfl, r5, hl5, _⟩
      have hraw5 := r5.raw
      have lys := r5.ds.length
      obtain ⟨oa, hoa⟩ := r5.go.hand.some
      repeat walk_at "td"
      refine ⟨by omega, by omega, fun D nD => ?_⟩
      refine lc_range (fun c H' => ∃ (acc : List V) (es : List PyData), Same H5 H' ∧ H' D = some (.lst acc) ∧ DpAll K (wo [D, h.a] H') acc es ∧ es.length = c)
        ⟨[], [], (Keeps.new (S := []) nD).same, upd_same, .nil, rfl⟩ ?_ ?_
      · rintro c H' hc ⟨acc, es, sm, hD, hA, hle⟩
        refine ⟨rfl, ?_⟩
        repeat walk_at "td"
        refine ⟨two_ok, fun q nq => ?_⟩
        have nqD : D ≠ q := ne_of_none hD nq
        have nqa : q ≠ h.a := fresh_ne nq (sm _ _ hoa)
        have kk : Keeps [D, h.a] H' (upd (upd H' q (.tup [.int (0 + (i : Int)), .int (0 + (c : Int))])) D (.lst (acc ++ [.ref q]))) := (Keeps.new nq).mut' (by simp)
        have hla := hA.length
        refine ⟨acc, by rw [upd_ne nqD]; exact hD, small12 (by omega), acc ++ [.ref q], es ++ [.tuple [.int (0 + (i : Int)), .int (0 + (c : Int))]], ((Keeps.of (S := []) sm).new' nq |>.late nD).same, upd_same, ?_, by rw [List.length_append, hle]; rfl⟩
        refine (hA.sm kk.wo).append (.cons (.tup (SqT.of ?_) (.cons (.int _) (.cons (.int _) .nil))) .nil)
        rw [wo_out (by simp only [List.mem_cons, List.not_mem_nil, or_false, not_or]; exact ⟨nqD.symm, nqa⟩), upd_ne nqD.symm, upd_same]
      · rintro H' ⟨acc, es, sm, hD, hA, hle⟩
        have r6 := r5.kp (Keeps.of sm) (r5.go.trans ⟨Keeps.of sm, r5.go.hand.same sm⟩) (sm _ _ hraw5)
        have hla := hA.length
        refine ⟨pr, D, ys, acc, rfl, rfl, r6.raw, hD, small12' (by omega), fun p np => ?_⟩
        have r7 := r6.change np (ys' := ys ++ acc) (ds' := ds ++ es) ((r6.ds.sm (wo_mono (by simp))).append (hA.sm (wo_mono (by simp))))
        refine ⟨_, p, _, _, rfl, r7, ?_, by omega⟩
        rw [List.length_append, hle]
        omega
    clear rs hlen ys ds pr H2
    rintro σ H2 ⟨v4, v5, x7, x8, x9, x10, x11, pr, ys, ds, d4, d5, rfl, rs, hlen⟩
    have hraw := rs.raw
    repeat walk_at "td"
    refine ⟨h, _, rfl, by decide, by decide, rs.go.hand, fun sh H3 sh0 sh1 go3 => ?_⟩
    have r3 := rs.take go3
    have hraw := r3.raw
    clear rs go3
    repeat walk_at "td"
    refine iteD (fun c => ?_) (fun c => ?_)
    · repeat walk_at "td"
      intro p np
      repeat walk_at "td"
      refine ⟨up_ok (n := 4) (by decide), fun q nq => ?_⟩
      have r4 := r3.new (o := .dK []) np
      have r5 := r4.new (o := .tup [.non, .int 3, .str "00", .ref p]) nq
      have npa := (r3.go.hand.fresh np).1
      have nqa := (r4.go.hand.fresh nq).1
      have hp5 : upd (upd H3 p (.dK [])) q (.tup [.non, .int 3, .str "00", .ref p]) p = some (.dK []) := (Keeps.new (S := []) nq).same _ _ upd_same
      have hq5 : upd (upd H3 p (.dK [])) q (.tup [.non, .int 3, .str "00", .ref p]) q = some (.tup [.non, .int 3, .str "00", .ref p]) := upd_same
      repeat walk_at "td"
      refine ⟨h, _, rfl, by decide, by decide, r5.go.hand, fun r H7 r0 r1 go7 => ?_⟩
      have r7 := r5.take go7
      have hp7 := go7.keep _ _ (by simpa using npa) hp5
      have hq7 := go7.keep _ _ (by simpa using nqa) hq5
      have hall : ∀ (i : Nat) (y : V), [V.non, .int 3, .str "00", .ref p][i]? = some y → TArg K H7 y none := fun i y hy => by
        match i, hy with
        | 0, hy => cases hy; exact .no (dp_ty (d := .none) .non) (kit_lt .none)
        | 1, hy => cases hy; exact .no (dp_ty (.int 3)) (kit_lt (.int 3))
        | 2, hy => cases hy; exact .no (dp_ty (.str "00")) (kit_lt (.str "00"))
        | 3, hy => cases hy; exact .no (.base (.dK hp7)) (kit_lt (.dict []))
      obtain ⟨v, hv⟩ : ∃ v, [V.non, .int 3, .str "00", .ref p][r.toNat]? = some v := ⟨_, List.getElem?_eq_getElem (by show r.toNat < 4; omega)⟩
      refine ⟨q, _, r, v, rfl, rfl, SqT.of hq7, at_of (j := r.toNat) (by omega) hv, ?_⟩
      repeat walk_at "td"
      refine ⟨three_ok, fun t nt => ?_⟩
      have r8 := r7.new (o := .lst [v4, v5, v]) nt
      exact k t v4 v5 v d4 d5 none _ r8.go upd_same (r8.k4.sm wo_same) (r8.k5.sm wo_same) ((hall _ _ hv).same (Keeps.new (S := []) nt).same)
    · repeat walk_at "td"
      refine iteD (fun c2 => ?_) (fun c2 => ?_)
      · repeat walk_at "td"
        refine ⟨three_ok, fun t nt => ?_⟩
        have r8 := r3.new (o := .lst [v4, v5, .ref pr]) nt
        exact k t v4 v5 (.ref pr) d4 d5 (some ds) _ r8.go upd_same (r8.k4.sm wo_same) (r8.k5.sm wo_same) (.seq (.inl (SqL.of r8.raw)) (r8.ds.sm wo_same) (by omega))
      · repeat walk_at "td"
        refine ⟨pr, ys, rfl, .inl ⟨SqL.of hraw, fun q nq => ?_⟩⟩
        have r7 := r3.new (o := .tup ys) nq
        repeat walk_at "td"
        refine ⟨three_ok, fun t nt => ?_⟩
        have r8 := r7.new (o := .lst [v4, v5, .ref q]) nt
        have hq8 : upd (upd H3 q (.tup ys)) t (.lst [v4, v5, .ref q]) q = some (.tup ys) := (Keeps.new (S := []) nt).same _ _ upd_same
        exact k t v4 v5 (.ref q) d4 d5 (some ds) _ r8.go upd_same (r8.k4.sm wo_same) (r8.k5.sm wo_same) (.seq (.inr (SqT.of hq8)) (r8.ds.sm wo_same) (by omega))
end
end L2.TD
namespace L2.TD
open PySem PySem.Spec PyProof.Rows
local macro_rules | `(tactic| walk_at "td_side") => `(tactic| first
  | ((with_reducible show CMul _ _); refine Or.inr ⟨?_, ?_⟩ <;> decide)
  | ((with_reducible show CDiv _ _); refine ⟨?_, ?_⟩ <;> decide)
  | ((with_reducible show CPow _ _); refine ⟨?_, ?_, ?_⟩ <;> decide)
  | (show (0 : Int) < _; first | decide | omega)
  | ((with_reducible show scal _ _ = true); rfl)
  | ((show tyV _ "list" _ _); exact Or.inl ⟨rfl, _, SqL.of (by first | exact upd_same | assumption)⟩))
local macro_rules | `(tactic| walk_at "td") => `(tactic| first
  | (refine ⟨_, _, rfl, rfl, ?_⟩)
  | (refine ⟨_, rfl, ?_⟩)
  | (refine Or.inl ⟨_, rfl, ?_⟩)
  | (refine And.intro ?side ?_; (case side => walk_at "td_side"))
  | (refine ⟨_, _, _, _, rfl, rfl, SqL.of (by first | exact upd_same | assumption), by rfl, ?_⟩)
  | (refine ⟨_, _, _, _, rfl, rfl, (by first | exact upd_same | assumption), by rfl, ?_⟩))
/-! what the law keeps; a web is made -/
section
variable {K : PySem.W.Frag} {C CB : Addr} {h : HandId} {H H' : Hp} {P : List Addr} {l x a : Addr} {n m : Nat} {us us1 : List Tie} {xs : List V} {ds : List PyData}
theorem sqT_L (hP : ∀ p ∈ P, ∃ zs, H p = some (.lst zs)) (k : Keeps P H H') (e : SqT K H a xs) : SqT K H' a xs := by
  have n : ∀ {o : HO}, H a = some o → (∀ zs, o ≠ .lst zs) → a ∉ P := fun {o} ho no hm => by
    obtain ⟨zs, hz⟩ := hP a hm
    rw [ho] at hz
    exact no zs (Option.some.inj hz)
  rcases e with (e | ⟨o, e⟩) | e
  · exact .inl (.inl (k _ _ (n e fun zs z => nomatch z) e))
  · exact .inl (.inr ⟨o, k _ _ (n e fun zs z => nomatch z) e⟩)
  · exact .inr e
theorem sqT_wo (hP : ∀ p ∈ P, ∃ zs, H p = some (.lst zs)) (e : SqT K H a xs) : SqT K (wo P H) a xs := by
  have n : ∀ {o : HO}, H a = some o → (∀ zs, o ≠ .lst zs) → a ∉ P := fun {o} ho no hm => by
    obtain ⟨zs, hz⟩ := hP a hm
    rw [ho] at hz
    exact no zs (Option.some.inj hz)
  rcases e with (e | ⟨o, e⟩) | e
  · exact .inl (.inl ((wo_out (n e fun zs z => nomatch z)).trans e))
  · exact .inl (.inr ⟨o, (wo_out (n e fun zs z => nomatch z)).trans e⟩)
  · exact .inr e
theorem ties_L (hP : ∀ p ∈ P, ∃ zs, H p = some (.lst zs)) (k : Keeps P H H') : ∀ {us : List Tie} {xs : List V}, DpAll K H xs (us.map tieD) → DpAll K H' xs (us.map tieD)
  | [], _, e => by cases e; exact .nil
  | t :: us, _, e => by
    cases e with
    | cons e1 e2 =>
      obtain ⟨p, rfl, hp⟩ := e1.tie
      exact .cons (Dp.mkTie (sqT_L hP k hp)) (ties_L hP k e2)
theorem ties_wo (hP : ∀ p ∈ P, ∃ zs, H p = some (.lst zs)) : ∀ {us : List Tie} {xs : List V}, DpAll K H xs (us.map tieD) → DpAll K (wo P H) xs (us.map tieD)
  | [], _, e => by cases e; exact .nil
  | t :: us, _, e => by
    cases e with
    | cons e1 e2 =>
      obtain ⟨p, rfl, hp⟩ := e1.tie
      exact .cons (Dp.mkTie (sqT_wo hP hp)) (ties_wo hP e2)
theorem WebAt.keepL (w : WebAt K C H x n m us) (hP : ∀ p ∈ P, ∃ zs, H p = some (.lst zs)) (k : Keeps P H H') : WebAt K C H' x n m us := by
  obtain ⟨dx, t, ys, h1, h2, h3⟩ := w.ex
  refine ⟨dx, t, ys, k _ _ (fun hm => ?_) h1, sqT_L hP k h2, ties_L hP k h3⟩
  obtain ⟨zs, hz⟩ := hP x hm
  rw [h1] at hz
  cases hz
theorem handLst (hh : Hand h H) : ∀ p ∈ [h.a], ∃ zs, H p = some (.lst zs) := fun p hp => by
  have e : p = h.a := by simpa using hp
  obtain ⟨i, g, s, e2, _⟩ := hh.at_
  rw [e]
  exact ⟨_, e2⟩
/-- the hand, the ties' list, the web -/
structure LS (K : PySem.W.Frag) (C : Addr) (h : HandId) (l : Addr) (xs : List V) (n m : Nat) (us : List Tie) (H : Hp) : Prop where
  hand : Hand h H
  at_ : H l = some (.lst xs)
  la : l ≠ h.a
  lc : l ≠ h.c
  ties : DpAll K H xs (us.map tieD)
theorem LS.same (s : LS K C h l xs n m us H) (e : Same H H') : LS K C h l xs n m us H' := ⟨s.hand.same e, e _ _ s.at_, s.la, s.lc, s.ties.sm e⟩
theorem LS.go (s : LS K C h l xs n m us H) (g : Go h H H') : LS K C h l xs n m us H' := ⟨g.hand, g.keep _ _ (by simpa using s.la) s.at_, s.la, s.lc, ties_L (handLst s.hand) g.keep s.ties⟩
theorem LS.wo (s : LS K C h l xs n m us H) : DpAll K (TD.wo [h.a] H) xs (us.map tieD) := ties_wo (handLst s.hand) s.ties
theorem LS.keepL (s : LS K C h l xs n m us H) (hP : ∀ p ∈ P, ∃ zs, H p = some (.lst zs)) (k : Keeps P H H') (na : h.a ∉ P) (nc : h.c ∉ P) (nl : l ∉ P) : LS K C h l xs n m us H' :=
  ⟨s.hand.keeps k na nc, k _ _ nl s.at_, s.la, s.lc, ties_L hP k s.ties⟩
theorem good_ne {ts : List Tie} (g : TDm.GoodWeb n m ts) : ts ≠ [] := fun e => by
  have c := g.conn (fun i => i) (fun t ht => by rw [e] at ht; cases ht) 0 1 (by have := g.n1; omega) (by have := g.n1; have := g.m1; omega)
  cases c
theorem tiesOf_ok {ts : List Tie} (g : TDm.GoodWeb n m ts) (ic : IsCouples ds ts) : tiesOf n m ds = some ts := tiesOf_good g.inr ic.1 ic.2
theorem couples_self (us : List Tie) : IsCouples (us.map tieD) us := ⟨List.length_map _, fun i d t hd ht => .inr (by
  rw [List.getElem?_map, ht] at hd
  exact (Option.some.inj hd).symm)⟩
theorem good_word {ts : List Tie} (g : TDm.GoodWeb n m ts) (ht : tiesOf n m ds = some ts) : word (.int n) (.int m) (some ds) = none := by
  have n1 := g.n1
  have n6 := g.n6
  have m1 := g.m1
  have m6 := g.m6
  rw [word_T (in_ok (by omega) (by omega)) (in_ok (by omega) (by omega))]
  show wordT n m (some ds) = none
  rw [wordT_some ht, if_neg (fun z => z g.nd), if_neg (by have := g.len; omega), Int.toNat_natCast, Int.toNat_natCast, if_pos g.joined]
theorem mkWeb {v3 : V} {R : Addr → Hp → Prop} {E : XK} (g : TDm.GoodWeb n m us) (ga : TDm.Asc us) (pm : us1.Perm us) (ic : IsCouples ds us1) (hT : TArg K H v3 (some ds)) (k : ∀ x H', H x = none → Same H H' → WebAt K C H' x n m us → R x H') :
    ∀ x dx, H x = none → H dx = none → dx ≠ x → spInit K C CB [.ref x, .int n, .int m, v3] (upd (upd H dx (.own x)) x (.ins C dx [])) (fun v H2 => v = .non ∧ R x H2) E := by
  intro x dx nx ndx ndxx
  have sm : Same H (upd (upd H dx (.own x)) x (.ins C dx [])) := (((Keeps.new (S := []) ndx)).late nx).same
  have g1 := g.perm pm
  have ht := tiesOf_ok g1 ic
  refine ⟨x, dx, _, _, v3, _, _, _, rfl, upd_same, .int _, .int _, hT.same sm, fun wd hw => ?_, fun n' m' ds' ts us' H9 hw e1 e2 e3 e4 e5 e6 k9 hx9 => ⟨rfl, ?_⟩⟩
  · rw [good_word g1 ht] at hw
    cases hw
  · have en : n = n' := Int.ofNat.inj (PyData.int.inj e1)
    have em : m = m' := Int.ofNat.inj (PyData.int.inj e2)
    subst en
    subst em
    cases e3
    rw [ht] at e4
    cases e4
    have eu : us' = us := TDm.asc_unique e6 ga (e5.trans pm)
    rw [eu] at hx9
    exact k x H9 nx (fun b o e => k9 b o (by simpa using ne_of_none e nx) (sm b o e)) hx9
theorem couples_split {H0 : Hp} {D : Addr} {S : List Addr} : ∀ {ys : List V}, (∀ v ∈ ys, CoupleV K H0 H D S v) → ∃ P : List Addr, (∀ p ∈ P, H0 p = none ∧ p ≠ D ∧ ∃ zs, H p = some (.lst zs) ∧ zs.length = 2) ∧ ∀ v ∈ ys, (∃ p ∈ P, v = .ref p) ∨ ∃ (p : Addr) (t : Tie), v = .ref p ∧ SqT K H p (tieV t)
  | [], _ => ⟨[], fun p hp => by (cases hp), fun v hv => by (cases hv)⟩
  | y :: ys, e => by
    obtain ⟨P, h1, h2⟩ := couples_split (ys := ys) fun v hv => e v (List.mem_cons_of_mem _ hv)
    rcases e y List.mem_cons_self with ⟨p, zs, rfl, np, npD, hp, hz⟩ | ⟨p, t, rfl, hp⟩
    · refine ⟨p :: P, fun q hq => ?_, fun v hv => ?_⟩
      · rcases List.mem_cons.mp hq with e | hq
        · rw [e]
          exact ⟨np, npD, zs, hp, hz⟩
        · exact h1 q hq
      · rcases List.mem_cons.mp hv with e | hv
        · exact .inl ⟨p, List.mem_cons_self, e⟩
        · rcases h2 v hv with ⟨q, hq, e⟩ | r
          · exact .inl ⟨q, List.mem_cons_of_mem _ hq, e⟩
          · exact .inr r
    · refine ⟨P, h1, fun v hv => ?_⟩
      rcases List.mem_cons.mp hv with e | hv
      · exact .inr ⟨p, t, e, hp.sm wo_same⟩
      · exact h2 v hv
end
end L2.TD
namespace L2.TD
open PySem PySem.Spec PyProof.Rows
local macro_rules | `(tactic| walk_at "td_side") => `(tactic| first
  | ((with_reducible show CMul _ _); refine Or.inr ⟨?_, ?_⟩ <;> decide)
  | ((with_reducible show CDiv _ _); refine ⟨?_, ?_⟩ <;> decide)
  | ((with_reducible show CPow _ _); refine ⟨?_, ?_, ?_⟩ <;> decide)
  | (show (0 : Int) < _; first | decide | omega)
  | ((with_reducible show scal _ _ = true); rfl)
  | ((show tyV _ "list" _ _); exact Or.inl ⟨rfl, _, SqL.of (by first | exact upd_same | assumption)⟩))
local macro_rules | `(tactic| walk_at "td") => `(tactic| first
  | (refine ⟨_, _, rfl, rfl, ?_⟩)
  | (refine ⟨_, rfl, ?_⟩)
  | (refine Or.inl ⟨_, rfl, ?_⟩)
  | (refine And.intro ?side ?_; (case side => walk_at "td_side"))
  | (refine ⟨_, _, _, _, rfl, rfl, SqL.of (by first | exact upd_same | assumption), by rfl, ?_⟩)
  | (refine ⟨_, _, _, _, rfl, rfl, (by first | exact upd_same | assumption), by rfl, ?_⟩))
/-! the law itself -/
abbrev sLaw : Stmt := top 33
section
variable {P : Program} {w : World} {K : PySem.W.Frag} {mg : Str → Option Value} {base : Heap} {f : Addr} {fd : FuncData}
def spLaw (K : PySem.W.Frag) : Sp := fun vs H Q _ => ∃ (a : Addr) (ns : List Int), vs = [.ref a] ∧ SqL K H a (ns.map V.int) ∧ ns.length ≤ 63 ∧ ∀ H', Q (.bl true) H'
abbrev nLaw : List Str := ["_law_script", "_law_hand_here", "_law_n", "_law_m", "_law_ties", "_law_raw", "_law_item", "_law_before", "_law_web_here", "_law_twin", "_law_other_n", "_law_other_m", "_law_other_ties", "_law_other", "_law_turn", "_law_things", "_law_clubs", "_law_spoilt_here"]
theorem scLaw : FnScope nLaw ["_law_script"] (C8.fnScope sLaw) := C8.fnScope_by (by decide +kernel)
theorem ok_law {C CB fI : Addr} {fdI : FuncData} (B : Blt mg) (F : C8.Fun K "law" "law" sLaw f fd) (T : WebTxt K mg C) (M : Mk K C fI)
    (FI : FnOk P w K mg base (L2.CX P w) 3 fI fdI ["self", "things", "clubs", "ties"] (spInit K C CB)) (bI : Binds K fdI ["self", "things", "clubs", "ties"] []) (U : WebUse P w K mg base C)
    (cH : C8.Cal P w K mg base 1 "_law_hand" (spHand K) []) (cWb : C8.Cal P w K mg base 4 "_law_web" (spWeb K) []) (cC : C8.Cal P w K mg base 3 "_law_couples" (spCouples K) []) (cM : C8.Cal P w K mg base 3 "_law_mixed_up" (spMixed K) []) (cSh : C8.Cal P w K mg base 3 "_law_shape" (spShape K) [])
    (cK : C8.Cal P w K mg base 3 "_law_kept" (spKept K C) []) (cCh : C8.Cal P w K mg base 5 "_law_checks" (spChecks K C) []) (cO : C8.Cal P w K mg base 5 "_law_odd_refused" (spOdd K C) []) (cSp : C8.Cal P w K mg base 4 "_law_spoilt" (spSpoilt K) [])
    (cT : C8.Cal P w K mg base 5 "_law_word_told" (spTold K) []) (cD : C8.Cal P w K mg base 2 "_law_word_due" (spDue K) []) : FnOk P w K mg base C8.CX0 6 f fd ["_law_script"] (spLaw K) := by
  obtain ⟨ge, fde, fe1, fe2, fe3, fe4⟩ := U.eq
  refine C8.fn0 F scLaw (fun vs H Q E h => ?_) (fun cdv A outer s H vs Q E hr h => ?_)
  · obtain ⟨a, ns, rfl, _⟩ := h
    rfl
  · obtain ⟨a, ns, rfl, hs, hns, k⟩ := h
    have nd := scLaw.nd
    refine ⟨_, pss_cons (ps_set (i := 1) nd rfl (.inl rfl) (C8.pe_c cH hr (by decide) (by rfl) (pa_cons (pv 0) pa_nil)))
      (C8.pss_cut (ps_asg (C8.pe_c cWb hr (by decide) (by rfl) (pa_cons (pv 1) (pa_cons pe_int (pa_cons pe_int (pa_cons pe_int pa_nil))))) (pg_tup (n := 3) rfl (pgs_cons (pg_name (i := 2) nd rfl (.inl rfl)) (pgs_cons (pg_name (i := 3) nd rfl (.inl rfl)) (pgs_cons (pg_name (i := 4) nd rfl (.inl rfl)) pgs_nil)))))
      (pss_cons (ps_set (i := 5) nd rfl (.inl rfl) (C8.pe_c cC hr (by decide) (by rfl) (pa_cons (pv 1) (pa_cons (C8.pe_c cM hr (by decide) (by rfl) (pa_cons (pv 1) (pa_cons (pv 4) pa_nil))) pa_nil))))
      (pss_cons (ps_setLc (i := 7) (own := [("_law_item", 6)]) (g := gName 6) (tt := tYes) (te := tCB (rTof K) (tCons (tVar 6) tNil)) rfl nd rfl rfl (sw_true rfl rfl rfl (by decide +kernel)) (pi_list (pv 5)) (blkOk_by (N := nLaw) (sc := C8.fnScope sLaw) (by decide +kernel))
          (fun _ _ _ _ _ => pg_name (i := 6) nd rfl (.inl rfl)) (fun _ _ _ _ _ => pts_nil) (fun _ _ _ _ _ => pe_callTy call_tuple_of (by rfl) B.tuple (by decide +kernel) (pa_cons (pv 6) pa_nil)))
      (pss_cons (ps_set (i := 8) nd rfl (.inl rfl) (pe_make M FI (hr.mono (by decide)) (by rfl) T.gC bI .nil passL (pa_cons (pv 2) (pa_cons (pv 3) (pa_cons (pv 5) pa_nil)))))
      (pss_cons (ps_if (pt_cmpR (op_neD hr.units) (pe_lc (own := [("_law_item", 6)]) (g := gName 6) (tt := tYes) (te := tCB (rTof K) (tCons (tVar 6) tNil)) rfl nd (pi_list (pv 5)) (blkOk_by (N := nLaw) (sc := C8.fnScope sLaw) (by decide +kernel))
          (fun _ _ _ _ _ => pg_name (i := 6) nd rfl (.inl rfl)) (fun _ _ _ _ _ => pts_nil) (fun _ _ _ _ _ => pe_callTy call_tuple_of (by rfl) B.tuple (by decide +kernel) (pa_cons (pv 6) pa_nil))) (pv 7) (nomark _)) (pss_one (ps_ret pe_bl)) pss_nil)
      (pss_cons (ps_set (i := 9) nd rfl (.inl rfl) (pe_make M FI (hr.mono (by decide)) (by rfl) T.gC bI .nil passL (pa_cons (pv 2) (pa_cons (pv 3) (pa_cons (C8.pe_c cSh hr (by decide) (by rfl) (pa_cons (pv 1) (pa_cons (pv 4) pa_nil))) pa_nil)))))
      (pss_cons (ps_for PassesOwn.never rfl (pi_list (pv 5)) (pg_name (i := 6) nd rfl (.inl rfl))
        (pss_one (ps_if (pt_val (pe_callB call_isi (by rfl) B.isinstance (by decide +kernel) (pa_cons (pv 6) (pa_cons (pe_bltn (v := .ty "list") (by rfl) B.list (by decide +kernel) rfl) pa_nil)))) (pss_one (ps_expr (pe_bm PySem.F.plainAttrs_list PySem.F.slot_list_append PySem.F.type_list_append mt_append (pv 6) (pa_cons pe_int pa_nil)))) pss_nil)))
      (C8.pss_cut (ps_expr (pe_bm0 PySem.F.plainAttrs_list PySem.F.slot_list_pop PySem.F.type_list_pop mt_pop (pv 5)))
      (pss_cons (ps_if (PW.pt (pw_or (pt_not (pt_val (C8.pe_c cK hr (by decide) (by rfl) (pa_cons (pv 8) (pa_cons (pv 2) (pa_cons (pv 3) (pa_cons (pv 4) pa_nil))))))) (pw_or1 (pt_not (pt_val (C8.pe_c cK hr (by decide) (by rfl) (pa_cons (pv 9) (pa_cons (pv 2) (pa_cons (pv 3) (pa_cons (pv 4) pa_nil))))))))))
          (pss_one (ps_ret pe_bl)) pss_nil)
      (pss_cons (ps_if (PW.pt (pw_or (pt_not (pt_val (C8.pe_c cCh hr (by decide) (by rfl) (pa_cons (pv 8) (pa_cons (pv 2) (pa_cons (pv 3) (pa_cons (pv 4) pa_nil))))))) (pw_or (pt_not (pt_val (C8.pe_c cO hr (by decide) (by rfl) (pa_cons (pv 8) (pa_cons (pv 2) (pa_cons (pv 3) pa_nil))))))
            (pw_or1 (pt_not (pt_cmpR (op_eqOwn fe3 fe1 fe2 (hr.mono (by decide)) fe4 (C8.pass0 (E := C8.E0))) (pv 8) (pv 9) (nomark _)))))))
          (pss_one (ps_ret pe_bl)) pss_nil)
      (pss_cons (ps_asg (C8.pe_c cWb hr (by decide) (by rfl) (pa_cons (pv 1) (pa_cons pe_int (pa_cons pe_int (pa_cons pe_int pa_nil))))) (pg_tup (n := 3) rfl (pgs_cons (pg_name (i := 10) nd rfl (.inl rfl)) (pgs_cons (pg_name (i := 11) nd rfl (.inl rfl)) (pgs_cons (pg_name (i := 12) nd rfl (.inl rfl)) pgs_nil)))))
      (pss_cons (ps_set (i := 13) nd rfl (.inl rfl) (pe_make M FI (hr.mono (by decide)) (by rfl) T.gC bI .nil passL (pa_cons (pv 10) (pa_cons (pv 11) (pa_cons (pv 12) pa_nil)))))
      (C8.pss_cut (ps_if (pt_cmpR op_ne (pe_cmpR (op_eqOwn fe3 fe1 fe2 (hr.mono (by decide)) fe4 (C8.pass0 (E := C8.E0))) (pv 8) (pv 13) (nomark _))
            (pe_cmpR (op_eqD hr.units) (pe_tup (pa_cons (pv 2) (pa_cons (pv 3) (pa_cons (pv 4) pa_nil)))) (pe_tup (pa_cons (pv 10) (pa_cons (pv 11) (pa_cons (pv 12) pa_nil)))) (nomark _)) (nomark _)) (pss_one (ps_ret pe_bl)) pss_nil)
      (pss_cons (ps_for PassesOwn.never rfl (pi_range1 (by rfl) B.range (pa_cons pe_int pa_nil)) (pg_name (i := 14) nd rfl (.inl rfl))
        (pss_cons (ps_asg (C8.pe_c cSp hr (by decide) (by rfl) (pa_cons (pv 1) (pa_cons (pv 2) (pa_cons (pv 3) (pa_cons (pv 4) pa_nil))))) (pg_unl (n := 3) rfl (pgs_cons (pg_name (i := 15) nd rfl (.inl rfl)) (pgs_cons (pg_name (i := 16) nd rfl (.inl rfl)) (pgs_cons (pg_name (i := 17) nd rfl (.inl rfl)) pgs_nil)))))
        (pss_one (ps_if (pt_cmpR op_ne (C8.pe_c cT hr (by decide) (by rfl) (pa_cons (pv 15) (pa_cons (pv 16) (pa_cons (pv 17) pa_nil)))) (C8.pe_c cD hr (by decide) (by rfl) (pa_cons (pv 15) (pa_cons (pv 16) (pa_cons (pv 17) pa_nil)))) (nomark _)) (pss_one (ps_ret pe_bl)) pss_nil))))
      (pss_one (ps_ret (C8.pe_c cK hr (by decide) (by rfl) (pa_cons (pv 8) (pa_cons (pv 2) (pa_cons (pv 3) (pa_cons (pv 4) pa_nil))))))))))))))))))))), ?_⟩
    repeat walk_at "td"
    refine ⟨a, ns, rfl, hs, hns, fun h H1 sm1 hh1 na1 nc1 => ?_⟩
    repeat walk_at "td"
    refine ⟨fun σ H2 => ∃ (n m : Nat) (us : List Tie) (l : Addr) (xs : List V), σ = [some (.ref a), some (.ref h.a), some (.int n), some (.int m), some (.ref l), none, none, none, none, none, none, none, none, none, none, none, none, none] ∧ TDm.GoodWeb n m us ∧ TDm.Asc us ∧ LS K C h l xs n m us H2, ?_, ?_⟩
    · repeat walk_at "td"
      refine ⟨hh1, fun n m us t l xs H2 g ga go ht hl nl hd => ?_⟩
      refine ⟨t, _, rfl, SqT.of ht, rfl, _, _, rfl, _, _, rfl, _, _, rfl, rfl, ?_⟩
      exact ⟨n, m, us, l, xs, rfl, g, ga, go.hand, hl, (hh1.fresh nl).1, (hh1.fresh nl).2, hd.sm wo_same⟩
    clear hh1 na1 nc1 sm1 H1 hs hns
    rintro σ H2 ⟨n, m, us, l, xs, rfl, g, ga, ls2⟩
    repeat walk_at "td"
    refine ⟨h, l, xs, us, rfl, ls2.hand, SqL.of ls2.at_, ls2.wo, g.len, fun q1 ys1 us1 H3 go3 nq1 hq1 hd1 pm1 => ?_⟩
    have ls3 := ls2.go go3
    have l1 : us1.length ≤ 12 := by rw [pm1.length_eq]; exact g.len
    repeat walk_at "td"
    refine ⟨h, q1, ys1, us1, rfl, ls3.hand, (ls2.hand.fresh nq1).1, SqL.of hq1, hd1, l1, fun D ys ds H4 go4 nD hD hdsw hcp hcv => ?_⟩
    have ls4 := ls3.go go4
    have hds := hdsw.sm wo_same
    have nDl : D ≠ l := fresh_ne nD ls3.at_
    have nDa := ls3.hand.fresh nD
    have lys : ys.length = ds.length := hds.length
    have lds := hcp.1
    obtain ⟨Pl, hP1, hP2⟩ := couples_split hcv
    clear hcv hdsw go3 nq1 hq1 hd1 q1 ys1
    repeat walk_at "td"
    refine ⟨⟨_, SqL.of hD⟩, fun D2 nD2 => ?_⟩
    refine lc_list (K := K) (a := D) (xs := ys) (fun j H' => ∃ acc, Same H4 H' ∧ H' D2 = some (.lst acc) ∧ DpAll K (wo [D2] H') acc ((us1.take j).map tieD))
      ⟨[], (Keeps.new (S := []) nD2).same, upd_same, .nil⟩ (fun j H' _ ⟨_, sm, _⟩ => SqL.of (sm _ _ hD)) ?_ ?_
    · rintro j y H' hy ⟨acc, sm, hDa, hA⟩
      obtain ⟨d, hd', hdp⟩ := hds.get hy
      have hj : j < ds.length := (List.getElem?_eq_some_iff.mp hd').1
      obtain ⟨t, ht⟩ : ∃ t, us1[j]? = some t := ⟨_, List.getElem?_eq_getElem (by have := hcp.1; omega)⟩
      have hla : acc.length < sizeLine := by
        rw [hA.length, List.length_map, List.length_take]
        exact small12 (by omega)
      have hdp' := hdp.sm sm
      have hy' : (∃ p, y = .ref p ∧ SqL K H' p (tieV t)) ∨ ∃ p, y = .ref p ∧ SqT K H' p (tieV t) := by
        rcases hcp.2 j d t hd' ht with e | e
        · rw [e] at hdp'
          cases hdp' with
          | lst h1 h2 =>
            cases h2 with
            | cons h3 h4 =>
              cases h4 with
              | cons h5 h6 =>
                cases h6
                cases h3
                cases h5
                exact .inl ⟨_, rfl, h1⟩
        · rw [e] at hdp'
          exact .inr (Dp.tie hdp')
      refine ⟨rfl, ?_⟩
      repeat walk_at "td"
      rcases hy' with ⟨p, rfl, hp⟩ | ⟨p, rfl, hp⟩
      · refine ⟨p, _, rfl, .inl ⟨hp, fun q nq => ?_⟩⟩
        have nqD := fresh_ne nq hDa
        refine ⟨acc, by rw [upd_ne nqD.symm]; exact hDa, hla, acc ++ [.ref q], ((Keeps.of (S := []) sm).new' nq |>.late nD2).same, upd_same, ?_⟩
        rw [take_more ht]
        exact fresh_tie (x := t.1) (y := t.2) nq (fun b hb z => by
          have e : b = D2 := by simpa using hb
          rw [e, hDa] at z
          cases z) (by simp) hA
      · refine ⟨p, _, rfl, .inr ⟨hp, ?_⟩⟩
        have kk : Keeps [D2] H' (upd H' D2 (.lst (acc ++ [.ref p]))) := Keeps.mut (by simp)
        refine ⟨acc, hDa, hla, acc ++ [.ref p], ((Keeps.of (S := []) sm).late nD2).same, upd_same, ?_⟩
        rw [take_more ht, List.map_append]
        refine (hA.sm kk.wo).append (.cons (Dp.mkTie ((sqT_wo (P := [D2]) (fun b hb => ?_) hp).sm kk.wo)) .nil)
        have e : b = D2 := by simpa using hb
        rw [e]
        exact ⟨_, hDa⟩
    rintro H5 ⟨bf, sm5, hD2, hA5⟩
    rw [lys, lds, List.take_length] at hA5
    have hbf := hA5.sm wo_same
    clear hA5
    have ls5 := ls4.same sm5
    have hD5 := sm5 _ _ hD
    have hds5 := hds.sm sm5
    repeat walk_at "td"
    refine mkWeb (C := C) (CB := CB) g ga pm1 hcp (.seq (.inl (SqL.of hD5)) hds5 (by omega)) (fun x H6 nx sm6 wx => ?_)
    have ls6 := ls5.same sm6
    have hD6 := sm6 _ _ hD5
    have hds6 := hds5.sm sm6
    have hD26 := sm6 _ _ hD2
    have hbf6 := hbf.sm sm6
    repeat walk_at "td"
    refine ⟨⟨_, SqL.of hD6⟩, fun D3 nD3 => ?_⟩
    refine lc_list (K := K) (a := D) (xs := ys) (fun j H' => ∃ acc, Same H6 H' ∧ H' D3 = some (.lst acc) ∧ DpAll K (wo [D3] H') acc ((us1.take j).map tieD))
      ⟨[], (Keeps.new (S := []) nD3).same, upd_same, .nil⟩ (fun j H' _ ⟨_, sm, _⟩ => SqL.of (sm _ _ hD6)) ?_ ?_
    · rintro j y H' hy ⟨acc, sm, hDa, hA⟩
      obtain ⟨d, hd', hdp⟩ := hds6.get hy
      have hj : j < ds.length := (List.getElem?_eq_some_iff.mp hd').1
      obtain ⟨t, ht⟩ : ∃ t, us1[j]? = some t := ⟨_, List.getElem?_eq_getElem (by have := hcp.1; omega)⟩
      have hla : acc.length < sizeLine := by
        rw [hA.length, List.length_map, List.length_take]
        exact small12 (by omega)
      have hdp' := hdp.sm sm
      have hy' : (∃ p, y = .ref p ∧ SqL K H' p (tieV t)) ∨ ∃ p, y = .ref p ∧ SqT K H' p (tieV t) := by
        rcases hcp.2 j d t hd' ht with e | e
        · rw [e] at hdp'
          cases hdp' with
          | lst h1 h2 =>
            cases h2 with
            | cons h3 h4 =>
              cases h4 with
              | cons h5 h6 =>
                cases h6
                cases h3
                cases h5
                exact .inl ⟨_, rfl, h1⟩
        · rw [e] at hdp'
          exact .inr (Dp.tie hdp')
      refine ⟨rfl, ?_⟩
      repeat walk_at "td"
      rcases hy' with ⟨p, rfl, hp⟩ | ⟨p, rfl, hp⟩
      · refine ⟨p, _, rfl, .inl ⟨hp, fun q nq => ?_⟩⟩
        have nqD := fresh_ne nq hDa
        refine ⟨acc, by rw [upd_ne nqD.symm]; exact hDa, hla, acc ++ [.ref q], ((Keeps.of (S := []) sm).new' nq |>.late nD3).same, upd_same, ?_⟩
        rw [take_more ht]
        exact fresh_tie (x := t.1) (y := t.2) nq (fun b hb z => by
          have e : b = D3 := by simpa using hb
          rw [e, hDa] at z
          cases z) (by simp) hA
      · refine ⟨p, _, rfl, .inr ⟨hp, ?_⟩⟩
        have kk : Keeps [D3] H' (upd H' D3 (.lst (acc ++ [.ref p]))) := Keeps.mut (by simp)
        refine ⟨acc, hDa, hla, acc ++ [.ref p], ((Keeps.of (S := []) sm).late nD3).same, upd_same, ?_⟩
        rw [take_more ht, List.map_append]
        refine (hA.sm kk.wo).append (.cons (Dp.mkTie ((sqT_wo (P := [D3]) (fun b hb => ?_) hp).sm kk.wo)) .nil)
        have e : b = D3 := by simpa using hb
        rw [e]
        exact ⟨_, hDa⟩
    rintro H7 ⟨bg, sm7, hD3, hA7⟩
    rw [lys, lds, List.take_length] at hA7
    repeat walk_at "td"
    refine ⟨.list (us1.map tieD), .list (us1.map tieD), .lst (SqL.of hD3) (hA7.sm wo_same), .lst (SqL.of (sm7 _ _ hD26)) (hbf6.sm sm7), shaped_lst _, shaped_lst _, ?_⟩
    rw [eqv_tiesL]
    have ls7 := ls6.same sm7
    have wx7 := wx.same sm7
    have sm47 : Same H4 H7 := fun b o e => sm7 b o (sm6 b o (sm5 b o e))
    clear hA7 hD3 nD3 bg hbf6 hD26 hds6 hD6 ls6 sm7 sm6 wx nx hds5 hD5 ls5 hbf hD2 bf sm5 H5 nD2 D3
    repeat walk_at "td"
    refine ⟨h, l, xs, rfl, ls7.hand, ls7.la, SqL.of ls7.at_, fun q H8 go8 nq hq => ?_⟩
    have ls8 := ls7.go go8
    have wx8 := wx7.keepL (handLst ls7.hand) go8.keep
    repeat walk_at "td"
    refine mkWeb (C := C) (CB := CB) g ga (.refl us) (couples_self us) (.seq (hq.elim (fun z => .inl (SqL.of z)) fun z => .inr (SqT.of z)) ls8.ties (by rw [List.length_map]; have := g.len; omega)) (fun y H9 ny sm9 wy => ?_)
    have ls9 := ls8.same sm9
    have wx9 := wx8.same sm9
    have k49 : Keeps [h.a] H4 H9 := (Keeps.of sm47).trans (go8.keep.trans (Keeps.of sm9))
    have hD9 : H9 D = some (.lst ys) := k49 _ _ (by simpa using nDa.1) hD
    have hP9 : ∀ p ∈ Pl, ∃ zs, H9 p = some (.lst zs) ∧ zs.length = 2 := fun p hp => by
      obtain ⟨np, _, zs, hz, hl2⟩ := hP1 p hp
      exact ⟨zs, k49 _ _ (by simpa using (ls3.hand.fresh np).1) hz, hl2⟩
    have hP9' : ∀ p ∈ Pl, ∃ zs, H9 p = some (.lst zs) := fun p hp => by
      obtain ⟨zs, hz, _⟩ := hP9 p hp
      exact ⟨zs, hz⟩
    have hV9 : ∀ v ∈ ys, (∃ p ∈ Pl, v = .ref p) ∨ ∃ (p : Addr) (t : Tie), v = .ref p ∧ SqT K H9 p (tieV t) := fun v hv => by
      rcases hP2 v hv with e | ⟨p, t, e, hp⟩
      · exact .inl e
      · exact .inr ⟨p, t, e, sqT_L (P := [h.a]) (handLst ls4.hand) k49 hp⟩
    have nDP : D ∉ Pl := fun hm => (hP1 D hm).2.1 rfl
    have naP : h.a ∉ D :: Pl := fun hm => by
      rcases List.mem_cons.mp hm with e | hm
      · exact nDa.1 e.symm
      · exact (ls3.hand.fresh (hP1 _ hm).1).1 rfl
    have ncP : h.c ∉ D :: Pl := fun hm => by
      rcases List.mem_cons.mp hm with e | hm
      · exact nDa.2 e.symm
      · exact (ls3.hand.fresh (hP1 _ hm).1).2 rfl
    have nlP : l ∉ D :: Pl := fun hm => by
      rcases List.mem_cons.mp hm with e | hm
      · exact nDl e.symm
      · have z := (hP1 _ hm).1
        rw [ls3.at_] at z
        cases z
    repeat walk_at "td"
    refine ⟨⟨_, SqL.of hD9⟩, ?_⟩
    refine for_list (K := K) (a := D) (xs := ys) (fun j σ H' => ∃ (v6 : Option V), σ = [some (.ref a), some (.ref h.a), some (.int n), some (.int m), some (.ref l), some (.ref D), v6, some (.ref D2), some (.ref x), some (.ref y), none, none, none, none, none, none, none, none] ∧ Keeps Pl H9 H' ∧ ∀ p ∈ Pl, ∃ zs, H' p = some (.lst zs) ∧ zs.length ≤ 2 + j)
      ⟨_, rfl, Keeps.refl, fun p hp => by
        obtain ⟨zs, h1, h2⟩ := hP9 p hp
        exact ⟨zs, h1, by omega⟩⟩ (fun j σ H' _ ⟨_, _, k9, _⟩ => SqL.of (k9 _ _ nDP hD9)) ?_ ?_
    · rintro j v σ H' hv ⟨v6, rfl, k9, hPj⟩
      have hj : j < ys.length := (List.getElem?_eq_some_iff.mp hv).1
      repeat walk_at "td"
      rcases hV9 v (List.mem_of_getElem? hv) with ⟨p, hpP, rfl⟩ | ⟨p, t, rfl, hp⟩
      · obtain ⟨zs, hz, hl2⟩ := hPj p hpP
        refine ⟨_, _, _, _, _, rfl, .ty _, .base (.lst hz), kit_list (.list []), ?_⟩
        repeat walk_at "td"
        refine ⟨p, zs, _, rfl, rfl, hz, small12 (by omega), ?_⟩
        refine ⟨_, rfl, k9.mut' hpP, fun p' hp' => ?_⟩
        by_cases e : p' = p
        · rw [e]
          exact ⟨_, upd_same, by rw [List.length_append]; show zs.length + 1 ≤ _; omega⟩
        · obtain ⟨zs', h1, h2⟩ := hPj p' hp'
          exact ⟨zs', (upd_ne e).trans h1, by omega⟩
      · refine ⟨_, _, _, _, _, rfl, .ty _, dp_ty (Dp.mkTie (sqT_L hP9' k9 hp)), kit_list (tieD t), ?_⟩
        repeat walk_at "td"
        have hn : ∀ p' ∈ Pl, ∃ zs, H' p' = some (.lst zs) ∧ zs.length ≤ 2 + (j + 1) := fun p' hp' => by
          obtain ⟨zs', h1, h2⟩ := hPj p' hp'
          exact ⟨zs', h1, by omega⟩
        first
        | exact ⟨_, rfl, k9, hn⟩
        | exact ⟨k9, hn⟩
        | exact hn
    rintro σ H10 ⟨v6, rfl, k9, hPz⟩
    have hD10 := k9 _ _ nDP hD9
    refine ⟨fun σ H' => ∃ (v5 v6 v7 : Option V), σ = [some (.ref a), some (.ref h.a), some (.int n), some (.int m), some (.ref l), v5, v6, v7, some (.ref x), some (.ref y), none, none, none, none, none, none, none, none] ∧ LS K C h l xs n m us H' ∧ WebAt K C H' x n m us ∧ WebAt K C H' y n m us, ?_, ?_⟩
    · repeat walk_at "td"
      have hne : 0 < ys.length := by
        rw [lys, lds, pm1.length_eq]
        exact List.length_pos_iff.mpr (good_ne g)
      refine ⟨D, ys, _, rfl, rfl, hD10, List.getElem?_eq_getElem (by omega : ys.length - 1 < ys.length), ?_⟩
      have kk : Keeps (D :: Pl) H9 (upd H10 D (.lst ys.dropLast)) := (k9.mono fun z hz => List.mem_cons_of_mem _ hz).mut' List.mem_cons_self
      have hPD : ∀ p ∈ D :: Pl, ∃ zs, H9 p = some (.lst zs) := fun p hp => by
        rcases List.mem_cons.mp hp with e | hp
        · rw [e]
          exact ⟨_, hD9⟩
        · exact hP9' p hp
      exact ⟨_, _, _, rfl, ls9.keepL hPD kk naP ncP nlP, wx9.keepL hPD kk, wy.keepL hPD kk⟩
    clear hPz hD10 k9 naP ncP nlP nDP hV9 hP9' hP9 hD9 k49 wx9 ls9 wy sm9 ny H9 H10 v6 ls8 wx8 hq nq go8 H8 q sm47 wx7 ls7 H7 hP1 hP2 hcp lds lys nDa nDl ls4 hds
    rintro σ H2 ⟨v5, v6, v7, rfl, ls, wx, wy⟩
    repeat walk_at "td"
    refine ⟨x, l, n, m, us, xs, rfl, wx, g.len, SqL.of ls.at_, ls.ties, fun H3 s3 => ?_⟩
    have ls3 := ls.same s3
    have wx3 := wx.same s3
    have wy3 := wy.same s3
    repeat walk_at "td"
    refine ⟨y, l, n, m, us, xs, rfl, wy3, g.len, SqL.of ls3.at_, ls3.ties, fun H4 s4 => ?_⟩
    have ls4 := ls3.same s4
    have wx4 := wx3.same s4
    have wy4 := wy3.same s4
    clear ls3 wx3 wy3 ls wx wy s3 s4 H3 H2
    repeat walk_at "td"
    refine ⟨x, l, n, m, us, xs, rfl, g.n6, g.m6, wx4, g.len, SqL.of ls4.at_, ls4.ties, fun H5 s5 => ?_⟩
    have ls5 := ls4.same s5
    have wx5 := wx4.same s5
    have wy5 := wy4.same s5
    repeat walk_at "td"
    refine ⟨x, n, m, us, rfl, g.n6, g.m6, wx5, g.len, fun H6 s6 => ?_⟩
    have ls6 := ls5.same s6
    have wx6 := wx5.same s6
    have wy6 := wy5.same s6
    clear ls4 ls5 wx4 wy4 wx5 wy5 s5 s6 H4 H5
    obtain ⟨dx, tx, ex, hx, hx1, hx2⟩ := wx6.ex
    obtain ⟨dy, ty, ey, hy, hy1, hy2⟩ := wy6.ex
    repeat walk_at "td"
    refine ⟨x, y, dx, dy, _, _, rfl, rfl, hx, hy, x, y, n, m, n, m, us, us, rfl, wx6, wy6, ⟨_, rfl⟩, ?_⟩
    rw [decide_eq_true rfl, decide_eq_true rfl, decide_eq_true rfl]
    clear wy6 hx hy hx1 hx2 hy1 hy2
    repeat walk_at "td"
    refine ⟨ls6.hand, fun n' m' us' t l' xs' H7 g' ga' go7 ht hl' nl' hd' => ?_⟩
    have ls7 := ls6.go go7
    have wx7 := wx6.keepL (handLst ls6.hand) go7.keep
    have ls7' : LS K C h l' xs' n' m' us' H7 := ⟨go7.hand, hl', (ls6.hand.fresh nl').1, (ls6.hand.fresh nl').2, hd'.sm wo_same⟩
    repeat walk_at "td"
    refine ⟨t, _, rfl, SqT.of ht, rfl, _, _, rfl, _, _, rfl, _, _, rfl, rfl, ?_⟩
    repeat walk_at "td"
    refine mkWeb (C := C) (CB := CB) g' ga' (.refl us') (couples_self us') (.seq (.inl (SqL.of ls7'.at_)) ls7'.ties (by rw [List.length_map]; have := g'.len; omega)) (fun z H8 nz sm8 wz => ?_)
    have ls8 := ls7.same sm8
    have wx8 := wx7.same sm8
    have ls8' := ls7'.same sm8
    clear ls7 wx7 ls7' ls6 wx6 go7 ht hl' nl' hd' nz sm8 H7 H6
    refine ⟨fun σ H' => ∃ (v5 v6 v7 v9 v10 v11 v12 v13 : Option V), σ = [some (.ref a), some (.ref h.a), some (.int n), some (.int m), some (.ref l), v5, v6, v7, some (.ref x), v9, v10, v11, v12, v13, none, none, none, none] ∧ LS K C h l xs n m us H' ∧ WebAt K C H' x n m us, ?_, ?_⟩
    · obtain ⟨dx, tx, ex, hx, _, _⟩ := wx8.ex
      obtain ⟨dz, tz, ez, hz, _, _⟩ := wz.ex
      repeat walk_at "td"
      refine ⟨x, z, dx, dz, _, _, rfl, rfl, hx, hz, x, z, n, m, n', m', us, us', rfl, wx8, wz, ⟨_, rfl⟩, ?_⟩
      repeat walk_at "td"
      refine ⟨three_ok, fun t1 nt1 => ?_⟩
      have s9 : Same H8 (upd H8 t1 (.tup [.int n, .int m, .ref l])) := (Keeps.new (S := []) nt1).same
      have ht1 : upd H8 t1 (.tup [.int n, .int m, .ref l]) t1 = some (.tup [.int n, .int m, .ref l]) := upd_same
      generalize upd H8 t1 (.tup [.int n, .int m, .ref l]) = H9 at s9 ht1 ⊢
      repeat walk_at "td"
      refine ⟨three_ok, fun t2 nt2 => ?_⟩
      have s10 : Same H9 (upd H9 t2 (.tup [.int n', .int m', .ref l'])) := (Keeps.new (S := []) nt2).same
      have ht2 : upd H9 t2 (.tup [.int n', .int m', .ref l']) t2 = some (.tup [.int n', .int m', .ref l']) := upd_same
      generalize upd H9 t2 (.tup [.int n', .int m', .ref l']) = H10 at s10 ht2 ⊢
      have s810 : Same H8 H10 := fun b o e => s10 b o (s9 b o e)
      have ls10 := ls8.same s810
      have ls10' := ls8'.same s810
      refine ⟨trioD n m us, trioD n' m' us', .tup (SqT.of (s10 _ _ ht1)) (.cons (.int _) (.cons (.int _) (.cons (.lst (SqL.of ls10.at_) ls10.ties) .nil))), .tup (SqT.of ht2) (.cons (.int _) (.cons (.int _) (.cons (.lst (SqL.of ls10'.at_) ls10'.ties) .nil))), shaped_trio _ _ _, shaped_trio _ _ _, ?_⟩
      rw [eqv_trio]
      repeat walk_at "td"
      refine iteDN (fun c => absurd rfl c) (fun _ => ?_)
      exact ⟨_, _, _, _, _, _, _, _, rfl, ls10, wx8.same s810⟩
    clear ls8 wx8 ls8' wz H8 g' ga'
    rintro σ H2 ⟨v5, v6, v7, v9, v10, v11, v12, v13, rfl, ls, wx⟩
    repeat walk_at "td"
    refine ⟨by decide, by decide, ?_⟩
    refine for_range (fun j σ H' => ∃ (v14 v15 v16 v17 : Option V), σ = [some (.ref a), some (.ref h.a), some (.int n), some (.int m), some (.ref l), v5, v6, v7, some (.ref x), v9, v10, v11, v12, v13, v14, v15, v16, v17] ∧ LS K C h l xs n m us H' ∧ WebAt K C H' x n m us)
      ⟨_, _, _, _, rfl, ls, wx⟩ ?_ ?_
    · clear ls wx H2
      rintro j σ H2 hj ⟨v14, v15, v16, v17, rfl, ls, wx⟩
      repeat walk_at "td"
      refine ⟨h, l, n, m, xs, us, rfl, ls.hand, ls.la, g.n1, g.n6, g.m1, g.m6, SqL.of ls.at_, ls.wo, g.len, fun t w1 w2 w3 d1 d2 T3 H3 go ht hd1 hd2 hT => ?_⟩
      have ls3 := ls.go go
      have wx3 := wx.keepL (handLst ls.hand) go.keep
      repeat walk_at "td"
      refine ⟨t, _, rfl, SqL.of ht, rfl, _, _, rfl, _, _, rfl, _, _, rfl, rfl, ?_⟩
      repeat walk_at "td"
      refine ⟨w1, w2, w3, d1, d2, T3, rfl, hd1, hd2, hT, fun H4 s4 => ?_⟩
      repeat walk_at "td"
      refine ⟨w1, w2, w3, d1, d2, T3, rfl, hd1.sm s4, hd2.sm s4, hT.same s4, fun H5 s5 => ?_⟩
      have hsc : scal (wordV (word d1 d2 T3)) (wordV (word d1 d2 T3)) = true := by
        cases word d1 d2 T3 <;> rfl
      refine ⟨hsc, ?_⟩
      repeat walk_at "td"
      refine iteDN (fun c => absurd rfl c) (fun _ => ?_)
      exact ⟨_, _, _, _, rfl, (ls3.same s4).same s5, (wx3.same s4).same s5⟩
    · rintro σ H3 ⟨v14, v15, v16, v17, rfl, ls3, wx3⟩
      repeat walk_at "td"
      refine ⟨x, l, n, m, us, xs, rfl, wx3, g.len, SqL.of ls3.at_, ls3.ties, fun H4 s4 => ?_⟩
      exact k H4
end
end L2.TD
namespace L2.TD
open PySem PySem.Spec PyProof.Rows
local macro_rules | `(tactic| walk_at "td_side") => `(tactic| first
  | ((with_reducible show CMul _ _); refine Or.inr ⟨?_, ?_⟩ <;> decide)
  | ((with_reducible show CDiv _ _); refine ⟨?_, ?_⟩ <;> decide)
  | ((with_reducible show CPow _ _); refine ⟨?_, ?_, ?_⟩ <;> decide)
  | (show (0 : Int) < _; first | decide | omega)
  | ((with_reducible show scal _ _ = true); rfl)
  | ((show tyV _ "list" _ _); exact Or.inl ⟨rfl, _, SqL.of (by first | exact upd_same | assumption)⟩))
local macro_rules | `(tactic| walk_at "td") => `(tactic| first
  | (refine ⟨_, _, rfl, rfl, ?_⟩)
  | (refine ⟨_, rfl, ?_⟩)
  | (refine Or.inl ⟨_, rfl, ?_⟩)
  | (refine And.intro ?side ?_; (case side => walk_at "td_side"))
  | (refine ⟨_, _, _, _, rfl, rfl, SqL.of (by first | exact upd_same | assumption), by rfl, ?_⟩)
  | (refine ⟨_, _, _, _, rfl, rfl, (by first | exact upd_same | assumption), by rfl, ?_⟩))
/-! the end: what the top has written -/
theorem kit_self {K : PySem.W.Frag} {C : Addr} : PySem.W.kitOne K (.ref C) (.ref C) = some true := if_pos (beq_self_eq_true _)
theorem kit_up {K : PySem.W.Frag} {D C : Addr} (i : PySem.W.isClsIn K C = true) (t : PySem.W.typeIn K (.ref C) = some (.type "type")) (s : PySem.W.subIn K (.ref D) (.ref C) = some true) : PySem.W.kitOne K (.ref D) (.ref C) = some true := by
  have hi : (PySem.W.clsIn K C).isSome = true := i
  unfold PySem.W.kitOne
  split
  · rfl
  · show (if ((PySem.W.clsIn K C).isSome && PySem.W.typeIn K (.ref C) == some (.type "type")) = true then PySem.W.subIn K (.ref D) (.ref C) else none) = _
    rw [if_pos (by rw [hi, t]; rfl)]
    exact s
theorem exm_mk {K : PySem.W.Frag} {D C : Addr} (b : PySem.W.subIn K (.ref C) (.type "BaseException") = some true) (i : PySem.W.isClsIn K C = true) (t : PySem.W.typeIn K (.ref C) = some (.type "type")) (s : PySem.W.subIn K (.ref D) (.ref C) = some true) : PySem.W.exmOne K (.ref D) (.ref C) = some true := by
  have hi : (PySem.W.clsIn K C).isSome = true := i
  unfold PySem.W.exmOne
  rw [if_pos (by rw [b]; rfl)]
  show (if ((PySem.W.clsIn K C).isSome && PySem.W.typeIn K (.ref C) == some (.type "type")) = true then PySem.W.subIn K (.ref D) (.ref C) else none) = _
  rw [if_pos (by rw [hi, t]; rfl)]
  exact s
theorem kit_base {K : PySem.W.Frag} {D : Addr} {T : String} (k : PySem.W.kitMeta T = true) (s : PySem.W.subIn K (.ref D) (.type T) = some true) : PySem.W.kitOne K (.ref D) (.type T) = some true := by
  unfold PySem.W.kitOne
  split
  · rfl
  · show (if PySem.W.kitMeta T = true then PySem.W.subIn K (.ref D) (.type T) else none) = _
    rw [if_pos k]
    exact s
theorem all_mk {l : PySem.W.OpenLaw} {w : World} {K : PySem.W.Frag} {h : Heap} {mg : Str → Option Value} {fa : Addr} (X : K.In h) (G : h.Ns mainGlobals mg) (hfa : mg "law" = some (.ref fa))
    {CD : Addr} {CB : Addr} {CT : Addr} {CC : Addr} {C : Addr} {f_whole1 : Addr} {TW : Addr} {oW : Value} {dW : Option Addr} {nW : Nat} {sW : Array (Option Value)} {od_whole1 : Option Addr} {an_whole1 : Option Addr} {sl_whole1 : Array (Option Value)} {oc_whole1 : Value} {kV_whole1 : Value} {dc_whole1 : Value} {pm_whole1 : Value} {cd_whole1 : Value} {ct_whole1 : Value} {f_seq : Addr} {od_seq : Option Addr} {an_seq : Option Addr} {sl_seq : Array (Option Value)} {oc_seq : Value} {kV_seq : Value} {dc_seq : Value} {pm_seq : Value} {cd_seq : Value} {ct_seq : Value} {f_couple : Addr} {od_couple : Option Addr} {an_couple : Option Addr} {sl_couple : Array (Option Value)} {oc_couple : Value} {kV_couple : Value} {dc_couple : Value} {pm_couple : Value} {cd_couple : Value} {ct_couple : Value} {f_count : Addr} {od_count : Option Addr} {an_count : Option Addr} {sl_count : Array (Option Value)} {oc_count : Value} {kV_count : Value} {dc_count : Value} {pm_count : Value} {cd_count : Value} {ct_count : Value} {f_ckT : Addr} {od_ckT : Option Addr} {an_ckT : Option Addr} {sl_ckT : Array (Option Value)} {oc_ckT : Value} {kV_ckT : Value} {dc_ckT : Value} {pm_ckT : Value} {cd_ckT : Value} {ct_ckT : Value} {f_ckC : Addr} {od_ckC : Option Addr} {an_ckC : Option Addr} {sl_ckC : Array (Option Value)} {oc_ckC : Value} {kV_ckC : Value} {dc_ckC : Value} {pm_ckC : Value} {cd_ckC : Value} {ct_ckC : Value} {f_clOf : Addr} {od_clOf : Option Addr} {an_clOf : Option Addr} {sl_clOf : Array (Option Value)} {oc_clOf : Value} {kV_clOf : Value} {dc_clOf : Value} {pm_clOf : Value} {cd_clOf : Value} {ct_clOf : Value} {f_thOf : Addr} {od_thOf : Option Addr} {an_thOf : Option Addr} {sl_thOf : Array (Option Value)} {oc_thOf : Value} {kV_thOf : Value} {dc_thOf : Value} {pm_thOf : Value} {cd_thOf : Value} {ct_thOf : Value} {f_hand : Addr} {od_hand : Option Addr} {an_hand : Option Addr} {sl_hand : Array (Option Value)} {oc_hand : Value} {kV_hand : Value} {dc_hand : Value} {pm_hand : Value} {cd_hand : Value} {ct_hand : Value} {f_stir : Addr} {od_stir : Option Addr} {an_stir : Option Addr} {sl_stir : Array (Option Value)} {oc_stir : Value} {kV_stir : Value} {dc_stir : Value} {pm_stir : Value} {cd_stir : Value} {ct_stir : Value} {f_take : Addr} {od_take : Option Addr} {an_take : Option Addr} {sl_take : Array (Option Value)} {oc_take : Value} {kV_take : Value} {dc_take : Value} {pm_take : Value} {cd_take : Value} {ct_take : Value} {f_whole : Addr} {od_whole : Option Addr} {an_whole : Option Addr} {sl_whole : Array (Option Value)} {oc_whole : Value} {kV_whole : Value} {dc_whole : Value} {pm_whole : Value} {cd_whole : Value} {ct_whole : Value} {f_size : Addr} {od_size : Option Addr} {an_size : Option Addr} {sl_size : Array (Option Value)} {oc_size : Value} {kV_size : Value} {dc_size : Value} {pm_size : Value} {cd_size : Value} {ct_size : Value} {f_web : Addr} {od_web : Option Addr} {an_web : Option Addr} {sl_web : Array (Option Value)} {oc_web : Value} {kV_web : Value} {dc_web : Value} {pm_web : Value} {cd_web : Value} {ct_web : Value} {f_marks : Addr} {od_marks : Option Addr} {an_marks : Option Addr} {sl_marks : Array (Option Value)} {oc_marks : Value} {kV_marks : Value} {dc_marks : Value} {pm_marks : Value} {cd_marks : Value} {ct_marks : Value} {f_mixed : Addr} {od_mixed : Option Addr} {an_mixed : Option Addr} {sl_mixed : Array (Option Value)} {oc_mixed : Value} {kV_mixed : Value} {dc_mixed : Value} {pm_mixed : Value} {cd_mixed : Value} {ct_mixed : Value} {f_couples : Addr} {od_couples : Option Addr} {an_couples : Option Addr} {sl_couples : Array (Option Value)} {oc_couples : Value} {kV_couples : Value} {dc_couples : Value} {pm_couples : Value} {cd_couples : Value} {ct_couples : Value} {f_shape : Addr} {od_shape : Option Addr} {an_shape : Option Addr} {sl_shape : Array (Option Value)} {oc_shape : Value} {kV_shape : Value} {dc_shape : Value} {pm_shape : Value} {cd_shape : Value} {ct_shape : Value} {f_due : Addr} {od_due : Option Addr} {an_due : Option Addr} {sl_due : Array (Option Value)} {oc_due : Value} {kV_due : Value} {dc_due : Value} {pm_due : Value} {cd_due : Value} {ct_due : Value} {f_told : Addr} {od_told : Option Addr} {an_told : Option Addr} {sl_told : Array (Option Value)} {oc_told : Value} {kV_told : Value} {dc_told : Value} {pm_told : Value} {cd_told : Value} {ct_told : Value} {f_spoilt : Addr} {od_spoilt : Option Addr} {an_spoilt : Option Addr} {sl_spoilt : Array (Option Value)} {oc_spoilt : Value} {kV_spoilt : Value} {dc_spoilt : Value} {pm_spoilt : Value} {cd_spoilt : Value} {ct_spoilt : Value} {f_checks : Addr} {od_checks : Option Addr} {an_checks : Option Addr} {sl_checks : Array (Option Value)} {oc_checks : Value} {kV_checks : Value} {dc_checks : Value} {pm_checks : Value} {cd_checks : Value} {ct_checks : Value} {f_odd : Addr} {od_odd : Option Addr} {an_odd : Option Addr} {sl_odd : Array (Option Value)} {oc_odd : Value} {kV_odd : Value} {dc_odd : Value} {pm_odd : Value} {cd_odd : Value} {ct_odd : Value} {f_kept : Addr} {od_kept : Option Addr} {an_kept : Option Addr} {sl_kept : Array (Option Value)} {oc_kept : Value} {kV_kept : Value} {dc_kept : Value} {pm_kept : Value} {cd_kept : Value} {ct_kept : Value} {f_law : Addr} {od_law : Option Addr} {an_law : Option Addr} {sl_law : Array (Option Value)} {oc_law : Value} {kV_law : Value} {dc_law : Value} {pm_law : Value} {cd_law : Value} {ct_law : Value} {pS : Addr} {f_init : Addr} {od_init : Option Addr} {an_init : Option Addr} {sl_init : Array (Option Value)} {oc_init : Value} {kV_init : Value} {dc_init : Value} {pm_init : Value} {cd_init : Value} {ct_init : Value} {f_eq : Addr} {od_eq : Option Addr} {an_eq : Option Addr} {sl_eq : Array (Option Value)} {oc_eq : Value} {kV_eq : Value} {dc_eq : Value} {pm_eq : Value} {cd_eq : Value} {ct_eq : Value} {f_iter : Addr} {od_iter : Option Addr} {an_iter : Option Addr} {sl_iter : Array (Option Value)} {oc_iter : Value} {kV_iter : Value} {dc_iter : Value} {pm_iter : Value} {cd_iter : Value} {ct_iter : Value} {f_spare : Addr} {rS : List Value} {od_spare : Option Addr} {an_spare : Option Addr} {sl_spare : Array (Option Value)} {oc_spare : Value} {kV_spare : Value} {dc_spare : Value} {pm_spare : Value} {cd_spare : Value} {ct_spare : Value} {f_bw : Addr} {od_bw : Option Addr} {an_bw : Option Addr} {sl_bw : Array (Option Value)} {oc_bw : Value} {kV_bw : Value} {dc_bw : Value} {pm_bw : Value} {cd_bw : Value} {ct_bw : Value} {f_bt : Addr} {od_bt : Option Addr} {an_bt : Option Addr} {sl_bt : Array (Option Value)} {oc_bt : Value} {kV_bt : Value} {dc_bt : Value} {pm_bt : Value} {cd_bt : Value} {ct_bt : Value} {f_bc : Addr} {od_bc : Option Addr} {an_bc : Option Addr} {sl_bc : Array (Option Value)} {oc_bc : Value} {kV_bc : Value} {dc_bc : Value} {pm_bc : Value} {cd_bc : Value} {ct_bc : Value} {nm_CB} {q_CB} {N_CB} {bs_CB} {bm_CB} {sn_CB} {sub_CB} {ab_CB} {col_CB} {dd_CB} {k0_CB} {k1_CB} {k2_CB} {k3_CB} {k5_CB} {nm_CT} {q_CT} {N_CT} {bs_CT} {bm_CT} {sn_CT} {sub_CT} {ab_CT} {col_CT} {dd_CT} {k0_CT} {k1_CT} {k2_CT} {k3_CT} {k5_CT} {nm_CC} {q_CC} {N_CC} {bs_CC} {bm_CC} {sn_CC} {sub_CC} {ab_CC} {col_CC} {dd_CC} {k0_CC} {k1_CC} {k2_CC} {k3_CC} {k5_CC}
    (g_CD : PySem.W.nsIn K mainGlobals "DealError" = some (some (.ref CD)))
    (g_CB : PySem.W.nsIn K mainGlobals "BadWeb" = some (some (.ref CB)))
    (g_CT : PySem.W.nsIn K mainGlobals "BadThing" = some (some (.ref CT)))
    (g_CC : PySem.W.nsIn K mainGlobals "BadClub" = some (some (.ref CC)))
    (g_C : PySem.W.nsIn K mainGlobals "Web" = some (some (.ref C)))
    (a_whole1 : PySem.W.nsIn K mainGlobals "is_whole" = some (some (.ref f_whole1)))
    (l_whole1 : K.lookup f_whole1 = some ⟨oc_whole1, od_whole1, .func (PySem.W.fnOf "is_whole" "is_whole" (C8.fnArgs (top 6)) (C8.fnBody (top 6)) (C8.fnScope (top 6)) (.ref TW) kV_whole1 dc_whole1 pm_whole1 an_whole1 cd_whole1 ct_whole1), sl_whole1⟩)
    (c_whole1 : PySem.W.codeIn K cd_whole1 "is_whole" = true)
    (t_W : K.lookup TW = some ⟨oW, dW, .seq #[.none, .none] nW, sW⟩)
    (k_whole1 : PySem.W.keepIn K (.ref f_whole1) = true)
    (a_seq : PySem.W.nsIn K mainGlobals "is_sequence" = some (some (.ref f_seq)))
    (l_seq : K.lookup f_seq = some ⟨oc_seq, od_seq, .func (PySem.W.fnOf "is_sequence" "is_sequence" (C8.fnArgs (top 7)) (C8.fnBody (top 7)) (C8.fnScope (top 7)) .none kV_seq dc_seq pm_seq an_seq cd_seq ct_seq), sl_seq⟩)
    (c_seq : PySem.W.codeIn K cd_seq "is_sequence" = true)
    (k_seq : PySem.W.keepIn K (.ref f_seq) = true)
    (a_couple : PySem.W.nsIn K mainGlobals "is_couple" = some (some (.ref f_couple)))
    (l_couple : K.lookup f_couple = some ⟨oc_couple, od_couple, .func (PySem.W.fnOf "is_couple" "is_couple" (C8.fnArgs (top 8)) (C8.fnBody (top 8)) (C8.fnScope (top 8)) .none kV_couple dc_couple pm_couple an_couple cd_couple ct_couple), sl_couple⟩)
    (c_couple : PySem.W.codeIn K cd_couple "is_couple" = true)
    (k_couple : PySem.W.keepIn K (.ref f_couple) = true)
    (a_count : PySem.W.nsIn K mainGlobals "count_pieces" = some (some (.ref f_count)))
    (l_count : K.lookup f_count = some ⟨oc_count, od_count, .func (PySem.W.fnOf "count_pieces" "count_pieces" (C8.fnArgs (top 11)) (C8.fnBody (top 11)) (C8.fnScope (top 11)) .none kV_count dc_count pm_count an_count cd_count ct_count), sl_count⟩)
    (c_count : PySem.W.codeIn K cd_count "count_pieces" = true)
    (k_count : PySem.W.keepIn K (.ref f_count) = true)
    (a_ckT : PySem.W.nsIn K mainGlobals "check_thing" = some (some (.ref f_ckT)))
    (l_ckT : K.lookup f_ckT = some ⟨oc_ckT, od_ckT, .func (PySem.W.fnOf "check_thing" "check_thing" (C8.fnArgs (top 12)) (C8.fnBody (top 12)) (C8.fnScope (top 12)) .none kV_ckT dc_ckT pm_ckT an_ckT cd_ckT ct_ckT), sl_ckT⟩)
    (c_ckT : PySem.W.codeIn K cd_ckT "check_thing" = true)
    (k_ckT : PySem.W.keepIn K (.ref f_ckT) = true)
    (a_ckC : PySem.W.nsIn K mainGlobals "check_club" = some (some (.ref f_ckC)))
    (l_ckC : K.lookup f_ckC = some ⟨oc_ckC, od_ckC, .func (PySem.W.fnOf "check_club" "check_club" (C8.fnArgs (top 13)) (C8.fnBody (top 13)) (C8.fnScope (top 13)) .none kV_ckC dc_ckC pm_ckC an_ckC cd_ckC ct_ckC), sl_ckC⟩)
    (c_ckC : PySem.W.codeIn K cd_ckC "check_club" = true)
    (k_ckC : PySem.W.keepIn K (.ref f_ckC) = true)
    (a_clOf : PySem.W.nsIn K mainGlobals "clubs_of" = some (some (.ref f_clOf)))
    (l_clOf : K.lookup f_clOf = some ⟨oc_clOf, od_clOf, .func (PySem.W.fnOf "clubs_of" "clubs_of" (C8.fnArgs (top 14)) (C8.fnBody (top 14)) (C8.fnScope (top 14)) .none kV_clOf dc_clOf pm_clOf an_clOf cd_clOf ct_clOf), sl_clOf⟩)
    (c_clOf : PySem.W.codeIn K cd_clOf "clubs_of" = true)
    (k_clOf : PySem.W.keepIn K (.ref f_clOf) = true)
    (a_thOf : PySem.W.nsIn K mainGlobals "things_of" = some (some (.ref f_thOf)))
    (l_thOf : K.lookup f_thOf = some ⟨oc_thOf, od_thOf, .func (PySem.W.fnOf "things_of" "things_of" (C8.fnArgs (top 15)) (C8.fnBody (top 15)) (C8.fnScope (top 15)) .none kV_thOf dc_thOf pm_thOf an_thOf cd_thOf ct_thOf), sl_thOf⟩)
    (c_thOf : PySem.W.codeIn K cd_thOf "things_of" = true)
    (k_thOf : PySem.W.keepIn K (.ref f_thOf) = true)
    (a_hand : PySem.W.nsIn K mainGlobals "_law_hand" = some (some (.ref f_hand)))
    (l_hand : K.lookup f_hand = some ⟨oc_hand, od_hand, .func (PySem.W.fnOf "_law_hand" "_law_hand" (C8.fnArgs (top 17)) (C8.fnBody (top 17)) (C8.fnScope (top 17)) .none kV_hand dc_hand pm_hand an_hand cd_hand ct_hand), sl_hand⟩)
    (c_hand : PySem.W.codeIn K cd_hand "_law_hand" = true)
    (k_hand : PySem.W.keepIn K (.ref f_hand) = true)
    (a_stir : PySem.W.nsIn K mainGlobals "_law_stir" = some (some (.ref f_stir)))
    (l_stir : K.lookup f_stir = some ⟨oc_stir, od_stir, .func (PySem.W.fnOf "_law_stir" "_law_stir" (C8.fnArgs (top 18)) (C8.fnBody (top 18)) (C8.fnScope (top 18)) .none kV_stir dc_stir pm_stir an_stir cd_stir ct_stir), sl_stir⟩)
    (c_stir : PySem.W.codeIn K cd_stir "_law_stir" = true)
    (k_stir : PySem.W.keepIn K (.ref f_stir) = true)
    (a_take : PySem.W.nsIn K mainGlobals "_law_take" = some (some (.ref f_take)))
    (l_take : K.lookup f_take = some ⟨oc_take, od_take, .func (PySem.W.fnOf "_law_take" "_law_take" (C8.fnArgs (top 19)) (C8.fnBody (top 19)) (C8.fnScope (top 19)) .none kV_take dc_take pm_take an_take cd_take ct_take), sl_take⟩)
    (c_take : PySem.W.codeIn K cd_take "_law_take" = true)
    (k_take : PySem.W.keepIn K (.ref f_take) = true)
    (a_whole : PySem.W.nsIn K mainGlobals "_law_whole" = some (some (.ref f_whole)))
    (l_whole : K.lookup f_whole = some ⟨oc_whole, od_whole, .func (PySem.W.fnOf "_law_whole" "_law_whole" (C8.fnArgs (top 20)) (C8.fnBody (top 20)) (C8.fnScope (top 20)) .none kV_whole dc_whole pm_whole an_whole cd_whole ct_whole), sl_whole⟩)
    (c_whole : PySem.W.codeIn K cd_whole "_law_whole" = true)
    (k_whole : PySem.W.keepIn K (.ref f_whole) = true)
    (a_size : PySem.W.nsIn K mainGlobals "_law_size" = some (some (.ref f_size)))
    (l_size : K.lookup f_size = some ⟨oc_size, od_size, .func (PySem.W.fnOf "_law_size" "_law_size" (C8.fnArgs (top 21)) (C8.fnBody (top 21)) (C8.fnScope (top 21)) .none kV_size dc_size pm_size an_size cd_size ct_size), sl_size⟩)
    (c_size : PySem.W.codeIn K cd_size "_law_size" = true)
    (k_size : PySem.W.keepIn K (.ref f_size) = true)
    (a_web : PySem.W.nsIn K mainGlobals "_law_web" = some (some (.ref f_web)))
    (l_web : K.lookup f_web = some ⟨oc_web, od_web, .func (PySem.W.fnOf "_law_web" "_law_web" (C8.fnArgs (top 22)) (C8.fnBody (top 22)) (C8.fnScope (top 22)) .none kV_web dc_web pm_web an_web cd_web ct_web), sl_web⟩)
    (c_web : PySem.W.codeIn K cd_web "_law_web" = true)
    (k_web : PySem.W.keepIn K (.ref f_web) = true)
    (a_marks : PySem.W.nsIn K mainGlobals "_law_marks" = some (some (.ref f_marks)))
    (l_marks : K.lookup f_marks = some ⟨oc_marks, od_marks, .func (PySem.W.fnOf "_law_marks" "_law_marks" (C8.fnArgs (top 23)) (C8.fnBody (top 23)) (C8.fnScope (top 23)) .none kV_marks dc_marks pm_marks an_marks cd_marks ct_marks), sl_marks⟩)
    (c_marks : PySem.W.codeIn K cd_marks "_law_marks" = true)
    (k_marks : PySem.W.keepIn K (.ref f_marks) = true)
    (a_mixed : PySem.W.nsIn K mainGlobals "_law_mixed_up" = some (some (.ref f_mixed)))
    (l_mixed : K.lookup f_mixed = some ⟨oc_mixed, od_mixed, .func (PySem.W.fnOf "_law_mixed_up" "_law_mixed_up" (C8.fnArgs (top 24)) (C8.fnBody (top 24)) (C8.fnScope (top 24)) .none kV_mixed dc_mixed pm_mixed an_mixed cd_mixed ct_mixed), sl_mixed⟩)
    (c_mixed : PySem.W.codeIn K cd_mixed "_law_mixed_up" = true)
    (k_mixed : PySem.W.keepIn K (.ref f_mixed) = true)
    (a_couples : PySem.W.nsIn K mainGlobals "_law_couples" = some (some (.ref f_couples)))
    (l_couples : K.lookup f_couples = some ⟨oc_couples, od_couples, .func (PySem.W.fnOf "_law_couples" "_law_couples" (C8.fnArgs (top 25)) (C8.fnBody (top 25)) (C8.fnScope (top 25)) .none kV_couples dc_couples pm_couples an_couples cd_couples ct_couples), sl_couples⟩)
    (c_couples : PySem.W.codeIn K cd_couples "_law_couples" = true)
    (k_couples : PySem.W.keepIn K (.ref f_couples) = true)
    (a_shape : PySem.W.nsIn K mainGlobals "_law_shape" = some (some (.ref f_shape)))
    (l_shape : K.lookup f_shape = some ⟨oc_shape, od_shape, .func (PySem.W.fnOf "_law_shape" "_law_shape" (C8.fnArgs (top 26)) (C8.fnBody (top 26)) (C8.fnScope (top 26)) .none kV_shape dc_shape pm_shape an_shape cd_shape ct_shape), sl_shape⟩)
    (c_shape : PySem.W.codeIn K cd_shape "_law_shape" = true)
    (k_shape : PySem.W.keepIn K (.ref f_shape) = true)
    (a_due : PySem.W.nsIn K mainGlobals "_law_word_due" = some (some (.ref f_due)))
    (l_due : K.lookup f_due = some ⟨oc_due, od_due, .func (PySem.W.fnOf "_law_word_due" "_law_word_due" (C8.fnArgs (top 27)) (C8.fnBody (top 27)) (C8.fnScope (top 27)) .none kV_due dc_due pm_due an_due cd_due ct_due), sl_due⟩)
    (c_due : PySem.W.codeIn K cd_due "_law_word_due" = true)
    (k_due : PySem.W.keepIn K (.ref f_due) = true)
    (a_told : PySem.W.nsIn K mainGlobals "_law_word_told" = some (some (.ref f_told)))
    (l_told : K.lookup f_told = some ⟨oc_told, od_told, .func (PySem.W.fnOf "_law_word_told" "_law_word_told" (C8.fnArgs (top 28)) (C8.fnBody (top 28)) (C8.fnScope (top 28)) .none kV_told dc_told pm_told an_told cd_told ct_told), sl_told⟩)
    (c_told : PySem.W.codeIn K cd_told "_law_word_told" = true)
    (k_told : PySem.W.keepIn K (.ref f_told) = true)
    (a_spoilt : PySem.W.nsIn K mainGlobals "_law_spoilt" = some (some (.ref f_spoilt)))
    (l_spoilt : K.lookup f_spoilt = some ⟨oc_spoilt, od_spoilt, .func (PySem.W.fnOf "_law_spoilt" "_law_spoilt" (C8.fnArgs (top 29)) (C8.fnBody (top 29)) (C8.fnScope (top 29)) .none kV_spoilt dc_spoilt pm_spoilt an_spoilt cd_spoilt ct_spoilt), sl_spoilt⟩)
    (c_spoilt : PySem.W.codeIn K cd_spoilt "_law_spoilt" = true)
    (k_spoilt : PySem.W.keepIn K (.ref f_spoilt) = true)
    (a_checks : PySem.W.nsIn K mainGlobals "_law_checks" = some (some (.ref f_checks)))
    (l_checks : K.lookup f_checks = some ⟨oc_checks, od_checks, .func (PySem.W.fnOf "_law_checks" "_law_checks" (C8.fnArgs (top 30)) (C8.fnBody (top 30)) (C8.fnScope (top 30)) .none kV_checks dc_checks pm_checks an_checks cd_checks ct_checks), sl_checks⟩)
    (c_checks : PySem.W.codeIn K cd_checks "_law_checks" = true)
    (k_checks : PySem.W.keepIn K (.ref f_checks) = true)
    (a_odd : PySem.W.nsIn K mainGlobals "_law_odd_refused" = some (some (.ref f_odd)))
    (l_odd : K.lookup f_odd = some ⟨oc_odd, od_odd, .func (PySem.W.fnOf "_law_odd_refused" "_law_odd_refused" (C8.fnArgs (top 31)) (C8.fnBody (top 31)) (C8.fnScope (top 31)) .none kV_odd dc_odd pm_odd an_odd cd_odd ct_odd), sl_odd⟩)
    (c_odd : PySem.W.codeIn K cd_odd "_law_odd_refused" = true)
    (k_odd : PySem.W.keepIn K (.ref f_odd) = true)
    (a_kept : PySem.W.nsIn K mainGlobals "_law_kept" = some (some (.ref f_kept)))
    (l_kept : K.lookup f_kept = some ⟨oc_kept, od_kept, .func (PySem.W.fnOf "_law_kept" "_law_kept" (C8.fnArgs (top 32)) (C8.fnBody (top 32)) (C8.fnScope (top 32)) .none kV_kept dc_kept pm_kept an_kept cd_kept ct_kept), sl_kept⟩)
    (c_kept : PySem.W.codeIn K cd_kept "_law_kept" = true)
    (k_kept : PySem.W.keepIn K (.ref f_kept) = true)
    (a_law : PySem.W.nsIn K mainGlobals "law" = some (some (.ref f_law)))
    (l_law : K.lookup f_law = some ⟨oc_law, od_law, .func (PySem.W.fnOf "law" "law" (C8.fnArgs (top 33)) (C8.fnBody (top 33)) (C8.fnScope (top 33)) .none kV_law dc_law pm_law an_law cd_law ct_law), sl_law⟩)
    (c_law : PySem.W.codeIn K cd_law "law" = true)
    (k_law : PySem.W.keepIn K (.ref f_law) = true)
    (a_init : PySem.W.findIn K (.ref C) "__init__" = some (some (.ref f_init)))
    (i_init : PySem.W.isFn K (.ref f_init) = true)
    (l_init : K.lookup f_init = some ⟨oc_init, od_init, .func (PySem.W.fnOf "__init__" "Web.__init__" (C8.fnArgs (inClass (top 10) 0)) (C8.fnBody (inClass (top 10) 0)) (C8.fnScope (inClass (top 10) 0)) .none kV_init dc_init pm_init an_init cd_init ct_init), sl_init⟩)
    (c_init : PySem.W.codeIn K cd_init "Web.__init__" = true)
    (a_eq : PySem.W.findIn K (.ref C) "__eq__" = some (some (.ref f_eq)))
    (i_eq : PySem.W.isFn K (.ref f_eq) = true)
    (l_eq : K.lookup f_eq = some ⟨oc_eq, od_eq, .func (PySem.W.fnOf "__eq__" "Web.__eq__" (C8.fnArgs (inClass (top 10) 1)) (C8.fnBody (inClass (top 10) 1)) (C8.fnScope (inClass (top 10) 1)) .none kV_eq dc_eq pm_eq an_eq cd_eq ct_eq), sl_eq⟩)
    (c_eq : PySem.W.codeIn K cd_eq "Web.__eq__" = true)
    (a_iter : PySem.W.findIn K (.ref C) "__iter__" = some (some (.ref f_iter)))
    (i_iter : PySem.W.isFn K (.ref f_iter) = true)
    (l_iter : K.lookup f_iter = some ⟨oc_iter, od_iter, .func (PySem.W.fnOf "__iter__" "Web.__iter__" (C8.fnArgs (inClass (top 10) 2)) (C8.fnBody (inClass (top 10) 2)) (C8.fnScope (inClass (top 10) 2)) .none kV_iter dc_iter pm_iter an_iter cd_iter ct_iter), sl_iter⟩)
    (c_iter : PySem.W.codeIn K cd_iter "Web.__iter__" = true)
    (p1 : PySem.W.findIn K (.ref C) "spare" = some (some (.ref pS)))
    (p2 : PySem.W.specialIn K (.ref pS) "__get__" = some (some (.builtin "property.__get__")))
    (p3 : PySem.W.takesIn K (.ref pS) = some true)
    (p4 : PySem.W.recIn K pS "property" = some (.ref f_spare :: rS))
    (l_spare : K.lookup f_spare = some ⟨oc_spare, od_spare, .func (PySem.W.fnOf "spare" "Web.spare" (C8.fnArgs (inClass (top 10) 3)) (C8.fnBody (inClass (top 10) 3)) (C8.fnScope (inClass (top 10) 3)) .none kV_spare dc_spare pm_spare an_spare cd_spare ct_spare), sl_spare⟩)
    (c_spare : PySem.W.codeIn K cd_spare "Web.spare" = true)
    (a_bw : PySem.W.findIn K (.ref CB) "__init__" = some (some (.ref f_bw)))
    (i_bw : PySem.W.typeIn K (.ref f_bw) = some (.type "function"))
    (l_bw : K.lookup f_bw = some ⟨oc_bw, od_bw, .func (PySem.W.fnOf "__init__" "BadWeb.__init__" (C8.fnArgs (inClass (top 2) 0)) (C8.fnBody (inClass (top 2) 0)) (C8.fnScope (inClass (top 2) 0)) .none kV_bw dc_bw pm_bw an_bw cd_bw ct_bw), sl_bw⟩)
    (c_bw : PySem.W.codeIn K cd_bw "BadWeb.__init__" = true)
    (a_bt : PySem.W.findIn K (.ref CT) "__init__" = some (some (.ref f_bt)))
    (i_bt : PySem.W.typeIn K (.ref f_bt) = some (.type "function"))
    (l_bt : K.lookup f_bt = some ⟨oc_bt, od_bt, .func (PySem.W.fnOf "__init__" "BadThing.__init__" (C8.fnArgs (inClass (top 3) 0)) (C8.fnBody (inClass (top 3) 0)) (C8.fnScope (inClass (top 3) 0)) .none kV_bt dc_bt pm_bt an_bt cd_bt ct_bt), sl_bt⟩)
    (c_bt : PySem.W.codeIn K cd_bt "BadThing.__init__" = true)
    (a_bc : PySem.W.findIn K (.ref CC) "__init__" = some (some (.ref f_bc)))
    (i_bc : PySem.W.typeIn K (.ref f_bc) = some (.type "function"))
    (l_bc : K.lookup f_bc = some ⟨oc_bc, od_bc, .func (PySem.W.fnOf "__init__" "BadClub.__init__" (C8.fnArgs (inClass (top 4) 0)) (C8.fnBody (inClass (top 4) 0)) (C8.fnScope (inClass (top 4) 0)) .none kV_bc dc_bc pm_bc an_bc cd_bc ct_bc), sl_bc⟩)
    (c_bc : PySem.W.codeIn K cd_bc "BadClub.__init__" = true)
    (w1 : PySem.W.plainGet K C Str.empty = true)
    (w2 : PySem.W.hasDictIn K C = true)
    (w3 : PySem.W.plainOver K C = true)
    (w4 : PySem.W.findIn K (.ref C) "__setattr__" = some (some (.builtin "object.__setattr__")))
    (w5 : PySem.W.findIn K (.ref C) "things" = some none)
    (w6 : PySem.W.findIn K (.ref C) "clubs" = some none)
    (w7 : PySem.W.findIn K (.ref C) "ties" = some none)
    (w8 : PySem.W.makesIn K C = true)
    (w9 : PySem.W.keepIn K (.ref C) = true)
    (w10 : PySem.W.findIn K (.ref C) "__class__" = some (some (.builtin "object.__class__")))
    (w11 : PySem.W.specialIn K (.builtin "object.__class__") "__get__" = some (some (.builtin "getset_descriptor.__get__")))
    (w12 : PySem.W.takesIn K (.builtin "object.__class__") = some true)
    (w13 : PySem.W.mroIn K C (.type "object") = some true)
    (b1 : PySem.W.specialIn K (.ref CD) "__getattribute__" = some (some (.builtin "type.__getattribute__")))
    (b2 : PySem.W.readsIn K CD (.type "type") = true)
    (b3 : PySem.W.findCls K (.ref CD) (.type "type") "__init__" = some (.val (.builtin "ValueError.__init__")))
    (o1_CB : K.lookup CB = some (excClassObj nm_CB q_CB CB N_CB bs_CB bm_CB true sn_CB sub_CB ab_CB col_CB dd_CB k0_CB k1_CB k2_CB k3_CB k5_CB "ValueError.__new__"))
    (o2_CB : PySem.HandSPX.refsVE bm_CB = true)
    (o3_CB : PySem.W.findIn K (.ref CB) "__setattr__" = some (some (.builtin "object.__setattr__")))
    (o4_CB : PySem.W.subIn K (.ref CB) (.type "BaseException") = some true)
    (o5_CB : PySem.W.typeIn K (.ref CB) = some (.type "type"))
    (o6_CB : PySem.W.keepIn K (.ref CB) = true)
    (e1_CB : PySem.W.isClsIn K CB = true)
    (e2_CB : PySem.W.subIn K (.ref CB) (.ref CB) = some true)
    (o1_CT : K.lookup CT = some (excClassObj nm_CT q_CT CT N_CT bs_CT bm_CT true sn_CT sub_CT ab_CT col_CT dd_CT k0_CT k1_CT k2_CT k3_CT k5_CT "ValueError.__new__"))
    (o2_CT : PySem.HandSPX.refsVE bm_CT = true)
    (o3_CT : PySem.W.findIn K (.ref CT) "__setattr__" = some (some (.builtin "object.__setattr__")))
    (o4_CT : PySem.W.subIn K (.ref CT) (.type "BaseException") = some true)
    (o5_CT : PySem.W.typeIn K (.ref CT) = some (.type "type"))
    (o6_CT : PySem.W.keepIn K (.ref CT) = true)
    (e1_CT : PySem.W.isClsIn K CT = true)
    (e2_CT : PySem.W.subIn K (.ref CT) (.ref CT) = some true)
    (o1_CC : K.lookup CC = some (excClassObj nm_CC q_CC CC N_CC bs_CC bm_CC true sn_CC sub_CC ab_CC col_CC dd_CC k0_CC k1_CC k2_CC k3_CC k5_CC "ValueError.__new__"))
    (o2_CC : PySem.HandSPX.refsVE bm_CC = true)
    (o3_CC : PySem.W.findIn K (.ref CC) "__setattr__" = some (some (.builtin "object.__setattr__")))
    (o4_CC : PySem.W.subIn K (.ref CC) (.type "BaseException") = some true)
    (o5_CC : PySem.W.typeIn K (.ref CC) = some (.type "type"))
    (o6_CC : PySem.W.keepIn K (.ref CC) = true)
    (e1_CC : PySem.W.isClsIn K CC = true)
    (e2_CC : PySem.W.subIn K (.ref CC) (.ref CC) = some true)
    (x1 : PySem.W.findIn K (.ref CB) "what" = some none)
    (x2 : PySem.W.findIn K (.ref CB) "__getattribute__" = some (some (.builtin "BaseException.__getattribute__")))
    (x3 : PySem.W.findIn K (.ref CB) "__getattr__" = some none)
    (x4 : PySem.W.hasDictIn K CB = true)
    (x5 : PySem.W.findIn K (.ref CB) "__class__" = some (some (.builtin "object.__class__")))
    (x6 : PySem.W.mroIn K CB (.type "object") = some true)
    (x7 : PySem.W.isClsIn K CD = true)
    (x9 : PySem.W.typeIn K (.ref CD) = some (.type "type"))
    (x10 : PySem.W.subIn K (.ref CB) (.ref CD) = some true)
    (x8 : PySem.W.subIn K (.ref CB) (.type "ValueError") = some true)
    (z_isinstance : PySem.W.nsIn K mainGlobals "isinstance" = some none)
    (z_int : PySem.W.nsIn K mainGlobals "int" = some none)
    (z_bool : PySem.W.nsIn K mainGlobals "bool" = some none)
    (z_list : PySem.W.nsIn K mainGlobals "list" = some none)
    (z_tuple : PySem.W.nsIn K mainGlobals "tuple" = some none)
    (z_len : PySem.W.nsIn K mainGlobals "len" = some none)
    (z_set : PySem.W.nsIn K mainGlobals "set" = some none)
    (z_sorted : PySem.W.nsIn K mainGlobals "sorted" = some none)
    (z_range : PySem.W.nsIn K mainGlobals "range" = some none)
    (z_iter : PySem.W.nsIn K mainGlobals "iter" = some none)
    (z_abs : PySem.W.nsIn K mainGlobals "abs" = some none)
    (z_ValueError : PySem.W.nsIn K mainGlobals "ValueError" = some none)
    : ∃ fd : FuncData, (∀ (s : Shared) (v : Value), BindsTo s fd ⟨[v], []⟩ [("_law_script", v)]) ∧ ∀ base : Heap, K.In base → base.Ns mainGlobals mg → FnOk l.prog w K mg base C8.CX0 6 fa fd ["_law_script"] (spLaw K) := by
  have e := (PySem.W.mg_of X G a_law).symm.trans hfa
  cases e
  have B : Blt mg := ⟨PySem.W.mg_none_of X G z_isinstance, PySem.W.mg_none_of X G z_int, PySem.W.mg_none_of X G z_bool, PySem.W.mg_none_of X G z_list, PySem.W.mg_none_of X G z_tuple, PySem.W.mg_none_of X G z_len, PySem.W.mg_none_of X G z_set, PySem.W.mg_none_of X G z_sorted, PySem.W.mg_none_of X G z_range, PySem.W.mg_none_of X G z_iter, PySem.W.mg_none_of X G z_abs, PySem.W.mg_none_of X G z_ValueError⟩
  have F_whole1 : C8.Fun K "is_whole" "is_whole" (top 6) f_whole1 (PySem.W.fnOf "is_whole" "is_whole" (C8.fnArgs (top 6)) (C8.fnBody (top 6)) (C8.fnScope (top 6)) (.ref TW) kV_whole1 dc_whole1 pm_whole1 an_whole1 cd_whole1 ct_whole1) := ⟨oc_whole1, od_whole1, (.ref TW), kV_whole1, dc_whole1, pm_whole1, an_whole1, cd_whole1, ct_whole1, sl_whole1, rfl, l_whole1, c_whole1⟩
  have b_whole1 : Binds K (PySem.W.fnOf "is_whole" "is_whole" (C8.fnArgs (top 6)) (C8.fnBody (top 6)) (C8.fnScope (top 6)) (.ref TW) kV_whole1 dc_whole1 pm_whole1 an_whole1 cd_whole1 ct_whole1) ["thing", "low", "high"] [] := fun s us KX hl => match us, hl with | [_, _, _], _ => PySem.W.binds_K KX rfl t_W rfl rfl rfl
  have D_whole1 : C8.Def K mg "is_whole" (top 6) f_whole1 _ := ⟨F_whole1, PySem.W.mg_of X G a_whole1, k_whole1⟩
  have F_seq : C8.Fun K "is_sequence" "is_sequence" (top 7) f_seq (PySem.W.fnOf "is_sequence" "is_sequence" (C8.fnArgs (top 7)) (C8.fnBody (top 7)) (C8.fnScope (top 7)) .none kV_seq dc_seq pm_seq an_seq cd_seq ct_seq) := ⟨oc_seq, od_seq, .none, kV_seq, dc_seq, pm_seq, an_seq, cd_seq, ct_seq, sl_seq, rfl, l_seq, c_seq⟩
  have b_seq := F_seq.binds rfl (ps := ["thing"]) fun _ _ _ _ _ _ us hl => match us, hl with | [_], _ => rfl
  have D_seq : C8.Def K mg "is_sequence" (top 7) f_seq _ := ⟨F_seq, PySem.W.mg_of X G a_seq, k_seq⟩
  have F_couple : C8.Fun K "is_couple" "is_couple" (top 8) f_couple (PySem.W.fnOf "is_couple" "is_couple" (C8.fnArgs (top 8)) (C8.fnBody (top 8)) (C8.fnScope (top 8)) .none kV_couple dc_couple pm_couple an_couple cd_couple ct_couple) := ⟨oc_couple, od_couple, .none, kV_couple, dc_couple, pm_couple, an_couple, cd_couple, ct_couple, sl_couple, rfl, l_couple, c_couple⟩
  have b_couple := F_couple.binds rfl (ps := ["thing"]) fun _ _ _ _ _ _ us hl => match us, hl with | [_], _ => rfl
  have D_couple : C8.Def K mg "is_couple" (top 8) f_couple _ := ⟨F_couple, PySem.W.mg_of X G a_couple, k_couple⟩
  have F_count : C8.Fun K "count_pieces" "count_pieces" (top 11) f_count (PySem.W.fnOf "count_pieces" "count_pieces" (C8.fnArgs (top 11)) (C8.fnBody (top 11)) (C8.fnScope (top 11)) .none kV_count dc_count pm_count an_count cd_count ct_count) := ⟨oc_count, od_count, .none, kV_count, dc_count, pm_count, an_count, cd_count, ct_count, sl_count, rfl, l_count, c_count⟩
  have b_count := F_count.binds rfl (ps := ["things", "clubs", "ties"]) fun _ _ _ _ _ _ us hl => match us, hl with | [_, _, _], _ => rfl
  have D_count : C8.Def K mg "count_pieces" (top 11) f_count _ := ⟨F_count, PySem.W.mg_of X G a_count, k_count⟩
  have F_ckT : C8.Fun K "check_thing" "check_thing" (top 12) f_ckT (PySem.W.fnOf "check_thing" "check_thing" (C8.fnArgs (top 12)) (C8.fnBody (top 12)) (C8.fnScope (top 12)) .none kV_ckT dc_ckT pm_ckT an_ckT cd_ckT ct_ckT) := ⟨oc_ckT, od_ckT, .none, kV_ckT, dc_ckT, pm_ckT, an_ckT, cd_ckT, ct_ckT, sl_ckT, rfl, l_ckT, c_ckT⟩
  have b_ckT := F_ckT.binds rfl (ps := ["web", "thing"]) fun _ _ _ _ _ _ us hl => match us, hl with | [_, _], _ => rfl
  have D_ckT : C8.Def K mg "check_thing" (top 12) f_ckT _ := ⟨F_ckT, PySem.W.mg_of X G a_ckT, k_ckT⟩
  have F_ckC : C8.Fun K "check_club" "check_club" (top 13) f_ckC (PySem.W.fnOf "check_club" "check_club" (C8.fnArgs (top 13)) (C8.fnBody (top 13)) (C8.fnScope (top 13)) .none kV_ckC dc_ckC pm_ckC an_ckC cd_ckC ct_ckC) := ⟨oc_ckC, od_ckC, .none, kV_ckC, dc_ckC, pm_ckC, an_ckC, cd_ckC, ct_ckC, sl_ckC, rfl, l_ckC, c_ckC⟩
  have b_ckC := F_ckC.binds rfl (ps := ["web", "club"]) fun _ _ _ _ _ _ us hl => match us, hl with | [_, _], _ => rfl
  have D_ckC : C8.Def K mg "check_club" (top 13) f_ckC _ := ⟨F_ckC, PySem.W.mg_of X G a_ckC, k_ckC⟩
  have F_clOf : C8.Fun K "clubs_of" "clubs_of" (top 14) f_clOf (PySem.W.fnOf "clubs_of" "clubs_of" (C8.fnArgs (top 14)) (C8.fnBody (top 14)) (C8.fnScope (top 14)) .none kV_clOf dc_clOf pm_clOf an_clOf cd_clOf ct_clOf) := ⟨oc_clOf, od_clOf, .none, kV_clOf, dc_clOf, pm_clOf, an_clOf, cd_clOf, ct_clOf, sl_clOf, rfl, l_clOf, c_clOf⟩
  have b_clOf := F_clOf.binds rfl (ps := ["web", "thing"]) fun _ _ _ _ _ _ us hl => match us, hl with | [_, _], _ => rfl
  have D_clOf : C8.Def K mg "clubs_of" (top 14) f_clOf _ := ⟨F_clOf, PySem.W.mg_of X G a_clOf, k_clOf⟩
  have F_thOf : C8.Fun K "things_of" "things_of" (top 15) f_thOf (PySem.W.fnOf "things_of" "things_of" (C8.fnArgs (top 15)) (C8.fnBody (top 15)) (C8.fnScope (top 15)) .none kV_thOf dc_thOf pm_thOf an_thOf cd_thOf ct_thOf) := ⟨oc_thOf, od_thOf, .none, kV_thOf, dc_thOf, pm_thOf, an_thOf, cd_thOf, ct_thOf, sl_thOf, rfl, l_thOf, c_thOf⟩
  have b_thOf := F_thOf.binds rfl (ps := ["web", "club"]) fun _ _ _ _ _ _ us hl => match us, hl with | [_, _], _ => rfl
  have D_thOf : C8.Def K mg "things_of" (top 15) f_thOf _ := ⟨F_thOf, PySem.W.mg_of X G a_thOf, k_thOf⟩
  have F_hand : C8.Fun K "_law_hand" "_law_hand" (top 17) f_hand (PySem.W.fnOf "_law_hand" "_law_hand" (C8.fnArgs (top 17)) (C8.fnBody (top 17)) (C8.fnScope (top 17)) .none kV_hand dc_hand pm_hand an_hand cd_hand ct_hand) := ⟨oc_hand, od_hand, .none, kV_hand, dc_hand, pm_hand, an_hand, cd_hand, ct_hand, sl_hand, rfl, l_hand, c_hand⟩
  have b_hand := F_hand.binds rfl (ps := ["_law_script"]) fun _ _ _ _ _ _ us hl => match us, hl with | [_], _ => rfl
  have D_hand : C8.Def K mg "_law_hand" (top 17) f_hand _ := ⟨F_hand, PySem.W.mg_of X G a_hand, k_hand⟩
  have F_stir : C8.Fun K "_law_stir" "_law_stir" (top 18) f_stir (PySem.W.fnOf "_law_stir" "_law_stir" (C8.fnArgs (top 18)) (C8.fnBody (top 18)) (C8.fnScope (top 18)) .none kV_stir dc_stir pm_stir an_stir cd_stir ct_stir) := ⟨oc_stir, od_stir, .none, kV_stir, dc_stir, pm_stir, an_stir, cd_stir, ct_stir, sl_stir, rfl, l_stir, c_stir⟩
  have b_stir := F_stir.binds rfl (ps := ["_law_number", "_law_turn"]) fun _ _ _ _ _ _ us hl => match us, hl with | [_, _], _ => rfl
  have D_stir : C8.Def K mg "_law_stir" (top 18) f_stir _ := ⟨F_stir, PySem.W.mg_of X G a_stir, k_stir⟩
  have F_take : C8.Fun K "_law_take" "_law_take" (top 19) f_take (PySem.W.fnOf "_law_take" "_law_take" (C8.fnArgs (top 19)) (C8.fnBody (top 19)) (C8.fnScope (top 19)) .none kV_take dc_take pm_take an_take cd_take ct_take) := ⟨oc_take, od_take, .none, kV_take, dc_take, pm_take, an_take, cd_take, ct_take, sl_take, rfl, l_take, c_take⟩
  have b_take := F_take.binds rfl (ps := ["_law_hand_here", "_law_many"]) fun _ _ _ _ _ _ us hl => match us, hl with | [_, _], _ => rfl
  have D_take : C8.Def K mg "_law_take" (top 19) f_take _ := ⟨F_take, PySem.W.mg_of X G a_take, k_take⟩
  have F_whole : C8.Fun K "_law_whole" "_law_whole" (top 20) f_whole (PySem.W.fnOf "_law_whole" "_law_whole" (C8.fnArgs (top 20)) (C8.fnBody (top 20)) (C8.fnScope (top 20)) .none kV_whole dc_whole pm_whole an_whole cd_whole ct_whole) := ⟨oc_whole, od_whole, .none, kV_whole, dc_whole, pm_whole, an_whole, cd_whole, ct_whole, sl_whole, rfl, l_whole, c_whole⟩
  have b_whole := F_whole.binds rfl (ps := ["_law_thing"]) fun _ _ _ _ _ _ us hl => match us, hl with | [_], _ => rfl
  have D_whole : C8.Def K mg "_law_whole" (top 20) f_whole _ := ⟨F_whole, PySem.W.mg_of X G a_whole, k_whole⟩
  have F_size : C8.Fun K "_law_size" "_law_size" (top 21) f_size (PySem.W.fnOf "_law_size" "_law_size" (C8.fnArgs (top 21)) (C8.fnBody (top 21)) (C8.fnScope (top 21)) .none kV_size dc_size pm_size an_size cd_size ct_size) := ⟨oc_size, od_size, .none, kV_size, dc_size, pm_size, an_size, cd_size, ct_size, sl_size, rfl, l_size, c_size⟩
  have b_size := F_size.binds rfl (ps := ["_law_hand_here", "_law_most"]) fun _ _ _ _ _ _ us hl => match us, hl with | [_, _], _ => rfl
  have D_size : C8.Def K mg "_law_size" (top 21) f_size _ := ⟨F_size, PySem.W.mg_of X G a_size, k_size⟩
  have F_web : C8.Fun K "_law_web" "_law_web" (top 22) f_web (PySem.W.fnOf "_law_web" "_law_web" (C8.fnArgs (top 22)) (C8.fnBody (top 22)) (C8.fnScope (top 22)) .none kV_web dc_web pm_web an_web cd_web ct_web) := ⟨oc_web, od_web, .none, kV_web, dc_web, pm_web, an_web, cd_web, ct_web, sl_web, rfl, l_web, c_web⟩
  have b_web := F_web.binds rfl (ps := ["_law_hand_here", "_law_things", "_law_clubs", "_law_most"]) fun _ _ _ _ _ _ us hl => match us, hl with | [_, _, _, _], _ => rfl
  have D_web : C8.Def K mg "_law_web" (top 22) f_web _ := ⟨F_web, PySem.W.mg_of X G a_web, k_web⟩
  have F_marks : C8.Fun K "_law_marks" "_law_marks" (top 23) f_marks (PySem.W.fnOf "_law_marks" "_law_marks" (C8.fnArgs (top 23)) (C8.fnBody (top 23)) (C8.fnScope (top 23)) .none kV_marks dc_marks pm_marks an_marks cd_marks ct_marks) := ⟨oc_marks, od_marks, .none, kV_marks, dc_marks, pm_marks, an_marks, cd_marks, ct_marks, sl_marks, rfl, l_marks, c_marks⟩
  have b_marks := F_marks.binds rfl (ps := ["_law_n", "_law_m", "_law_ties"]) fun _ _ _ _ _ _ us hl => match us, hl with | [_, _, _], _ => rfl
  have D_marks : C8.Def K mg "_law_marks" (top 23) f_marks _ := ⟨F_marks, PySem.W.mg_of X G a_marks, k_marks⟩
  have F_mixed : C8.Fun K "_law_mixed_up" "_law_mixed_up" (top 24) f_mixed (PySem.W.fnOf "_law_mixed_up" "_law_mixed_up" (C8.fnArgs (top 24)) (C8.fnBody (top 24)) (C8.fnScope (top 24)) .none kV_mixed dc_mixed pm_mixed an_mixed cd_mixed ct_mixed) := ⟨oc_mixed, od_mixed, .none, kV_mixed, dc_mixed, pm_mixed, an_mixed, cd_mixed, ct_mixed, sl_mixed, rfl, l_mixed, c_mixed⟩
  have b_mixed := F_mixed.binds rfl (ps := ["_law_hand_here", "_law_things"]) fun _ _ _ _ _ _ us hl => match us, hl with | [_, _], _ => rfl
  have D_mixed : C8.Def K mg "_law_mixed_up" (top 24) f_mixed _ := ⟨F_mixed, PySem.W.mg_of X G a_mixed, k_mixed⟩
  have F_couples : C8.Fun K "_law_couples" "_law_couples" (top 25) f_couples (PySem.W.fnOf "_law_couples" "_law_couples" (C8.fnArgs (top 25)) (C8.fnBody (top 25)) (C8.fnScope (top 25)) .none kV_couples dc_couples pm_couples an_couples cd_couples ct_couples) := ⟨oc_couples, od_couples, .none, kV_couples, dc_couples, pm_couples, an_couples, cd_couples, ct_couples, sl_couples, rfl, l_couples, c_couples⟩
  have b_couples := F_couples.binds rfl (ps := ["_law_hand_here", "_law_ties"]) fun _ _ _ _ _ _ us hl => match us, hl with | [_, _], _ => rfl
  have D_couples : C8.Def K mg "_law_couples" (top 25) f_couples _ := ⟨F_couples, PySem.W.mg_of X G a_couples, k_couples⟩
  have F_shape : C8.Fun K "_law_shape" "_law_shape" (top 26) f_shape (PySem.W.fnOf "_law_shape" "_law_shape" (C8.fnArgs (top 26)) (C8.fnBody (top 26)) (C8.fnScope (top 26)) .none kV_shape dc_shape pm_shape an_shape cd_shape ct_shape) := ⟨oc_shape, od_shape, .none, kV_shape, dc_shape, pm_shape, an_shape, cd_shape, ct_shape, sl_shape, rfl, l_shape, c_shape⟩
  have b_shape := F_shape.binds rfl (ps := ["_law_hand_here", "_law_things"]) fun _ _ _ _ _ _ us hl => match us, hl with | [_, _], _ => rfl
  have D_shape : C8.Def K mg "_law_shape" (top 26) f_shape _ := ⟨F_shape, PySem.W.mg_of X G a_shape, k_shape⟩
  have F_due : C8.Fun K "_law_word_due" "_law_word_due" (top 27) f_due (PySem.W.fnOf "_law_word_due" "_law_word_due" (C8.fnArgs (top 27)) (C8.fnBody (top 27)) (C8.fnScope (top 27)) .none kV_due dc_due pm_due an_due cd_due ct_due) := ⟨oc_due, od_due, .none, kV_due, dc_due, pm_due, an_due, cd_due, ct_due, sl_due, rfl, l_due, c_due⟩
  have b_due := F_due.binds rfl (ps := ["_law_things", "_law_clubs", "_law_ties"]) fun _ _ _ _ _ _ us hl => match us, hl with | [_, _, _], _ => rfl
  have D_due : C8.Def K mg "_law_word_due" (top 27) f_due _ := ⟨F_due, PySem.W.mg_of X G a_due, k_due⟩
  have F_told : C8.Fun K "_law_word_told" "_law_word_told" (top 28) f_told (PySem.W.fnOf "_law_word_told" "_law_word_told" (C8.fnArgs (top 28)) (C8.fnBody (top 28)) (C8.fnScope (top 28)) .none kV_told dc_told pm_told an_told cd_told ct_told) := ⟨oc_told, od_told, .none, kV_told, dc_told, pm_told, an_told, cd_told, ct_told, sl_told, rfl, l_told, c_told⟩
  have b_told := F_told.binds rfl (ps := ["_law_things", "_law_clubs", "_law_ties"]) fun _ _ _ _ _ _ us hl => match us, hl with | [_, _, _], _ => rfl
  have D_told : C8.Def K mg "_law_word_told" (top 28) f_told _ := ⟨F_told, PySem.W.mg_of X G a_told, k_told⟩
  have F_spoilt : C8.Fun K "_law_spoilt" "_law_spoilt" (top 29) f_spoilt (PySem.W.fnOf "_law_spoilt" "_law_spoilt" (C8.fnArgs (top 29)) (C8.fnBody (top 29)) (C8.fnScope (top 29)) .none kV_spoilt dc_spoilt pm_spoilt an_spoilt cd_spoilt ct_spoilt) := ⟨oc_spoilt, od_spoilt, .none, kV_spoilt, dc_spoilt, pm_spoilt, an_spoilt, cd_spoilt, ct_spoilt, sl_spoilt, rfl, l_spoilt, c_spoilt⟩
  have b_spoilt := F_spoilt.binds rfl (ps := ["_law_hand_here", "_law_n", "_law_m", "_law_ties"]) fun _ _ _ _ _ _ us hl => match us, hl with | [_, _, _, _], _ => rfl
  have D_spoilt : C8.Def K mg "_law_spoilt" (top 29) f_spoilt _ := ⟨F_spoilt, PySem.W.mg_of X G a_spoilt, k_spoilt⟩
  have F_checks : C8.Fun K "_law_checks" "_law_checks" (top 30) f_checks (PySem.W.fnOf "_law_checks" "_law_checks" (C8.fnArgs (top 30)) (C8.fnBody (top 30)) (C8.fnScope (top 30)) .none kV_checks dc_checks pm_checks an_checks cd_checks ct_checks) := ⟨oc_checks, od_checks, .none, kV_checks, dc_checks, pm_checks, an_checks, cd_checks, ct_checks, sl_checks, rfl, l_checks, c_checks⟩
  have b_checks := F_checks.binds rfl (ps := ["_law_web_here", "_law_n", "_law_m", "_law_ties"]) fun _ _ _ _ _ _ us hl => match us, hl with | [_, _, _, _], _ => rfl
  have D_checks : C8.Def K mg "_law_checks" (top 30) f_checks _ := ⟨F_checks, PySem.W.mg_of X G a_checks, k_checks⟩
  have F_odd : C8.Fun K "_law_odd_refused" "_law_odd_refused" (top 31) f_odd (PySem.W.fnOf "_law_odd_refused" "_law_odd_refused" (C8.fnArgs (top 31)) (C8.fnBody (top 31)) (C8.fnScope (top 31)) .none kV_odd dc_odd pm_odd an_odd cd_odd ct_odd) := ⟨oc_odd, od_odd, .none, kV_odd, dc_odd, pm_odd, an_odd, cd_odd, ct_odd, sl_odd, rfl, l_odd, c_odd⟩
  have b_odd := F_odd.binds rfl (ps := ["_law_web_here", "_law_n", "_law_m"]) fun _ _ _ _ _ _ us hl => match us, hl with | [_, _, _], _ => rfl
  have D_odd : C8.Def K mg "_law_odd_refused" (top 31) f_odd _ := ⟨F_odd, PySem.W.mg_of X G a_odd, k_odd⟩
  have F_kept : C8.Fun K "_law_kept" "_law_kept" (top 32) f_kept (PySem.W.fnOf "_law_kept" "_law_kept" (C8.fnArgs (top 32)) (C8.fnBody (top 32)) (C8.fnScope (top 32)) .none kV_kept dc_kept pm_kept an_kept cd_kept ct_kept) := ⟨oc_kept, od_kept, .none, kV_kept, dc_kept, pm_kept, an_kept, cd_kept, ct_kept, sl_kept, rfl, l_kept, c_kept⟩
  have b_kept := F_kept.binds rfl (ps := ["_law_web_here", "_law_n", "_law_m", "_law_ties"]) fun _ _ _ _ _ _ us hl => match us, hl with | [_, _, _, _], _ => rfl
  have D_kept : C8.Def K mg "_law_kept" (top 32) f_kept _ := ⟨F_kept, PySem.W.mg_of X G a_kept, k_kept⟩
  have F_law : C8.Fun K "law" "law" (top 33) fa (PySem.W.fnOf "law" "law" (C8.fnArgs (top 33)) (C8.fnBody (top 33)) (C8.fnScope (top 33)) .none kV_law dc_law pm_law an_law cd_law ct_law) := ⟨oc_law, od_law, .none, kV_law, dc_law, pm_law, an_law, cd_law, ct_law, sl_law, rfl, l_law, c_law⟩
  have F_init : C8.Fun K "__init__" "Web.__init__" (inClass (top 10) 0) f_init (PySem.W.fnOf "__init__" "Web.__init__" (C8.fnArgs (inClass (top 10) 0)) (C8.fnBody (inClass (top 10) 0)) (C8.fnScope (inClass (top 10) 0)) .none kV_init dc_init pm_init an_init cd_init ct_init) := ⟨oc_init, od_init, .none, kV_init, dc_init, pm_init, an_init, cd_init, ct_init, sl_init, rfl, l_init, c_init⟩
  have b_init := F_init.binds rfl (ps := ["self", "things", "clubs", "ties"]) fun _ _ _ _ _ _ us hl => match us, hl with | [_, _, _, _], _ => rfl
  have F_eq : C8.Fun K "__eq__" "Web.__eq__" (inClass (top 10) 1) f_eq (PySem.W.fnOf "__eq__" "Web.__eq__" (C8.fnArgs (inClass (top 10) 1)) (C8.fnBody (inClass (top 10) 1)) (C8.fnScope (inClass (top 10) 1)) .none kV_eq dc_eq pm_eq an_eq cd_eq ct_eq) := ⟨oc_eq, od_eq, .none, kV_eq, dc_eq, pm_eq, an_eq, cd_eq, ct_eq, sl_eq, rfl, l_eq, c_eq⟩
  have b_eq := F_eq.binds rfl (ps := ["self", "other"]) fun _ _ _ _ _ _ us hl => match us, hl with | [_, _], _ => rfl
  have F_iter : C8.Fun K "__iter__" "Web.__iter__" (inClass (top 10) 2) f_iter (PySem.W.fnOf "__iter__" "Web.__iter__" (C8.fnArgs (inClass (top 10) 2)) (C8.fnBody (inClass (top 10) 2)) (C8.fnScope (inClass (top 10) 2)) .none kV_iter dc_iter pm_iter an_iter cd_iter ct_iter) := ⟨oc_iter, od_iter, .none, kV_iter, dc_iter, pm_iter, an_iter, cd_iter, ct_iter, sl_iter, rfl, l_iter, c_iter⟩
  have b_iter := F_iter.binds rfl (ps := ["self"]) fun _ _ _ _ _ _ us hl => match us, hl with | [_], _ => rfl
  have F_spare : C8.Fun K "spare" "Web.spare" (inClass (top 10) 3) f_spare (PySem.W.fnOf "spare" "Web.spare" (C8.fnArgs (inClass (top 10) 3)) (C8.fnBody (inClass (top 10) 3)) (C8.fnScope (inClass (top 10) 3)) .none kV_spare dc_spare pm_spare an_spare cd_spare ct_spare) := ⟨oc_spare, od_spare, .none, kV_spare, dc_spare, pm_spare, an_spare, cd_spare, ct_spare, sl_spare, rfl, l_spare, c_spare⟩
  have b_spare := F_spare.binds rfl (ps := ["self"]) fun _ _ _ _ _ _ us hl => match us, hl with | [_], _ => rfl
  have F_bw : C8.Fun K "__init__" "BadWeb.__init__" (inClass (top 2) 0) f_bw (PySem.W.fnOf "__init__" "BadWeb.__init__" (C8.fnArgs (inClass (top 2) 0)) (C8.fnBody (inClass (top 2) 0)) (C8.fnScope (inClass (top 2) 0)) .none kV_bw dc_bw pm_bw an_bw cd_bw ct_bw) := ⟨oc_bw, od_bw, .none, kV_bw, dc_bw, pm_bw, an_bw, cd_bw, ct_bw, sl_bw, rfl, l_bw, c_bw⟩
  have b_bw := F_bw.binds rfl (ps := ["self", "what"]) fun _ _ _ _ _ _ us hl => match us, hl with | [_, _], _ => rfl
  have F_bt : C8.Fun K "__init__" "BadThing.__init__" (inClass (top 3) 0) f_bt (PySem.W.fnOf "__init__" "BadThing.__init__" (C8.fnArgs (inClass (top 3) 0)) (C8.fnBody (inClass (top 3) 0)) (C8.fnScope (inClass (top 3) 0)) .none kV_bt dc_bt pm_bt an_bt cd_bt ct_bt) := ⟨oc_bt, od_bt, .none, kV_bt, dc_bt, pm_bt, an_bt, cd_bt, ct_bt, sl_bt, rfl, l_bt, c_bt⟩
  have b_bt := F_bt.binds rfl (ps := ["self"]) fun _ _ _ _ _ _ us hl => match us, hl with | [_], _ => rfl
  have F_bc : C8.Fun K "__init__" "BadClub.__init__" (inClass (top 4) 0) f_bc (PySem.W.fnOf "__init__" "BadClub.__init__" (C8.fnArgs (inClass (top 4) 0)) (C8.fnBody (inClass (top 4) 0)) (C8.fnScope (inClass (top 4) 0)) .none kV_bc dc_bc pm_bc an_bc cd_bc ct_bc) := ⟨oc_bc, od_bc, .none, kV_bc, dc_bc, pm_bc, an_bc, cd_bc, ct_bc, sl_bc, rfl, l_bc, c_bc⟩
  have b_bc := F_bc.binds rfl (ps := ["self"]) fun _ _ _ _ _ _ us hl => match us, hl with | [_], _ => rfl
  have hC : Cls K C := ⟨w1, w2, w3, w4⟩
  have T : WebTxt K mg C := ⟨hC, w5, w6, w7, PySem.W.mg_of X G g_C⟩
  have M : Mk K C f_init := ⟨w8, a_init, i_init, w9⟩
  have IC : C8.InsC K C := ⟨hC, w10, w11, w12, w13, kit_self⟩
  have PO : PropOf K C "spare" pS f_spare := ⟨p1, p2, p3, rS, p4⟩
  have gD := PySem.W.mg_of X G g_CD
  have BD : BaseTxt K CD := ⟨b1, b2, b3⟩
  have O_CB : OexC K CB := ⟨⟨nm_CB, q_CB, N_CB, bs_CB, bm_CB, sn_CB, sub_CB, ab_CB, col_CB, dd_CB, k0_CB, k1_CB, k2_CB, k3_CB, k5_CB, o1_CB, o2_CB⟩, o3_CB, o4_CB, o5_CB, o6_CB⟩
  have O_CT : OexC K CT := ⟨⟨nm_CT, q_CT, N_CT, bs_CT, bm_CT, sn_CT, sub_CT, ab_CT, col_CT, dd_CT, k0_CT, k1_CT, k2_CT, k3_CT, k5_CT, o1_CT, o2_CT⟩, o3_CT, o4_CT, o5_CT, o6_CT⟩
  have O_CC : OexC K CC := ⟨⟨nm_CC, q_CC, N_CC, bs_CC, bm_CC, sn_CC, sub_CC, ab_CC, col_CC, dd_CC, k0_CC, k1_CC, k2_CC, k3_CC, k5_CC, o1_CC, o2_CC⟩, o3_CC, o4_CC, o5_CC, o6_CC⟩
  have e_CB := exm_mk o4_CB e1_CB o5_CB e2_CB
  have e_CT := exm_mk o4_CT e1_CT o5_CT e2_CT
  have e_CC := exm_mk o4_CC e1_CC o5_CC e2_CC
  have gB := PySem.W.mg_of X G g_CB
  have gT := PySem.W.mg_of X G g_CT
  have gC := PySem.W.mg_of X G g_CC
  have BT : BadTxt K mg CB CD := ⟨gB, gD, ⟨x2, x3, o4_CB, x4⟩, x1, ⟨x2, x3, o4_CB, x4, x5, w11, w12, x6⟩, e_CB, kit_up x7 x9 x10, kit_base (by decide +kernel) x8⟩
  refine ⟨PySem.W.fnOf "law" "law" (C8.fnArgs (top 33)) (C8.fnBody (top 33)) (C8.fnScope (top 33)) .none kV_law dc_law pm_law an_law cd_law ct_law, fun s v => .of_eq rfl, fun base _ _ => ?_⟩
  have EW : ExcW l.prog w K mg base "BadWeb" CB := ⟨O_CB, x1, gB, f_bw, _, a_bw, i_bw, ok_BW F_bw gD BD, b_bw⟩
  have ET : Exc0 l.prog w K mg base "BadThing" CT := ⟨O_CT, gT, f_bt, _, a_bt, i_bt, ok_BT F_bt gD BD, b_bt⟩
  have EC : Exc0 l.prog w K mg base "BadClub" CC := ⟨O_CC, gC, f_bc, _, a_bc, i_bc, ok_BC F_bc gD BD, b_bc⟩
  have cW1 := ok_isWhole (P := l.prog) (w := w) (base := base) B D_whole1 b_whole1
  have cSq := ok_isSeq (P := l.prog) (w := w) (base := base) B D_seq b_seq
  have cCp := ok_isCouple B D_couple b_couple cSq
  have cN := ok_count (P := l.prog) (w := w) (base := base) B D_count b_count
  have FI := ok_init B F_init T EW cW1 cSq cCp cN
  have xT := ok_checkT D_ckT b_ckT T ET cW1
  have xC := ok_checkC D_ckC b_ckC T EC cW1
  have xCl := ok_clubsOf B D_clOf b_clOf T xT
  have xTh := ok_thingsOf B D_thOf b_thOf T xC
  have U : WebUse l.prog w K mg base C := ⟨⟨f_iter, _, a_iter, i_iter, ok_iter B F_iter T, b_iter⟩, ⟨pS, f_spare, _, PO, ok_spare B F_spare T, b_spare⟩, ⟨f_eq, _, a_eq, i_eq, ok_eq B F_eq T IC, b_eq⟩⟩
  have cH := ok_hand (P := l.prog) (w := w) (base := base) B D_hand b_hand
  have cSt := ok_stir (P := l.prog) (w := w) (base := base) B D_stir b_stir
  have cT := ok_take B D_take b_take cSt
  have cWh := ok_whole (P := l.prog) (w := w) (base := base) B D_whole b_whole
  have cZ := ok_size D_size b_size cT
  have cWb := ok_web B D_web b_web cZ cT
  have cMk := ok_marks (P := l.prog) (w := w) (base := base) B D_marks b_marks
  have cMx := ok_mixed B D_mixed b_mixed cT
  have cCo := ok_couples B D_couples b_couples cT
  have cSh := ok_shape B D_shape b_shape cT
  have cDu := ok_due B D_due b_due cWh cMk
  have cTo := ok_told B D_told b_told T BT M FI b_init
  have cSp := ok_spoilt B D_spoilt b_spoilt cT cCo cMx
  have cCh := ok_checks B D_checks b_checks xCl xT xTh xC
  have cOd := ok_odd B D_odd b_odd xCl xT xTh xC gT gC e_CT e_CC
  have cKp := ok_kept B D_kept b_kept T U cWh
  exact ok_law B F_law T M FI b_init U cH cWb cCo cMx cSh cKp cCh cOd cSp cTo cDu
theorem walk {l : PySem.W.OpenLaw} {q : Program} {loose : List Str} {XP : (Str → Option Value) → Heap → Prop} {YP : World → Heap → Prop} {d : DefRec} {K : Params → PySem.W.Frag} (hn : l.most = some 63) (hdf : d.params.defaults = [])
    (hY : ∀ (w : World) (h : Heap), YP w h → (K w.params).In h)
    (F : ∀ (w : World) (mg : Str → Option Value) (fa : Addr) (h : Heap), (K w.params).In h → h.Ns mainGlobals mg → mg d.name = some (.ref fa) →
      ∃ fd : FuncData, (∀ (s : Shared) (u : Value), BindsTo s fd ⟨[u], []⟩ [("_law_script", u)]) ∧ ∀ base : Heap, (K w.params).In base → base.Ns mainGlobals mg → FnOk l.prog w (K w.params) mg base C8.CX0 6 fa fd ["_law_script"] (spLaw (K w.params))) :
    PySem.W.WalkO q loose XP YP l.row.toRowW d [] (fun f vs => PySem.call f vs) :=
  L2.walk_of (n := 63) (k := 6) (x := "_law_script") (CX := fun _ => C8.CX0) (sp := fun w => spLaw (K w.params)) hn (by decide) hdf ⟨rfl, by decide, by decide⟩ hY F (fun _ _ a ns hl _ hS => ⟨a, ns, rfl, hS, hl, fun _ => rfl⟩) fun _ _ _ _ _ z => z
end L2.TD
open PySem PySem.W PyProof.Rows in
set_option maxRecDepth 100000 in
set_option maxHeartbeats 0 in
theorem PySem.Challenge.cw_treedeals_k00_whole_webs_kept_and_refuse_holds : PySem.Challenge.rw_treedeals_k00_whole_webs_kept_and_refuse.Holds := by
  w_on; o_law; k_head; (case hw => w_witness2)
  k_fill
  refine L2.TD.walk (l := PySem.Challenge.rw_treedeals_k00_whole_webs_kept_and_refuse) rfl rfl (fun w h Y => PySem.W.kIn_of Y) ?F
  case F =>
    intro w mg fa h KX G hmg
    refine' L2.TD.all_mk KX G hmg ?g_CD ?g_CB ?g_CT ?g_CC ?g_C ?a_whole1 ?l_whole1 ?c_whole1 ?t_W ?k_whole1 ?a_seq ?l_seq ?c_seq ?k_seq ?a_couple ?l_couple ?c_couple ?k_couple ?a_count ?l_count ?c_count ?k_count ?a_ckT ?l_ckT ?c_ckT ?k_ckT ?a_ckC ?l_ckC ?c_ckC ?k_ckC ?a_clOf ?l_clOf ?c_clOf ?k_clOf ?a_thOf ?l_thOf ?c_thOf ?k_thOf ?a_hand ?l_hand ?c_hand ?k_hand ?a_stir ?l_stir ?c_stir ?k_stir ?a_take ?l_take ?c_take ?k_take ?a_whole ?l_whole ?c_whole ?k_whole ?a_size ?l_size ?c_size ?k_size ?a_web ?l_web ?c_web ?k_web ?a_marks ?l_marks ?c_marks ?k_marks ?a_mixed ?l_mixed ?c_mixed ?k_mixed ?a_couples ?l_couples ?c_couples ?k_couples ?a_shape ?l_shape ?c_shape ?k_shape ?a_due ?l_due ?c_due ?k_due ?a_told ?l_told ?c_told ?k_told ?a_spoilt ?l_spoilt ?c_spoilt ?k_spoilt ?a_checks ?l_checks ?c_checks ?k_checks ?a_odd ?l_odd ?c_odd ?k_odd ?a_kept ?l_kept ?c_kept ?k_kept ?a_law ?l_law ?c_law ?k_law ?a_init ?i_init ?l_init ?c_init ?a_eq ?i_eq ?l_eq ?c_eq ?a_iter ?i_iter ?l_iter ?c_iter ?p1 ?p2 ?p3 ?p4 ?l_spare ?c_spare ?a_bw ?i_bw ?l_bw ?c_bw ?a_bt ?i_bt ?l_bt ?c_bt ?a_bc ?i_bc ?l_bc ?c_bc ?w1 ?w2 ?w3 ?w4 ?w5 ?w6 ?w7 ?w8 ?w9 ?w10 ?w11 ?w12 ?w13 ?b1 ?b2 ?b3 ?o1_CB ?o2_CB ?o3_CB ?o4_CB ?o5_CB ?o6_CB ?e1_CB ?e2_CB ?o1_CT ?o2_CT ?o3_CT ?o4_CT ?o5_CT ?o6_CT ?e1_CT ?e2_CT ?o1_CC ?o2_CC ?o3_CC ?o4_CC ?o5_CC ?o6_CC ?e1_CC ?e2_CC ?x1 ?x2 ?x3 ?x4 ?x5 ?x6 ?x7 ?x9 ?x10 ?x8 ?z_isinstance ?z_int ?z_bool ?z_list ?z_tuple ?z_len ?z_set ?z_sorted ?z_range ?z_iter ?z_abs ?z_ValueError
    (case g_CD => k_is)
    (case g_CB => k_is)
    (case g_CT => k_is)
    (case g_CC => k_is)
    (case g_C => k_is)
    (case a_whole1 => k_is)
    (case l_whole1 => k_is)
    (case c_whole1 => k_is)
    (case t_W => k_is)
    (case k_whole1 => k_is)
    (case a_seq => k_is)
    (case l_seq => k_is)
    (case c_seq => k_is)
    (case k_seq => k_is)
    (case a_couple => k_is)
    (case l_couple => k_is)
    (case c_couple => k_is)
    (case k_couple => k_is)
    (case a_count => k_is)
    (case l_count => k_is)
    (case c_count => k_is)
    (case k_count => k_is)
    (case a_ckT => k_is)
    (case l_ckT => k_is)
    (case c_ckT => k_is)
    (case k_ckT => k_is)
    (case a_ckC => k_is)
    (case l_ckC => k_is)
    (case c_ckC => k_is)
    (case k_ckC => k_is)
    (case a_clOf => k_is)
    (case l_clOf => k_is)
    (case c_clOf => k_is)
    (case k_clOf => k_is)
    (case a_thOf => k_is)
    (case l_thOf => k_is)
    (case c_thOf => k_is)
    (case k_thOf => k_is)
    (case a_hand => k_is)
    (case l_hand => k_is)
    (case c_hand => k_is)
    (case k_hand => k_is)
    (case a_stir => k_is)
    (case l_stir => k_is)
    (case c_stir => k_is)
    (case k_stir => k_is)
    (case a_take => k_is)
    (case l_take => k_is)
    (case c_take => k_is)
    (case k_take => k_is)
    (case a_whole => k_is)
    (case l_whole => k_is)
    (case c_whole => k_is)
    (case k_whole => k_is)
    (case a_size => k_is)
    (case l_size => k_is)
    (case c_size => k_is)
    (case k_size => k_is)
    (case a_web => k_is)
    (case l_web => k_is)
    (case c_web => k_is)
    (case k_web => k_is)
    (case a_marks => k_is)
    (case l_marks => k_is)
    (case c_marks => k_is)
    (case k_marks => k_is)
    (case a_mixed => k_is)
    (case l_mixed => k_is)
    (case c_mixed => k_is)
    (case k_mixed => k_is)
    (case a_couples => k_is)
    (case l_couples => k_is)
    (case c_couples => k_is)
    (case k_couples => k_is)
    (case a_shape => k_is)
    (case l_shape => k_is)
    (case c_shape => k_is)
    (case k_shape => k_is)
    (case a_due => k_is)
    (case l_due => k_is)
    (case c_due => k_is)
    (case k_due => k_is)
    (case a_told => k_is)
    (case l_told => k_is)
    (case c_told => k_is)
    (case k_told => k_is)
    (case a_spoilt => k_is)
    (case l_spoilt => k_is)
    (case c_spoilt => k_is)
    (case k_spoilt => k_is)
    (case a_checks => k_is)
    (case l_checks => k_is)
    (case c_checks => k_is)
    (case k_checks => k_is)
    (case a_odd => k_is)
    (case l_odd => k_is)
    (case c_odd => k_is)
    (case k_odd => k_is)
    (case a_kept => k_is)
    (case l_kept => k_is)
    (case c_kept => k_is)
    (case k_kept => k_is)
    (case a_law => k_is)
    (case l_law => k_is)
    (case c_law => k_is)
    (case k_law => k_is)
    (case a_init => k_is)
    (case i_init => k_is)
    (case l_init => k_is)
    (case c_init => k_is)
    (case a_eq => k_is)
    (case i_eq => k_is)
    (case l_eq => k_is)
    (case c_eq => k_is)
    (case a_iter => k_is)
    (case i_iter => k_is)
    (case l_iter => k_is)
    (case c_iter => k_is)
    (case p1 => k_is)
    (case p2 => k_is)
    (case p3 => k_is)
    (case p4 => k_is)
    (case l_spare => k_is)
    (case c_spare => k_is)
    (case a_bw => k_is)
    (case i_bw => k_is)
    (case l_bw => k_is)
    (case c_bw => k_is)
    (case a_bt => k_is)
    (case i_bt => k_is)
    (case l_bt => k_is)
    (case c_bt => k_is)
    (case a_bc => k_is)
    (case i_bc => k_is)
    (case l_bc => k_is)
    (case c_bc => k_is)
    (case w1 => k_is)
    (case w2 => k_is)
    (case w3 => k_is)
    (case w4 => k_is)
    (case w5 => k_is)
    (case w6 => k_is)
    (case w7 => k_is)
    (case w8 => k_is)
    (case w9 => k_is)
    (case w10 => k_is)
    (case w11 => k_is)
    (case w12 => k_is)
    (case w13 => k_is)
    (case b1 => k_is)
    (case b2 => k_is)
    (case b3 => k_is)
    (case o1_CB => k_is)
    (case o2_CB => decide +kernel)
    (case o3_CB => k_is)
    (case o4_CB => k_is)
    (case o5_CB => k_is)
    (case o6_CB => k_is)
    (case e1_CB => k_is)
    (case e2_CB => k_is)
    (case o1_CT => k_is)
    (case o2_CT => decide +kernel)
    (case o3_CT => k_is)
    (case o4_CT => k_is)
    (case o5_CT => k_is)
    (case o6_CT => k_is)
    (case e1_CT => k_is)
    (case e2_CT => k_is)
    (case o1_CC => k_is)
    (case o2_CC => decide +kernel)
    (case o3_CC => k_is)
    (case o4_CC => k_is)
    (case o5_CC => k_is)
    (case o6_CC => k_is)
    (case e1_CC => k_is)
    (case e2_CC => k_is)
    (case x1 => k_is)
    (case x2 => k_is)
    (case x3 => k_is)
    (case x4 => k_is)
    (case x5 => k_is)
    (case x6 => k_is)
    (case x7 => k_is)
    (case x9 => k_is)
    (case x10 => k_is)
    (case x8 => k_is)
    (case z_isinstance => k_is)
    (case z_int => k_is)
    (case z_bool => k_is)
    (case z_list => k_is)
    (case z_tuple => k_is)
    (case z_len => k_is)
    (case z_set => k_is)
    (case z_sorted => k_is)
    (case z_range => k_is)
    (case z_iter => k_is)
    (case z_abs => k_is)
    (case z_ValueError => k_is)
