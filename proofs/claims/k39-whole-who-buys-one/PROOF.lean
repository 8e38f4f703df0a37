import PyProof.Rows.All
import Wide.All
import OpenK.AllK
import Wide.FinOn
import KE.KStateDown
import HandS.ForMost
import HandS.Head0
import HandS.Head1
import HandS.Head2
import HandS.HeadEnd
import HandS.HeadHook1
import HandS.HeadHook2
import HandS.HeadHook3
import HandS.HeadHook4
import HandS.HeadWalk
import HandS.Defaults
import KE.GoesMore
import KE.GoesEnum
import KE.KDictZip
import HandS.TupAny
import KE.SortKeyHeap
import HandS.Lambda
import HandS.SortKw
import HandS.Strs
import HandS.SetFor
import HandS.Style
import HandS.Deep
import KE.KIndexOf
import KE.SortData
import HandS.Flt
import HandS.SortInts
import HandS.Conv
import HandS.More
import HandS.FltList
import PySem.Challenge.RW_nochaingains_k39_whole_who_buys_one_need
set_option Elab.async false
set_option linter.all false
set_option maxRecDepth 100000
set_option maxHeartbeats 4000000
namespace K39

abbrev CS := Nat → Bool

/-- for one house: its buys (B) grow, its sells (C) shrink -/
def Le (B C : Nat → Prop) (Y Z : CS) : Prop :=
  (∀ c, B c → Y c = true → Z c = true) ∧ (∀ c, C c → Z c = true → Y c = true)

/-- a choice told by its buys and its sells; it holds together and is steady -/
structure Good (B C : Nat → Prop) (b s : CS → List Nat) : Prop where
  bsub : ∀ Y c, c ∈ b Y → Y c = true ∧ B c
  ssub : ∀ Y c, c ∈ s Y → Y c = true ∧ C c
  bnd : ∀ Y, (b Y).Nodup
  snd : ∀ Y, (s Y).Nodup
  monob : ∀ Y Z, Le B C Y Z → ∀ c, B c → Y c = true → c ∈ b Z → c ∈ b Y
  monos : ∀ Y Z, Le B C Y Z → ∀ c, C c → Z c = true → c ∈ s Y → c ∈ s Z
  steady : ∀ Y Z, Le B C Y Z → (b Y).length + (s Z).length ≤ (b Z).length + (s Y).length

structure Mkt where
  n : Nat
  m : Nat
  sl : Nat → Nat
  bu : Nat → Nat
  b : Nat → CS → List Nat
  s : Nat → CS → List Nat

def Mkt.off (M : Mkt) (h : Nat) (O A : CS) : CS :=
  fun c => decide (c < M.n) && ((M.bu c == h && O c) || (M.sl c == h && A c))
def Mkt.nO (M : Mkt) (O A : CS) : CS := fun c => !A c || (M.s (M.sl c) (M.off (M.sl c) O A)).contains c
def Mkt.nA (M : Mkt) (O A : CS) : CS := fun c => !O c || (M.b (M.bu c) (M.off (M.bu c) O A)).contains c

structure Mkt.Ok (M : Mkt) : Prop where
  sm : ∀ c, c < M.n → M.sl c < M.m
  bm : ∀ c, c < M.n → M.bu c < M.m
  ne : ∀ c, c < M.n → M.sl c ≠ M.bu c
  good : ∀ h, h < M.m → Good (fun c => c < M.n ∧ M.bu c = h) (fun c => c < M.n ∧ M.sl c = h) (M.b h) (M.s h)

def Mkt.Settled (M : Mkt) (O A : CS) : Prop := ∀ c, c < M.n → O c = M.nO O A c ∧ A c = M.nA O A c
def StLe (n : Nat) (O A O' A' : CS) : Prop := ∀ c, c < n → (O c = true → O' c = true) ∧ (A' c = true → A c = true)
def Mkt.Greatest (M : Mkt) (O A : CS) : Prop := M.Settled O A ∧ ∀ O' A', M.Settled O' A' → StLe M.n O' A' O A

theorem off_buy {M : Mkt} (ok : M.Ok) {O A : CS} {c h : Nat} (hc : c < M.n) (e : M.bu c = h) : M.off h O A c = O c := by
  have h1 : M.sl c ≠ h := fun q => ok.ne c hc (q.trans e.symm)
  simp [Mkt.off, hc, e, h1]
theorem off_sell {M : Mkt} (ok : M.Ok) {O A : CS} {c h : Nat} (hc : c < M.n) (e : M.sl c = h) : M.off h O A c = A c := by
  have h1 : M.bu c ≠ h := fun q => ok.ne c hc (e.trans q.symm)
  simp [Mkt.off, hc, e, h1]

theorem off_le {M : Mkt} (ok : M.Ok) {O A O' A' : CS} (l : StLe M.n O A O' A') (h : Nat) :
    Le (fun c => c < M.n ∧ M.bu c = h) (fun c => c < M.n ∧ M.sl c = h) (M.off h O A) (M.off h O' A') := by
  refine ⟨fun c hc y => ?_, fun c hc y => ?_⟩
  · rw [off_buy ok hc.1 hc.2] at y ⊢
    exact (l c hc.1).1 y
  · rw [off_sell ok hc.1 hc.2] at y ⊢
    exact (l c hc.1).2 y

theorem next_mono {M : Mkt} (ok : M.Ok) {O A O' A' : CS} (l : StLe M.n O A O' A') :
    StLe M.n (M.nO O A) (M.nA O A) (M.nO O' A') (M.nA O' A') := by
  intro c hc
  have g1 := ok.good _ (ok.sm c hc)
  have g2 := ok.good _ (ok.bm c hc)
  have lc := l c hc
  constructor
  · intro h
    simp only [Mkt.nO, Bool.or_eq_true, Bool.not_eq_true', List.contains_iff_mem] at h ⊢
    by_cases ha : A' c = true
    · refine .inr ?_
      rcases h with h | h
      · rw [lc.2 ha] at h; cases h
      · exact g1.monos _ _ (off_le ok l _) c ⟨hc, rfl⟩ (by rw [off_sell ok hc rfl]; exact ha) h
    · exact .inl (by simpa using ha)
  · intro h
    simp only [Mkt.nA, Bool.or_eq_true, Bool.not_eq_true', List.contains_iff_mem] at h ⊢
    by_cases ho : O c = true
    · refine .inr ?_
      rcases h with h | h
      · rw [lc.1 ho] at h; cases h
      · exact g2.monob _ _ (off_le ok l _) c ⟨hc, rfl⟩ (by rw [off_buy ok hc rfl]; exact ho) h
    · exact .inl (by simpa using ho)

theorem StLe.trans {n : Nat} {O A O' A' O2 A2 : CS} (h : StLe n O A O' A') (g : StLe n O' A' O2 A2) : StLe n O A O2 A2 :=
  fun c hc => ⟨fun x => (g c hc).1 ((h c hc).1 x), fun x => (h c hc).2 ((g c hc).2 x)⟩

/-- settled stands: below a stand, they stay below its next one -/
theorem settled_below {M : Mkt} (ok : M.Ok) {O A O' A' : CS} (s : M.Settled O' A') (l : StLe M.n O' A' O A) : StLe M.n O' A' (M.nO O A) (M.nA O A) := by
  intro c hc
  have q := next_mono ok l c hc
  have e := s c hc
  exact ⟨fun x => q.1 (e.1 ▸ x), fun x => by rw [e.2]; exact q.2 x⟩

/-! ### who is met: the numbers are the same -/
theorem countP_split (l : List Nat) (g : Nat → Nat) (p : Nat → Bool) (m : Nat) (hg : ∀ c ∈ l, g c < m) :
    ((List.range m).map fun h => l.countP fun c => g c == h && p c).sum = l.countP p := by
  induction l with
  | nil =>
    simp only [List.countP_nil]
    induction m with
    | zero => rfl
    | succ k ih => rw [List.range_succ, List.map_append, List.sum_append, ih (fun c hc => by cases hc)]; rfl
  | cons a l ih =>
    have ih' := ih fun c hc => hg c (List.mem_cons_of_mem _ hc)
    have ha := hg a List.mem_cons_self
    have e : ∀ k, ((List.range k).map fun h => (a :: l).countP fun c => g c == h && p c).sum =
        ((List.range k).map fun h => l.countP fun c => g c == h && p c).sum + if g a < k ∧ p a = true then 1 else 0 := by
      intro k
      induction k with
      | zero => simp
      | succ k ihk =>
        rw [List.range_succ, List.map_append, List.sum_append, List.map_append, List.sum_append, ihk]
        simp only [List.map_cons, List.map_nil, List.sum_cons, List.sum_nil, List.countP_cons, Bool.and_eq_true, beq_iff_eq]
        by_cases hp : p a = true
        · by_cases h1 : g a < k
          · have h2 : g a < k + 1 := by omega
            have h3 : g a ≠ k := by omega
            simp [h1, h2, h3, hp]; omega
          · by_cases h3 : g a = k
            · have h2 : g a < k + 1 := by omega
              simp [h1, h2, h3, hp]; omega
            · have h2 : ¬ g a < k + 1 := by omega
              simp [h1, h2, h3, hp]
        · simp [hp]
    rw [e, ih', List.countP_cons]
    by_cases hp : p a = true
    · simp [ha, hp]
    · simp [hp]

theorem length_of_same {l1 l2 : List Nat} (h1 : l1.Nodup) (h2 : l2.Nodup) (h : ∀ c, c ∈ l1 ↔ c ∈ l2) : l1.length = l2.length :=
  ((List.perm_ext_iff_of_nodup h1 h2).mpr h).length_eq

theorem sum_le_eq (f g : Nat → Nat) (m : Nat) (h : ∀ k, k < m → f k ≤ g k) :
    ((List.range m).map f).sum ≤ ((List.range m).map g).sum ∧ (((List.range m).map f).sum = ((List.range m).map g).sum → ∀ k, k < m → f k = g k) := by
  induction m with
  | zero => exact ⟨Nat.le_refl _, fun _ k hk => absurd hk (Nat.not_lt_zero k)⟩
  | succ m ih =>
    have q := ih fun k hk => h k (by omega)
    have z := h m (by omega)
    rw [List.range_succ, List.map_append, List.sum_append, List.map_append, List.sum_append]
    simp only [List.map_cons, List.map_nil, List.sum_cons, List.sum_nil]
    refine ⟨by omega, fun e k hk => ?_⟩
    by_cases hm : k = m
    · subst hm; omega
    · exact q.2 (by omega) k (by omega)
theorem sum_add (f g : Nat → Nat) (m : Nat) : ((List.range m).map fun k => f k + g k).sum = ((List.range m).map f).sum + ((List.range m).map g).sum := by
  induction m with
  | zero => rfl
  | succ m ih =>
    rw [List.range_succ, List.map_append, List.sum_append, ih]
    simp only [List.map_append, List.sum_append, List.map_cons, List.map_nil, List.sum_cons, List.sum_nil]
    omega

theorem settled_b {M : Mkt} (ok : M.Ok) {O A : CS} (st : M.Settled O A) {h c : Nat} (hh : h < M.m) :
    c ∈ M.b h (M.off h O A) ↔ c < M.n ∧ M.bu c = h ∧ O c = true ∧ A c = true := by
  have g := ok.good h hh
  constructor
  · intro hc
    obtain ⟨y, hn, e⟩ := g.bsub _ c hc
    rw [off_buy ok hn e] at y
    refine ⟨hn, e, y, ?_⟩
    rw [(st c hn).2]
    simp only [Mkt.nA, Bool.or_eq_true, List.contains_iff_mem]
    rw [e]
    exact .inr hc
  · rintro ⟨hn, e, ho, ha⟩
    rw [(st c hn).2] at ha
    simp only [Mkt.nA, Bool.or_eq_true, List.contains_iff_mem, ho, Bool.not_true, Bool.false_eq_true, false_or] at ha
    rw [e] at ha
    exact ha
theorem settled_s {M : Mkt} (ok : M.Ok) {O A : CS} (st : M.Settled O A) {h c : Nat} (hh : h < M.m) :
    c ∈ M.s h (M.off h O A) ↔ c < M.n ∧ M.sl c = h ∧ O c = true ∧ A c = true := by
  have g := ok.good h hh
  constructor
  · intro hc
    obtain ⟨y, hn, e⟩ := g.ssub _ c hc
    rw [off_sell ok hn e] at y
    refine ⟨hn, e, ?_, y⟩
    rw [(st c hn).1]
    simp only [Mkt.nO, Bool.or_eq_true, List.contains_iff_mem]
    rw [e]
    exact .inr hc
  · rintro ⟨hn, e, ho, ha⟩
    rw [(st c hn).1] at ho
    simp only [Mkt.nO, Bool.or_eq_true, List.contains_iff_mem, ha, Bool.not_true, Bool.false_eq_true, false_or] at ho
    rw [e] at ho
    exact ho

theorem nodup_filter_range (n : Nat) (p : Nat → Bool) : ((List.range n).filter p).Nodup := List.Pairwise.filter _ List.nodup_range
theorem sum_b {M : Mkt} (ok : M.Ok) {O A : CS} (st : M.Settled O A) : ((List.range M.m).map fun h => (M.b h (M.off h O A)).length).sum = (List.range M.n).countP fun c => O c && A c := by
  rw [← countP_split (List.range M.n) M.bu (fun c => O c && A c) M.m fun c hc => ok.bm c (List.mem_range.mp hc)]
  congr 1
  apply List.map_congr_left
  intro h hh
  have hm := List.mem_range.mp hh
  rw [List.countP_eq_length_filter]
  refine length_of_same ((ok.good h hm).bnd _) (nodup_filter_range _ _) fun c => ?_
  rw [settled_b ok st hm, List.mem_filter, List.mem_range]
  simp
theorem sum_s {M : Mkt} (ok : M.Ok) {O A : CS} (st : M.Settled O A) : ((List.range M.m).map fun h => (M.s h (M.off h O A)).length).sum = (List.range M.n).countP fun c => O c && A c := by
  rw [← countP_split (List.range M.n) M.sl (fun c => O c && A c) M.m fun c hc => ok.sm c (List.mem_range.mp hc)]
  congr 1
  apply List.map_congr_left
  intro h hh
  have hm := List.mem_range.mp hh
  rw [List.countP_eq_length_filter]
  refine length_of_same ((ok.good h hm).snd _) (nodup_filter_range _ _) fun c => ?_
  rw [settled_s ok st hm, List.mem_filter, List.mem_range]
  simp

/-- of two settled stands, one below the other: each house's balance is the same -/
theorem same_balance {M : Mkt} (ok : M.Ok) {O A O' A' : CS} (st : M.Settled O A) (st' : M.Settled O' A') (l : StLe M.n O' A' O A) {h : Nat} (hh : h < M.m) :
    (M.b h (M.off h O' A')).length + (M.s h (M.off h O A)).length = (M.b h (M.off h O A)).length + (M.s h (M.off h O' A')).length := by
  have q := sum_le_eq (fun h => (M.b h (M.off h O' A')).length + (M.s h (M.off h O A)).length) (fun h => (M.b h (M.off h O A)).length + (M.s h (M.off h O' A')).length) M.m
    fun k hk => (ok.good k hk).steady _ _ (off_le ok l k)
  refine q.2 ?_ h hh
  rw [sum_add (fun h => (M.b h (M.off h O' A')).length) fun h => (M.s h (M.off h O A)).length, sum_add (fun h => (M.b h (M.off h O A)).length) fun h => (M.s h (M.off h O' A')).length,
    sum_b ok st, sum_b ok st', sum_s ok st, sum_s ok st']
  omega

/-! ### the greatest settled stand -/
def size (n : Nat) (O A : CS) : Nat := (List.range n).countP O + (List.range n).countP fun c => !A c
theorem countP_lt {l : List Nat} {p q : Nat → Bool} (h : ∀ c ∈ l, p c = true → q c = true) {c : Nat} (hc : c ∈ l) (h1 : p c = false) (h2 : q c = true) : l.countP p < l.countP q := by
  induction l with
  | nil => cases hc
  | cons a l ih =>
    rw [List.countP_cons, List.countP_cons]
    have hle : l.countP p ≤ l.countP q := List.countP_mono_left fun x hx => h x (List.mem_cons_of_mem _ hx)
    rcases List.mem_cons.mp hc with e | e
    · subst e
      simp only [h1, h2, if_true, Bool.false_eq_true, if_false]; omega
    · have z := ih (fun x hx => h x (List.mem_cons_of_mem _ hx)) e
      have y := h a List.mem_cons_self
      by_cases hp : p a = true
      · simp only [hp, y hp, if_true]; omega
      · have : p a = false := by simpa using hp
        simp only [this, Bool.false_eq_true, if_false]; split <;> omega
theorem size_lt {n : Nat} {O A O' A' : CS} (l : StLe n O' A' O A) {c : Nat} (hc : c < n) (ne : O' c ≠ O c ∨ A' c ≠ A c) : size n O' A' < size n O A := by
  have m := List.mem_range.mpr hc
  have h1 : ∀ c ∈ List.range n, O' c = true → O c = true := fun c h => (l c (List.mem_range.mp h)).1
  have h2 : ∀ c ∈ List.range n, (!A' c) = true → (!A c) = true := fun c h q => by
    have z := (l c (List.mem_range.mp h)).2
    cases ha : A c with
    | false => rfl
    | true => rw [z ha] at q; cases q
  have e1 := List.countP_mono_left h1
  have e2 := List.countP_mono_left h2
  unfold size
  rcases ne with ne | ne
  · have : (List.range n).countP O' < (List.range n).countP O := by
      refine countP_lt h1 m ?_ ?_
      · cases h : O' c with
        | false => rfl
        | true => exact absurd (h.trans ((l c hc).1 h).symm) ne
      · cases h : O c with
        | true => rfl
        | false =>
          cases h' : O' c with
          | false => exact absurd (h'.trans h.symm) ne
          | true => rw [(l c hc).1 h'] at h; cases h
    omega
  · have : (List.range n).countP (fun c => !A' c) < (List.range n).countP fun c => !A c := by
      have q := (l c hc).2
      refine countP_lt h2 m ?_ ?_
      · cases h : A' c with
        | true => rfl
        | false =>
          cases h' : A c with
          | false => exact absurd (h.trans h'.symm) ne
          | true => rw [q h'] at h; cases h
      · cases h : A c with
        | false => rfl
        | true => exact absurd ((q h).trans h.symm) ne
    omega

/-- what holds of the stand at each turn of the loop -/
structure Mkt.Down (M : Mkt) (O A : CS) : Prop where
  falls : StLe M.n (M.nO O A) (M.nA O A) O A
  above : ∀ O' A', M.Settled O' A' → StLe M.n O' A' O A
theorem down_top {M : Mkt} : M.Down (fun _ => true) (fun _ => false) :=
  ⟨fun _ _ => ⟨fun _ => rfl, fun h => by cases h⟩, fun _ _ _ _ _ => ⟨fun _ => rfl, fun h => by cases h⟩⟩
theorem down_next {M : Mkt} (ok : M.Ok) {O A : CS} (d : M.Down O A) : M.Down (M.nO O A) (M.nA O A) :=
  ⟨next_mono ok d.falls, fun O' A' s => settled_below ok s (d.above O' A' s)⟩
theorem down_end {M : Mkt} {O A : CS} (d : M.Down O A) (e : ∀ c, c < M.n → M.nO O A c = O c ∧ M.nA O A c = A c) : M.Greatest O A :=
  ⟨fun c hc => ⟨(e c hc).1.symm, (e c hc).2.symm⟩, d.above⟩
theorem has_greatest {M : Mkt} (ok : M.Ok) : ∃ O A, M.Greatest O A := by
  have go : ∀ k O A, size M.n O A ≤ k → M.Down O A → ∃ O A, M.Greatest O A := by
    intro k
    induction k with
    | zero =>
      intro O A hk d
      refine ⟨O, A, down_end d fun c hc => ?_⟩
      by_cases q : M.nO O A c = O c ∧ M.nA O A c = A c
      · exact q
      · have := size_lt d.falls hc (by by_cases z : M.nO O A c = O c; exact .inr fun y => q ⟨z, y⟩; exact .inl z)
        omega
    | succ k ih =>
      intro O A hk d
      by_cases h : ∀ c, c < M.n → M.nO O A c = O c ∧ M.nA O A c = A c
      · exact ⟨O, A, down_end d h⟩
      · obtain ⟨c, hc⟩ := Classical.not_forall.mp h
        obtain ⟨hc, q⟩ := Classical.not_imp.mp hc
        have := size_lt d.falls hc (by by_cases z : M.nO O A c = O c; exact .inr fun y => q ⟨z, y⟩; exact .inl z)
        exact ih _ _ (by omega) (down_next ok d)
  exact go _ _ _ (Nat.le_refl _) down_top

/-! ### one house that takes at most one contract -/
def pick (P : List Nat) (Y : CS) : List Nat := (P.filter Y).take 1
/-- the market in which the house d tells the list P -/
def Mkt.tells (M : Mkt) (d : Nat) (P : List Nat) : Mkt :=
  { M with b := fun h => if h = d then pick P else M.b h, s := fun h => if h = d then fun _ => [] else M.s h }
theorem pick_mem {P : List Nat} {Y : CS} {c : Nat} (h : c ∈ pick P Y) : c ∈ P ∧ Y c = true := List.mem_filter.mp (List.mem_of_mem_take h)
theorem pick_len (P : List Nat) (Y : CS) : (pick P Y).length ≤ 1 := by unfold pick; rw [List.length_take]; exact Nat.min_le_left _ _
theorem pick_cons_t {P : List Nat} {Y : CS} {c : Nat} (h : Y c = true) : pick (c :: P) Y = [c] := by unfold pick; rw [List.filter_cons_of_pos h]; rfl
theorem pick_cons_f {P : List Nat} {Y : CS} {c : Nat} (h : Y c = false) : pick (c :: P) Y = pick P Y := by unfold pick; rw [List.filter_cons_of_neg (by rw [h]; exact Bool.false_ne_true)]
theorem pick_nil (Y : CS) : pick [] Y = [] := rfl
theorem pick_none {P : List Nat} {Y : CS} : pick P Y = [] ↔ ∀ c ∈ P, Y c = false := by
  induction P with
  | nil => simp [pick_nil]
  | cons a P ih =>
    cases h : Y a with
    | true => rw [pick_cons_t h]; simp [h]
    | false => rw [pick_cons_f h, ih]; simp [h]
theorem pick_congr {P : List Nat} {Y Z : CS} (h : ∀ c ∈ P, Y c = Z c) : pick P Y = pick P Z := by
  unfold pick; rw [List.filter_congr h]
theorem pick_sub {P : List Nat} {Y Z : CS} (h : ∀ c ∈ P, Y c = true → Z c = true) {c : Nat} (hc : Y c = true) (hz : c ∈ pick P Z) : c ∈ pick P Y := by
  induction P with
  | nil => exact hz
  | cons a P ih =>
    have h' : ∀ c ∈ P, Y c = true → Z c = true := fun c m => h c (List.mem_cons_of_mem _ m)
    cases ha : Y a with
    | true =>
      rw [pick_cons_t (h a List.mem_cons_self ha)] at hz
      rw [pick_cons_t ha]; exact hz
    | false =>
      rw [pick_cons_f ha]
      cases hb : Z a with
      | true =>
        rw [pick_cons_t hb] at hz
        obtain rfl := List.mem_singleton.mp hz
        rw [ha] at hc; cases hc
      | false =>
        rw [pick_cons_f hb] at hz
        exact ih h' hz
theorem pick_grow {P : List Nat} {Y Z : CS} (h : ∀ c ∈ P, Y c = true → Z c = true) : (pick P Y).length ≤ (pick P Z).length := by
  by_cases e : pick P Z = []
  · have : pick P Y = [] := pick_none.mpr fun c hc => by
      have z := pick_none.mp e c hc
      cases hy : Y c with
      | false => rfl
      | true => rw [h c hc hy] at z; cases z
    rw [this]; exact Nat.zero_le _
  · have := pick_len P Y
    have : 0 < (pick P Z).length := List.length_pos_iff.mpr e
    omega
theorem good_pick {B C : Nat → Prop} {P : List Nat} (hP : ∀ c ∈ P, B c) : Good B C (pick P) (fun _ => []) where
  bsub := fun Y c h => ⟨(pick_mem h).2, hP c (pick_mem h).1⟩
  ssub := fun Y c h => by cases h
  bnd := fun Y => by
    have := pick_len P Y
    match h : pick P Y with
    | [] => exact List.nodup_nil
    | [a] => simp
    | a :: b :: r => rw [h] at this; simp at this
  snd := fun Y => List.nodup_nil
  monob := fun Y Z l c hB y h => pick_sub (fun c m => l.1 c (hP c m)) y h
  monos := fun Y Z l c hC z h => by cases h
  steady := fun Y Z l => pick_grow (fun c m => l.1 c (hP c m))

theorem tells_ok {M : Mkt} (ok : M.Ok) {d : Nat} {P : List Nat} (hP : ∀ c ∈ P, c < M.n ∧ M.bu c = d) : (M.tells d P).Ok where
  sm := ok.sm
  bm := ok.bm
  ne := ok.ne
  good := fun h hh => by
    by_cases e : h = d
    · subst e
      show Good _ _ ((M.tells h P).b h) ((M.tells h P).s h)
      have e1 : (M.tells h P).b h = pick P := by simp [Mkt.tells]
      have e2 : (M.tells h P).s h = fun _ => [] := by simp [Mkt.tells]
      rw [e1, e2]
      exact good_pick hP
    · have e1 : (M.tells d P).b h = M.b h := by simp [Mkt.tells, e]
      have e2 : (M.tells d P).s h = M.s h := by simp [Mkt.tells, e]
      rw [e1, e2]
      exact ok.good h hh
theorem tells_b {M : Mkt} {d : Nat} {P : List Nat} : (M.tells d P).b d = pick P := by simp [Mkt.tells]
theorem tells_s {M : Mkt} {d : Nat} {P : List Nat} : (M.tells d P).s d = fun _ => [] := by simp [Mkt.tells]
/-- another list of d at which d chooses the same: the stand stays settled -/
theorem settled_told {M : Mkt} {d : Nat} {P R : List Nat} {O A : CS} (hs : ∀ c, c < M.n → M.sl c ≠ d) (st : (M.tells d P).Settled O A) (e : pick P (M.off d O A) = pick R (M.off d O A)) : (M.tells d R).Settled O A := by
  intro c hc
  obtain ⟨h1, h2⟩ := st c hc
  have o1 : ∀ h, (M.tells d P).off h O A = M.off h O A := fun _ => rfl
  have o2 : ∀ h, (M.tells d R).off h O A = M.off h O A := fun _ => rfl
  constructor
  · rw [h1]
    have z := hs c hc
    show (!A c || ((if M.sl c = d then fun _ => [] else M.s (M.sl c)) (M.off (M.sl c) O A)).contains c) = (!A c || ((if M.sl c = d then fun _ => [] else M.s (M.sl c)) (M.off (M.sl c) O A)).contains c)
    rfl
  · rw [h2]
    show (!O c || ((if M.bu c = d then pick P else M.b (M.bu c)) (M.off (M.bu c) O A)).contains c) = (!O c || ((if M.bu c = d then pick R else M.b (M.bu c)) (M.off (M.bu c) O A)).contains c)
    by_cases q : M.bu c = d
    · rw [if_pos q, if_pos q, q, e]
    · rw [if_neg q, if_neg q]
theorem pick_single {Y : CS} {x : Nat} (h : Y x = true) : pick [x] Y = [x] := pick_cons_t h

/-- the law, in plain words -/
theorem need_not_lie {M : Mkt} (ok : M.Ok) {d : Nat} (hd : d < M.m) (hs : ∀ c, c < M.n → M.sl c ≠ d) {T L : List Nat} (hT : ∀ c ∈ T, c < M.n ∧ M.bu c = d) (hL : ∀ c ∈ L, c < M.n ∧ M.bu c = d)
    {O A O' A' : CS} (g : (M.tells d T).Greatest O A) (g' : (M.tells d L).Greatest O' A') :
    pick T (fun c => (decide (c < M.n) && M.bu c == d) && ((O c && A c) || (O' c && A' c))) = pick T (M.off d O A) := by
  have okT := tells_ok ok hT
  have okL := tells_ok ok hL
  have memT : ∀ c, (c ∈ pick T (M.off d O A) ↔ c < M.n ∧ M.bu c = d ∧ O c = true ∧ A c = true) := fun c => by
    have := settled_b okT g.1 (h := d) (c := c) hd
    rw [tells_b] at this
    exact this
  have memL : ∀ c, (c ∈ pick L (M.off d O' A') ↔ c < M.n ∧ M.bu c = d ∧ O' c = true ∧ A' c = true) := fun c => by
    have := settled_b okL g'.1 (h := d) (c := c) hd
    rw [tells_b] at this
    exact this
  have offd : ∀ c, c < M.n → M.bu c = d → ∀ O A, M.off d O A c = O c := fun c hc e O A => off_buy ok hc e
  -- what d has in the two networks
  let Z : CS := fun c => (decide (c < M.n) && M.bu c == d) && ((O c && A c) || (O' c && A' c))
  have hZ : ∀ c, Z c = true ↔ (c ∈ pick T (M.off d O A) ∨ c ∈ pick L (M.off d O' A')) := fun c => by
    rw [memT, memL]
    simp only [Z, Bool.and_eq_true, Bool.or_eq_true, decide_eq_true_eq, beq_iff_eq]
    constructor
    · rintro ⟨⟨h1, h2⟩, h3 | h3⟩
      · exact .inl ⟨h1, h2, h3.1, h3.2⟩
      · exact .inr ⟨h1, h2, h3.1, h3.2⟩
    · rintro (⟨h1, h2, h3, h4⟩ | ⟨h1, h2, h3, h4⟩)
      · exact ⟨⟨h1, h2⟩, .inl ⟨h3, h4⟩⟩
      · exact ⟨⟨h1, h2⟩, .inr ⟨h3, h4⟩⟩
  show pick T Z = pick T (M.off d O A)
  -- the key: if the lie brings x, wished by T, then the truth brings something at least as good
  have key : ∀ x T1 T2, T = T1 ++ x :: T2 → x ∈ pick L (M.off d O' A') → ∃ y ∈ T1 ++ [x], M.off d O A y = true := by
    intro x T1 T2 eT hx
    obtain ⟨hxn, hxd, hxO, hxA⟩ := (memL x).mp hx
    -- the lie [x] alone
    have hX : ∀ c ∈ [x], c < M.n ∧ M.bu c = d := fun c h => by obtain rfl := List.mem_singleton.mp h; exact ⟨hxn, hxd⟩
    have okX := tells_ok ok hX
    have eL : pick L (M.off d O' A') = [x] := by
      have := pick_len L (M.off d O' A')
      match h : pick L (M.off d O' A') with
      | [] => rw [h] at hx; cases hx
      | [a] => rw [h] at hx; rw [List.mem_singleton.mp hx]
      | a :: b :: r => rw [h] at this; simp at this
    have sX : (M.tells d [x]).Settled O' A' := settled_told hs g'.1 (by rw [eL, pick_single (by rw [offd x hxn hxd]; exact hxO)])
    -- the truth cut off behind x
    have hC : ∀ c ∈ T1 ++ [x], c < M.n ∧ M.bu c = d := fun c h => hT c (by rw [eT]; rcases List.mem_append.mp h with h | h; exact List.mem_append_left _ h; exact List.mem_append_right _ (by obtain rfl := List.mem_singleton.mp h; exact List.mem_cons_self))
    have okC := tells_ok ok hC
    obtain ⟨Oc, Ac, gc⟩ := has_greatest okC
    -- there d has something
    have some_ : ∃ y ∈ T1 ++ [x], M.off d Oc Ac y = true := by
      apply Classical.byContradiction
      intro no
      have none_ : ∀ c ∈ T1 ++ [x], M.off d Oc Ac c = false := fun c h => by
        cases q : M.off d Oc Ac c with
        | false => rfl
        | true => exact absurd ⟨c, h, q⟩ no
      have s2 : (M.tells d [x]).Settled Oc Ac := settled_told hs gc.1 (by
        rw [pick_none.mpr none_, pick_none.mpr fun c h => none_ c (List.mem_append_right _ h)])
      obtain ⟨Og, Ag, gg⟩ := has_greatest okX
      have b1 := same_balance okX gg.1 sX (gg.2 _ _ sX) (h := d) hd
      have b2 := same_balance okX gg.1 s2 (gg.2 _ _ s2) (h := d) hd
      rw [tells_b, tells_s] at b1 b2
      have z1 : (pick [x] ((M.tells d [x]).off d O' A')).length = 1 := by
        have : pick [x] (M.off d O' A') = [x] := pick_single (by rw [offd x hxn hxd]; exact hxO)
        show (pick [x] (M.off d O' A')).length = 1
        rw [this]; rfl
      have z2 : (pick [x] ((M.tells d [x]).off d Oc Ac)).length = 0 := by
        have : pick [x] (M.off d Oc Ac) = [] := pick_none.mpr fun c h => none_ c (List.mem_append_right _ h)
        show (pick [x] (M.off d Oc Ac)).length = 0
        rw [this]; rfl
      simp only [List.length_nil, Nat.add_zero] at b1 b2
      omega
    -- it is settled for the whole truth
    have eC : pick (T1 ++ [x]) (M.off d Oc Ac) = pick T (M.off d Oc Ac) := by
      rw [eT]
      obtain ⟨y, hy, q⟩ := some_
      have : (T1 ++ x :: T2) = (T1 ++ [x]) ++ T2 := by simp
      rw [this]
      unfold pick
      rw [List.filter_append (l₁ := T1 ++ [x])]
      have h0 : 0 < ((T1 ++ [x]).filter (M.off d Oc Ac)).length := List.length_pos_iff.mpr fun e => by
        have : y ∈ (T1 ++ [x]).filter (M.off d Oc Ac) := List.mem_filter.mpr ⟨hy, q⟩
        rw [e] at this; cases this
      rw [List.take_append_of_le_length h0]
    have sT : (M.tells d T).Settled Oc Ac := settled_told hs gc.1 eC
    have l := g.2 _ _ sT
    obtain ⟨y, hy, q⟩ := some_
    obtain ⟨yn, yd⟩ := hC y hy
    refine ⟨y, hy, ?_⟩
    rw [offd y yn yd] at q ⊢
    exact (l y yn).1 q
  -- so the choice out of both
  have keyZ : ∀ (P Q : List Nat), T = Q ++ P → (∀ c ∈ Q, M.off d O A c = false) → (∀ c ∈ Q, Z c = false) → pick P Z = pick P (M.off d O A) := by
    intro P
    induction P with
    | nil => intro Q _ _ _; rfl
    | cons a P ih =>
      intro Q eT q1 q2
      have skip : ∀ R : List Nat, ∀ Y : CS, (∀ c ∈ R, Y c = false) → ∀ S, pick (R ++ S) Y = pick S Y := by
        intro R Y hR S
        induction R with
        | nil => rfl
        | cons r R ih => rw [List.cons_append, pick_cons_f (hR r List.mem_cons_self), ih fun c m => hR c (List.mem_cons_of_mem _ m)]
      cases ho : M.off d O A a with
      | true =>
        have e1 : pick T (M.off d O A) = [a] := by rw [eT, skip Q _ q1, pick_cons_t ho]
        have e2 : Z a = true := (hZ a).mpr (.inl (by rw [e1]; exact List.mem_singleton.mpr rfl))
        rw [pick_cons_t ho, pick_cons_t e2]
      | false =>
        have e2 : Z a = false := by
          cases hz : Z a with
          | false => rfl
          | true =>
            exfalso
            rcases (hZ a).mp hz with h | h
            · rw [(pick_mem h).2] at ho; cases ho
            · obtain ⟨y, hy, q⟩ := key a Q P eT h
              rcases List.mem_append.mp hy with m | m
              · rw [q1 y m] at q; cases q
              · obtain rfl := List.mem_singleton.mp m
                rw [ho] at q; cases q
        rw [pick_cons_f ho, pick_cons_f e2]
        refine ih (Q ++ [a]) (by rw [eT]; simp) ?_ ?_
        · intro c hc
          rcases List.mem_append.mp hc with m | m
          · exact q1 c m
          · obtain rfl := List.mem_singleton.mp m; exact ho
        · intro c hc
          rcases List.mem_append.mp hc with m | m
          · exact q2 c m
          · obtain rfl := List.mem_singleton.mp m; exact e2
  exact keyZ T [] rfl (fun c h => by cases h) (fun c h => by cases h)

end K39

namespace K39

/-! ### one side of a choice -/
structure Side (B : Nat → Prop) (f : CS → List Nat) : Prop where
  sub : ∀ Y c, c ∈ f Y → Y c = true ∧ B c
  nd : ∀ Y, (f Y).Nodup
  mono : ∀ Y Z, (∀ c, B c → Y c = true → Z c = true) → ∀ c, B c → Y c = true → c ∈ f Z → c ∈ f Y
  grow : ∀ Y Z, (∀ c, B c → Y c = true → Z c = true) → (f Y).length ≤ (f Z).length
theorem good_sides {B C : Nat → Prop} {b s : CS → List Nat} (hb : Side B b) (hs : Side C s) : Good B C b s where
  bsub := hb.sub
  ssub := hs.sub
  bnd := hb.nd
  snd := hs.nd
  monob := fun Y Z l c h1 h2 h3 => hb.mono Y Z l.1 c h1 h2 h3
  monos := fun Y Z l c h1 h2 h3 => hs.mono Z Y l.2 c h1 h2 h3
  steady := fun Y Z l => Nat.add_le_add (hb.grow Y Z l.1) (hs.grow Z Y l.2)

/-! ### places in what is left of a list -/
theorem place_le {Y Z : CS} {c : Nat} : ∀ {L : List Nat} {j : Nat}, (∀ x ∈ L, Y x = true → Z x = true) → Y c = true → (L.filter Z)[j]? = some c → ∃ i, i ≤ j ∧ (L.filter Y)[i]? = some c
  | [], j, _, _, h => by simp at h
  | a :: L, j, hs, hy, h => by
    have hs' : ∀ x ∈ L, Y x = true → Z x = true := fun x m => hs x (List.mem_cons_of_mem _ m)
    cases hz : Z a with
    | true =>
      rw [List.filter_cons_of_pos hz] at h
      cases j with
      | zero =>
        have e : a = c := by simpa using h
        subst e
        exact ⟨0, Nat.le_refl _, by rw [List.filter_cons_of_pos hy]; rfl⟩
      | succ j =>
        obtain ⟨i, hi, q⟩ := place_le (L := L) (j := j) hs' hy (by simpa using h)
        cases ha : Y a with
        | true => exact ⟨i + 1, by omega, by rw [List.filter_cons_of_pos ha]; simpa using q⟩
        | false => exact ⟨i, by omega, by rw [List.filter_cons_of_neg (by rw [ha]; exact Bool.false_ne_true)]; exact q⟩
    | false =>
      rw [List.filter_cons_of_neg (by rw [hz]; exact Bool.false_ne_true)] at h
      have ha : Y a = false := by
        cases ha : Y a with
        | false => rfl
        | true => rw [hs a List.mem_cons_self ha] at hz; cases hz
      obtain ⟨i, hi, q⟩ := place_le (L := L) (j := j) hs' hy h
      exact ⟨i, hi, by rw [List.filter_cons_of_neg (by rw [ha]; exact Bool.false_ne_true)]; exact q⟩
theorem nth_le {R : Nat → Nat → Prop} (rr : ∀ x, R x x) {Y Z : CS} {x y : Nat} : ∀ {L : List Nat} {i j : Nat}, L.Pairwise R → (∀ x ∈ L, Z x = true → Y x = true) → i ≤ j → (L.filter Y)[i]? = some x → (L.filter Z)[j]? = some y → R x y
  | [], i, j, _, _, _, h, _ => by simp at h
  | a :: L, i, j, hp, hs, hij, h1, h2 => by
    have hs' : ∀ x ∈ L, Z x = true → Y x = true := fun x m => hs x (List.mem_cons_of_mem _ m)
    obtain ⟨ha, hp'⟩ := List.pairwise_cons.mp hp
    cases hy : Y a with
    | true =>
      rw [List.filter_cons_of_pos hy] at h1
      cases i with
      | zero =>
        have e : a = x := by simpa using h1
        subst e
        have m : y ∈ (a :: L).filter Z := List.mem_of_getElem? h2
        rcases List.mem_cons.mp (List.mem_filter.mp m).1 with e | m
        · subst e; exact rr _
        · exact ha y m
      | succ i =>
        have h1' : (L.filter Y)[i]? = some x := by simpa using h1
        cases hz : Z a with
        | true =>
          rw [List.filter_cons_of_pos hz] at h2
          cases j with
          | zero => omega
          | succ j =>
            have h2' : (L.filter Z)[j]? = some y := by simpa using h2
            exact nth_le rr hp' hs' (Nat.le_of_succ_le_succ hij) h1' h2'
        | false =>
          rw [List.filter_cons_of_neg (by rw [hz]; exact Bool.false_ne_true)] at h2
          exact nth_le rr hp' hs' (Nat.le_of_succ_le hij) h1' h2
    | false =>
      have hz : Z a = false := by
        cases hz : Z a with
        | false => rfl
        | true => rw [hs a List.mem_cons_self hz] at hy; cases hy
      rw [List.filter_cons_of_neg (by rw [hy]; exact Bool.false_ne_true)] at h1
      rw [List.filter_cons_of_neg (by rw [hz]; exact Bool.false_ne_true)] at h2
      exact nth_le rr hp' hs' hij h1 h2
theorem filter_len {Y Z : CS} {L : List Nat} (h : ∀ x ∈ L, Y x = true → Z x = true) : (L.filter Y).length ≤ (L.filter Z).length := by
  rw [← List.countP_eq_length_filter, ← List.countP_eq_length_filter]
  exact List.countP_mono_left h
theorem mem_take_iff {α : Type} {l : List α} {r : Nat} {c : α} : c ∈ l.take r ↔ ∃ j, j < r ∧ l[j]? = some c := by
  rw [List.mem_iff_getElem?]
  constructor
  · rintro ⟨j, h⟩
    rw [List.getElem?_take] at h
    split at h
    · exact ⟨j, by assumption, h⟩
    · cases h
  · rintro ⟨j, h1, h2⟩
    exact ⟨j, by rw [List.getElem?_take, if_pos h1]; exact h2⟩

/-! ### the first so many (houses of sides) -/
def first (r : Nat) (P : List Nat) (Y : CS) : List Nat := (P.filter Y).take r
theorem side_first {B : Nat → Prop} {P : List Nat} (r : Nat) (hP : ∀ c ∈ P, B c) (nd : P.Nodup) : Side B (first r P) where
  sub := fun Y c h => by
    obtain ⟨h1, h2⟩ := List.mem_filter.mp (List.mem_of_mem_take h)
    exact ⟨h2, hP c h1⟩
  nd := fun Y => ((List.take_sublist _ _).trans List.filter_sublist).nodup nd
  mono := fun Y Z l c hB hY h => by
    obtain ⟨j, hj, e⟩ := mem_take_iff.mp h
    obtain ⟨i, hi, q⟩ := place_le (fun x m => l x (hP x m)) hY e
    exact mem_take_iff.mpr ⟨i, by omega, q⟩
  grow := fun Y Z l => by
    have := filter_len (L := P) (fun x m => l x (hP x m))
    unfold first
    rw [List.length_take, List.length_take]
    omega

/-! ### pairs (makers, traders) -/
def pairsOf (room : Nat) (W : Nat → Nat → Bool) (Lb Ls : List Nat) (Y : CS) : List (Nat × Nat) :=
  (((Lb.filter Y).zip (Ls.filter Y)).filter fun p => W p.1 p.2).take room
theorem filter_prefix {α : Type} {p : α → Bool} : ∀ {l : List α}, l.Pairwise (fun x y => p y = true → p x = true) → ∀ {j : Nat} {c : α}, ((l.filter p)[j]? = some c ↔ l[j]? = some c ∧ p c = true)
  | [], _, j, c => by simp
  | a :: l, h, j, c => by
    obtain ⟨ha, h'⟩ := List.pairwise_cons.mp h
    cases hp : p a with
    | true =>
      rw [List.filter_cons_of_pos hp]
      cases j with
      | zero =>
        simp only [List.getElem?_cons_zero, Option.some.injEq]
        exact ⟨fun e => ⟨e, e ▸ hp⟩, fun e => e.1⟩
      | succ j => simpa using filter_prefix h' (j := j) (c := c)
    | false =>
      rw [List.filter_cons_of_neg (by rw [hp]; exact Bool.false_ne_true)]
      have none_ : l.filter p = [] := List.filter_eq_nil_iff.mpr fun x m q => by rw [ha x m q] at hp; cases hp
      rw [none_]
      constructor
      · intro e; simp at e
      · rintro ⟨e, q⟩
        exfalso
        cases j with
        | zero =>
          have : a = c := by simpa using e
          rw [this, q] at hp; cases hp
        | succ j => 
          have m : c ∈ l := List.mem_of_getElem? (by simpa using e)
          rw [ha c m q] at hp; cases hp
theorem getElem?_zip {l1 l2 : List Nat} {j : Nat} {x y : Nat} : (l1.zip l2)[j]? = some (x, y) ↔ l1[j]? = some x ∧ l2[j]? = some y := by
  rw [List.zip, List.getElem?_zipWith_eq_some]
  constructor
  · rintro ⟨a, b, h1, h2, e⟩
    cases e
    exact ⟨h1, h2⟩
  · rintro ⟨h1, h2⟩
    exact ⟨x, y, h1, h2, rfl⟩
theorem zip_pairwise {W : Nat → Nat → Bool} : ∀ {l1 l2 : List Nat}, l1.Pairwise (fun x x' => ∀ y, W x' y = true → W x y = true) → l2.Pairwise (fun y y' => ∀ x, W x y' = true → W x y = true) →
    (l1.zip l2).Pairwise fun p q => W q.1 q.2 = true → W p.1 p.2 = true
  | [], l2, _, _ => by simp
  | a :: l1, [], _, _ => by simp
  | a :: l1, b :: l2, h1, h2 => by
    obtain ⟨ha, h1'⟩ := List.pairwise_cons.mp h1
    obtain ⟨hb, h2'⟩ := List.pairwise_cons.mp h2
    rw [List.zip_cons_cons]
    refine List.pairwise_cons.mpr ⟨fun q m w => ?_, zip_pairwise h1' h2'⟩
    obtain ⟨q1, q2⟩ := q
    have m' := List.of_mem_zip m
    exact hb q2 m'.2 a (ha q1 m'.1 q2 w)
theorem map_fst_sub : ∀ (l1 l2 : List Nat), ((l1.zip l2).map (·.1)).Sublist l1
  | [], _ => by simp
  | a :: l1, [] => by simp
  | a :: l1, b :: l2 => by rw [List.zip_cons_cons]; exact (map_fst_sub l1 l2).cons_cons a
theorem map_snd_sub : ∀ (l1 l2 : List Nat), ((l1.zip l2).map (·.2)).Sublist l2
  | [], _ => by simp
  | a :: l1, [] => by simp
  | a :: l1, b :: l2 => by rw [List.zip_cons_cons]; exact (map_snd_sub l1 l2).cons_cons b
section
variable {B C : Nat → Prop} {Lb Ls : List Nat} {room : Nat} {W : Nat → Nat → Bool} {Y Z : CS}
theorem pairs_sub : (pairsOf room W Lb Ls Y).Sublist ((Lb.filter Y).zip (Ls.filter Y)) := (List.take_sublist _ _).trans List.filter_sublist
theorem mem_pairs (hb : Lb.Pairwise fun x x' => ∀ y, W x' y = true → W x y = true) (hs : Ls.Pairwise fun y y' => ∀ x, W x y' = true → W x y = true) {x y : Nat} :
    (x, y) ∈ pairsOf room W Lb Ls Y ↔ ∃ j, j < room ∧ (Lb.filter Y)[j]? = some x ∧ (Ls.filter Y)[j]? = some y ∧ W x y = true := by
  unfold pairsOf
  rw [mem_take_iff]
  have hp := zip_pairwise (hb.filter Y) (hs.filter Y)
  constructor
  · rintro ⟨j, hj, e⟩
    rw [filter_prefix hp, getElem?_zip] at e
    exact ⟨j, hj, e.1.1, e.1.2, e.2⟩
  · rintro ⟨j, hj, h1, h2, w⟩
    exact ⟨j, hj, by rw [filter_prefix hp, getElem?_zip]; exact ⟨⟨h1, h2⟩, w⟩⟩
theorem good_pairs (hb : Lb.Pairwise fun x x' => ∀ y, W x' y = true → W x y = true) (hs : Ls.Pairwise fun y y' => ∀ x, W x y' = true → W x y = true)
    (hB : ∀ c ∈ Lb, B c) (hC : ∀ c ∈ Ls, C c) (nb : Lb.Nodup) (ns : Ls.Nodup) :
    Good B C (fun Y => (pairsOf room W Lb Ls Y).map (·.1)) (fun Y => (pairsOf room W Lb Ls Y).map (·.2)) where
  bsub := fun Y c h => by
    have := ((pairs_sub.map _).trans (map_fst_sub _ _)).subset h
    obtain ⟨h1, h2⟩ := List.mem_filter.mp this
    exact ⟨h2, hB c h1⟩
  ssub := fun Y c h => by
    have := ((pairs_sub.map _).trans (map_snd_sub _ _)).subset h
    obtain ⟨h1, h2⟩ := List.mem_filter.mp this
    exact ⟨h2, hC c h1⟩
  bnd := fun Y => (((pairs_sub.map _).trans (map_fst_sub _ _)).trans List.filter_sublist).nodup nb
  snd := fun Y => (((pairs_sub.map _).trans (map_snd_sub _ _)).trans List.filter_sublist).nodup ns
  monob := fun Y Z l c h1 hY h => by
    obtain ⟨⟨x, y⟩, m, e⟩ := List.mem_map.mp h
    obtain rfl : x = c := e
    obtain ⟨j, hj, e1, e2, w⟩ := (mem_pairs hb hs).mp m
    obtain ⟨i, hi, q⟩ := place_le (fun x m => l.1 x (hB x m)) hY e1
    have hl := filter_len (L := Ls) (Y := Z) (Z := Y) (fun x m => l.2 x (hC x m))
    have hjl : j < (Ls.filter Z).length := (List.getElem?_eq_some_iff.mp e2).1
    have hil : i < (Ls.filter Y).length := by omega
    have q2 : (Ls.filter Y)[i]? = some (Ls.filter Y)[i] := List.getElem?_eq_getElem hil
    have r := nth_le (R := fun y y' => ∀ x, W x y' = true → W x y = true) (fun _ _ h => h) hs (fun x m => l.2 x (hC x m)) hi q2 e2
    exact List.mem_map.mpr ⟨(x, (Ls.filter Y)[i]), (mem_pairs hb hs).mpr ⟨i, by omega, q, q2, r x w⟩, rfl⟩
  monos := fun Y Z l c h1 hZ h => by
    obtain ⟨⟨x, y⟩, m, e⟩ := List.mem_map.mp h
    obtain rfl : y = c := e
    obtain ⟨j, hj, e1, e2, w⟩ := (mem_pairs hb hs).mp m
    obtain ⟨i, hi, q⟩ := place_le (fun x m => l.2 x (hC x m)) hZ e2
    have hl := filter_len (L := Lb) (Y := Y) (Z := Z) (fun x m => l.1 x (hB x m))
    have hjl : j < (Lb.filter Y).length := (List.getElem?_eq_some_iff.mp e1).1
    have hil : i < (Lb.filter Z).length := by omega
    have q2 : (Lb.filter Z)[i]? = some (Lb.filter Z)[i] := List.getElem?_eq_getElem hil
    have r := nth_le (R := fun x x' => ∀ y, W x' y = true → W x y = true) (fun _ _ h => h) hb (fun x m => l.1 x (hB x m)) hi q2 e1
    exact List.mem_map.mpr ⟨((Lb.filter Z)[i], y), (mem_pairs hb hs).mpr ⟨i, by omega, q2, q, r y w⟩, rfl⟩
  steady := fun Y Z l => by simp only [List.length_map]; omega
end

/-! ### caps -/
abbrev Group := List Nat × Nat
def canTake (gs : List Group) (found : List Nat) (c : Nat) : Bool := gs.all fun g => !g.1.contains c || decide ((g.1.filter found.contains).length < g.2)
def capped (gs : List Group) : List Nat → List Nat → List Nat
  | [], found => found
  | c :: l, found => if canTake gs found c = true then capped gs l (found ++ [c]) else capped gs l found
def Laminar (gs : List Group) : Prop := ∀ g ∈ gs, ∀ h ∈ gs, (∀ x, x ∈ g.1 → x ∈ h.1) ∨ (∀ x, x ∈ h.1 → x ∈ g.1) ∨ (∀ x, x ∈ g.1 → x ∉ h.1)

theorem canTake_iff {gs : List Group} {F : List Nat} {c : Nat} : canTake gs F c = true ↔ ∀ g ∈ gs, c ∈ g.1 → g.1.countP F.contains < g.2 := by
  unfold canTake
  rw [List.all_eq_true]
  constructor
  · intro h g m hc
    have := h g m
    simp only [Bool.or_eq_true, Bool.not_eq_true', decide_eq_true_eq, ← List.countP_eq_length_filter] at this
    rcases this with q | q
    · rw [List.contains_iff_mem.mpr hc] at q; cases q
    · exact q
  · intro h g m
    simp only [Bool.or_eq_true, Bool.not_eq_true', decide_eq_true_eq, ← List.countP_eq_length_filter]
    by_cases hc : c ∈ g.1
    · exact .inr (h g m hc)
    · exact .inl (by simpa using hc)
theorem capped_sub {gs : List Group} : ∀ {l F : List Nat} {c : Nat}, c ∈ capped gs l F → c ∈ l ∨ c ∈ F
  | [], F, c, h => .inr h
  | a :: l, F, c, h => by
    unfold capped at h
    split at h
    · rcases capped_sub h with h | h
      · exact .inl (List.mem_cons_of_mem _ h)
      · rcases List.mem_append.mp h with h | h
        · exact .inr h
        · exact .inl (by rw [List.mem_singleton.mp h]; exact List.mem_cons_self)
    · rcases capped_sub h with h | h
      · exact .inl (List.mem_cons_of_mem _ h)
      · exact .inr h
theorem capped_nodup {gs : List Group} : ∀ {l F : List Nat}, l.Nodup → F.Nodup → (∀ c ∈ l, c ∉ F) → (capped gs l F).Nodup
  | [], F, _, hF, _ => hF
  | a :: l, F, hl, hF, hd => by
    obtain ⟨ha, hl'⟩ := List.nodup_cons.mp hl
    unfold capped
    split
    · refine capped_nodup hl' ?_ ?_
      · rw [List.nodup_append]
        refine ⟨hF, by simp, fun x hx y hy e => ?_⟩
        obtain rfl := List.mem_singleton.mp hy
        subst e
        exact hd x List.mem_cons_self hx
      · intro c hc h
        rcases List.mem_append.mp h with h | h
        · exact hd c (List.mem_cons_of_mem _ hc) h
        · rw [List.mem_singleton.mp h] at hc; exact ha hc
    · exact capped_nodup hl' hF fun c hc => hd c (List.mem_cons_of_mem _ hc)
/-- how many of a group, with one more -/
theorem cnt_more {g F F' : List Nat} {z : Nat} (hg : g.Nodup) (hz : z ∉ F) (h : ∀ y, y ∈ F' ↔ y ∈ F ∨ y = z) : g.countP F'.contains = g.countP F.contains + if z ∈ g then 1 else 0 := by
  induction g with
  | nil => simp
  | cons a g ih =>
    obtain ⟨ha, hg'⟩ := List.nodup_cons.mp hg
    rw [List.countP_cons, List.countP_cons, ih hg']
    by_cases e : a = z
    · subst e
      have h1 : F'.contains a = true := List.contains_iff_mem.mpr ((h a).mpr (.inr rfl))
      have h2 : F.contains a = false := by simpa using hz
      rw [h1, h2, if_neg ha, if_pos List.mem_cons_self]
      simp
    · have h1 : F'.contains a = F.contains a := by
        rw [Bool.eq_iff_iff, List.contains_iff_mem, List.contains_iff_mem, h a]
        constructor
        · rintro (h | h)
          · exact h
          · exact absurd h e
        · exact .inl
      have h2 : (z ∈ a :: g) ↔ z ∈ g := by
        rw [List.mem_cons]
        constructor
        · rintro (h | h)
          · exact absurd h.symm e
          · exact h
        · exact .inr
      simp only [h1, h2]
      omega
/-- two runs: the second has z besides -/
inductive Near (gs : List Group) (z : Nat) (F F' : List Nat) : Prop
  | plus (h : ∀ y, y ∈ F' ↔ y ∈ F ∨ y = z) (hz : z ∉ F) (hl : F'.length = F.length + 1)
  | swap (x : Nat) (hx : x ∈ F) (hz : z ∉ F) (hx' : x ∉ F') (hz' : z ∈ F') (h : ∀ y, y ≠ x → y ≠ z → (y ∈ F' ↔ y ∈ F)) (hl : F'.length = F.length)
      (g : Group) (hg : g ∈ gs) (xg : x ∈ g.1) (zg : z ∈ g.1) (full : g.2 ≤ g.1.countP F.contains) (full' : g.2 ≤ g.1.countP F'.contains)
theorem Near.keep {gs : List Group} {z : Nat} {F F' : List Nat} (n : Near gs z F F') : F.length ≤ F'.length ∧ ∀ c, c ≠ z → c ∈ F' → c ∈ F := by
  cases n with
  | plus h hz hl => exact ⟨by omega, fun c hc m => ((h c).mp m).elim id fun e => absurd e hc⟩
  | swap x hx hz hx' hz' h hl g hg xg zg f f' =>
    refine ⟨by omega, fun c hc m => ?_⟩
    by_cases e : c = x
    · subst e; exact hx
    · exact (h c e hc).mp m
theorem countP_mono_mem {g F F' : List Nat} (h : ∀ y, y ∈ F → y ∈ F') : g.countP F.contains ≤ g.countP F'.contains :=
  List.countP_mono_left fun x _ q => List.contains_iff_mem.mpr (h x (List.contains_iff_mem.mp q))
theorem mem_app1 {F : List Nat} {c y : Nat} : y ∈ F ++ [c] ↔ y ∈ F ∨ y = c := by rw [List.mem_append, List.mem_singleton]
theorem near_run {gs : List Group} (lam : Laminar gs) (nd : ∀ g ∈ gs, g.1.Nodup) {z : Nat} : ∀ {l F F' : List Nat}, z ∉ l → l.Nodup → (∀ c ∈ l, c ∉ F ∧ c ∉ F') → Near gs z F F' → Near gs z (capped gs l F) (capped gs l F')
  | [], F, F', _, _, _, n => n
  | c :: l, F, F', hzl, hl, hd, n => by
    obtain ⟨hcl, hl'⟩ := List.nodup_cons.mp hl
    have hz' : z ∉ l := fun m => hzl (List.mem_cons_of_mem _ m)
    have cz : c ≠ z := fun e => hzl (by rw [e]; exact List.mem_cons_self)
    obtain ⟨cF, cF'⟩ := hd c List.mem_cons_self
    have hd0 : ∀ x ∈ l, x ∉ F ∧ x ∉ F' := fun x m => hd x (List.mem_cons_of_mem _ m)
    have xc : ∀ x ∈ l, x ≠ c := fun x m e => hcl (e ▸ m)
    have d1 : ∀ {G : List Nat} {x : Nat}, x ∈ l → x ∉ G → x ∉ G ++ [c] := fun {G x} m h q => (mem_app1.mp q).elim h (xc x m)
    unfold capped
    cases n with
    | plus h zF hl0 =>
      have sub : ∀ y, y ∈ F → y ∈ F' := fun y m => (h y).mpr (.inl m)
      by_cases t' : canTake gs F' c = true
      · have t : canTake gs F c = true := canTake_iff.mpr fun g m hc => Nat.lt_of_le_of_lt (countP_mono_mem sub) (canTake_iff.mp t' g m hc)
        rw [if_pos t, if_pos t']
        refine near_run lam nd hz' hl' (fun x m => ⟨d1 m (hd0 x m).1, d1 m (hd0 x m).2⟩) (.plus (fun y => ?_) ?_ ?_)
        · rw [mem_app1, mem_app1, h y]
          constructor
          · rintro ((a | a) | a)
            · exact .inl (.inl a)
            · exact .inr a
            · exact .inl (.inr a)
          · rintro ((a | a) | a)
            · exact .inl (.inl a)
            · exact .inr a
            · exact .inl (.inr a)
        · exact fun q => (mem_app1.mp q).elim zF fun e => cz e.symm
        · rw [List.length_append, List.length_append, hl0]
          simp only [List.length_cons, List.length_nil]
      · rw [if_neg t']
        by_cases t : canTake gs F c = true
        · rw [if_pos t]
          -- c is blocked by a group with z
          have : ∃ g ∈ gs, c ∈ g.1 ∧ g.2 ≤ g.1.countP F'.contains := by
            apply Classical.byContradiction
            intro no
            exact t' (canTake_iff.mpr fun g m hc => Nat.lt_of_not_le fun q => no ⟨g, m, hc, q⟩)
          obtain ⟨g, m, hc, q⟩ := this
          have q2 := canTake_iff.mp t g m hc
          have e := cnt_more (nd g m) zF h
          have zg : z ∈ g.1 := by
            apply Classical.byContradiction
            intro no
            rw [if_neg no] at e
            omega
          rw [if_pos zg] at e
          have e2 := cnt_more (F := F) (F' := F ++ [c]) (z := c) (nd g m) cF (fun y => mem_app1)
          rw [if_pos hc] at e2
          refine near_run lam nd hz' hl' (fun x m => ⟨d1 m (hd0 x m).1, (hd0 x m).2⟩) (.swap c (mem_app1.mpr (.inr rfl)) (fun q => (mem_app1.mp q).elim zF fun e => cz e.symm) cF' ((h z).mpr (.inr rfl)) (fun y yc yz => ?_) ?_ g m hc zg (by omega) q)
          · rw [h y, mem_app1]
            constructor
            · rintro (a | a)
              · exact .inl a
              · exact absurd a yz
            · rintro (a | a)
              · exact .inl a
              · exact absurd a yc
          · rw [List.length_append, hl0]; rfl
        · rw [if_neg t]
          exact near_run lam nd hz' hl' hd0 (.plus h zF hl0)
    | swap x xF zF xF' zF' h hl0 g hg xg zg full full' =>
      have cx : c ≠ x := fun e => cF (e ▸ xF)
      -- U: F with z, or F' with x
      have hU : ∀ y, y ∈ F ++ [z] ↔ y ∈ F' ++ [x] := fun y => by
        rw [mem_app1, mem_app1]
        by_cases e1 : y = x
        · subst e1; exact ⟨fun _ => .inr rfl, fun _ => .inl xF⟩
        · by_cases e2 : y = z
          · subst e2; exact ⟨fun _ => .inl zF', fun _ => .inr rfl⟩
          · rw [h y e1 e2]
            constructor
            · rintro (a | a)
              · exact .inl a
              · exact absurd a e2
            · rintro (a | a)
              · exact .inl a
              · exact absurd a e1
      have cnt : ∀ k ∈ gs, k.1.countP F.contains + (if z ∈ k.1 then 1 else 0) = k.1.countP F'.contains + if x ∈ k.1 then 1 else 0 := fun k m => by
        rw [← cnt_more (F' := F ++ [z]) (nd k m) zF (fun y => mem_app1), ← cnt_more (F' := F ++ [z]) (nd k m) xF' (fun y => (hU y).trans mem_app1)]
      by_cases hcg : c ∈ g.1
      · have t : ¬ canTake gs F c = true := fun q => by have := canTake_iff.mp q g hg hcg; omega
        have t' : ¬ canTake gs F' c = true := fun q => by have := canTake_iff.mp q g hg hcg; omega
        rw [if_neg t, if_neg t']
        exact near_run lam nd hz' hl' hd0 (.swap x xF zF xF' zF' h hl0 g hg xg zg full full')
      · have same : ∀ k ∈ gs, c ∈ k.1 → k.1.countP F.contains = k.1.countP F'.contains := fun k m hc => by
          have e := cnt k m
          rcases lam g hg k m with q | q | q
          · rw [if_pos (q z zg), if_pos (q x xg)] at e; omega
          · exact absurd (q c hc) hcg
          · rw [if_neg (q z zg), if_neg (q x xg)] at e; omega
        have tt : canTake gs F c = true ↔ canTake gs F' c = true := by
          rw [canTake_iff, canTake_iff]
          exact ⟨fun q k m hc => same k m hc ▸ q k m hc, fun q k m hc => (same k m hc).symm ▸ q k m hc⟩
        by_cases t : canTake gs F c = true
        · rw [if_pos t, if_pos (tt.mp t)]
          have up : ∀ {G : List Nat} (k : Group), k.1.countP G.contains ≤ k.1.countP (G ++ [c]).contains := fun k => countP_mono_mem fun y m => mem_app1.mpr (.inl m)
          refine near_run lam nd hz' hl' (fun x m => ⟨d1 m (hd0 x m).1, d1 m (hd0 x m).2⟩) (.swap x (mem_app1.mpr (.inl xF)) (fun q => (mem_app1.mp q).elim zF fun e => cz e.symm) (fun q => (mem_app1.mp q).elim xF' fun e => cx e.symm) (mem_app1.mpr (.inl zF'))
            (fun y y1 y2 => by rw [mem_app1, mem_app1, h y y1 y2]) ?_ g hg xg zg (Nat.le_trans full (up g)) (Nat.le_trans full' (up g)))
          rw [List.length_append, List.length_append, hl0]
        · rw [if_neg t, if_neg (fun q => t (tt.mpr q))]
          exact near_run lam nd hz' hl' hd0 (.swap x xF zF xF' zF' h hl0 g hg xg zg full full')
/-- one more is offered -/
theorem capped_step {gs : List Group} (lam : Laminar gs) (nd : ∀ g ∈ gs, g.1.Nodup) {z : Nat} {Y Z : CS} (hY : Y z = false) (hZ : ∀ c, Z c = (Y c || c == z)) :
    ∀ {l F : List Nat}, l.Nodup → (∀ c ∈ l, c ∉ F) →
      (capped gs (l.filter Z) F = capped gs (l.filter Y) F ∨ Near gs z (capped gs (l.filter Y) F) (capped gs (l.filter Z) F))
  | [], F, _, _ => .inl rfl
  | a :: l, F, hl, hd => by
    obtain ⟨hal, hl'⟩ := List.nodup_cons.mp hl
    have ndf : ∀ {p : CS}, (l.filter p).Nodup := fun {p} => hl'.filter _
    by_cases e : a = z
    · subst e
      have h1 : (a :: l).filter Y = l.filter Y := List.filter_cons_of_neg (by rw [hY]; exact Bool.false_ne_true)
      have h2 : (a :: l).filter Z = a :: l.filter Y := by
        rw [List.filter_cons_of_pos (by rw [hZ]; simp)]
        congr 1
        apply List.filter_congr
        intro c m
        have : c ≠ a := fun e => hal (e ▸ m)
        rw [hZ]; simp [this]
      rw [h1, h2]
      show capped gs (a :: l.filter Y) F = _ ∨ Near gs a _ (capped gs (a :: l.filter Y) F)
      have aF := hd a List.mem_cons_self
      by_cases t : canTake gs F a = true
      · have u : capped gs (a :: l.filter Y) F = capped gs (l.filter Y) (F ++ [a]) := by rw [capped, if_pos t]
        rw [u]
        refine .inr (near_run lam nd (fun m => hal (List.mem_filter.mp m).1) ndf (fun c m => ?_) (.plus (fun y => mem_app1) aF (by rw [List.length_append]; rfl)))
        have m' := (List.mem_filter.mp m).1
        refine ⟨hd c (List.mem_cons_of_mem _ m'), fun q => (mem_app1.mp q).elim (hd c (List.mem_cons_of_mem _ m')) fun e => hal (e ▸ m')⟩
      · have u : capped gs (a :: l.filter Y) F = capped gs (l.filter Y) F := by rw [capped, if_neg t]
        exact .inl u
    · have e2 : Z a = Y a := by rw [hZ]; simp [e]
      have hd' : ∀ c ∈ l, c ∉ F := fun c m => hd c (List.mem_cons_of_mem _ m)
      cases hy : Y a with
      | true =>
        rw [List.filter_cons_of_pos hy, List.filter_cons_of_pos (e2.trans hy)]
        unfold capped
        split
        · refine capped_step lam nd hY hZ hl' fun c m q => (mem_app1.mp q).elim (hd' c m) fun e => hal (e ▸ m)
        · exact capped_step lam nd hY hZ hl' hd'
      | false =>
        have n1 : ¬ Y a = true := by rw [hy]; exact Bool.false_ne_true
        have n2 : ¬ Z a = true := by rw [e2, hy]; exact Bool.false_ne_true
        rw [List.filter_cons_of_neg n1, List.filter_cons_of_neg n2]
        exact capped_step lam nd hY hZ hl' hd'
theorem capped_all {gs : List Group} (lam : Laminar gs) (nd : ∀ g ∈ gs, g.1.Nodup) {l : List Nat} (hl : l.Nodup) : ∀ (k : Nat) (Y Z : CS), l.countP (fun c => Z c && !Y c) ≤ k → (∀ c ∈ l, Y c = true → Z c = true) →
    (capped gs (l.filter Y) []).length ≤ (capped gs (l.filter Z) []).length ∧ ∀ c, Y c = true → c ∈ capped gs (l.filter Z) [] → c ∈ capped gs (l.filter Y) [] := by
  intro k
  induction k with
  | zero =>
    intro Y Z hk hs
    have e : l.filter Z = l.filter Y := List.filter_congr fun c m => by
      have h0 : l.countP (fun c => Z c && !Y c) = 0 := by omega
      have := List.countP_eq_zero.mp h0 c m
      cases hy : Y c with
      | true => rw [hs c m hy]
      | false =>
        cases hz : Z c with
        | false => rfl
        | true => rw [hy, hz] at this; simp at this
    rw [e]
    exact ⟨Nat.le_refl _, fun c _ h => h⟩
  | succ k ih =>
    intro Y Z hk hs
    by_cases h0 : ∃ z ∈ l, Z z = true ∧ Y z = false
    · obtain ⟨z, zl, zZ, zY⟩ := h0
      let Y' : CS := fun c => Y c || c == z
      have hY' : ∀ c, Y' c = (Y c || c == z) := fun _ => rfl
      have lt : l.countP (fun c => Z c && !Y' c) < l.countP (fun c => Z c && !Y c) := by
        refine countP_lt (c := z) (fun c m q => ?_) zl ?_ ?_
        · simp only [hY', Bool.and_eq_true, Bool.not_eq_true', Bool.or_eq_false_iff] at q ⊢
          exact ⟨q.1, q.2.1⟩
        · simp [hY']
        · simp [zZ, zY]
      obtain ⟨i1, i2⟩ := ih Y' Z (by omega) fun c m q => by
        simp only [hY', Bool.or_eq_true, beq_iff_eq] at q
        rcases q with q | q
        · exact hs c m q
        · rw [q]; exact zZ
      have st := capped_step lam nd zY hY' (l := l) (F := []) hl (fun c _ h => by cases h)
      rcases st with st | st
      · rw [st] at i1 i2
        exact ⟨i1, fun c hc h => i2 c (by simp [hY', hc]) h⟩
      · obtain ⟨k1, k2⟩ := st.keep
        refine ⟨by omega, fun c hc h => k2 c (fun e => ?_) (i2 c (by simp [hY', hc]) h)⟩
        rw [e, zY] at hc; cases hc
    · refine ih Y Z ?_ hs
      have : l.countP (fun c => Z c && !Y c) = 0 := List.countP_eq_zero.mpr fun c m q => by
        simp only [Bool.and_eq_true, Bool.not_eq_true'] at q
        exact h0 ⟨c, m, q.1, q.2⟩
      omega
theorem side_capped {B : Nat → Prop} {gs : List Group} {P : List Nat} (lam : Laminar gs) (nd : ∀ g ∈ gs, g.1.Nodup) (hP : ∀ c ∈ P, B c) (hn : P.Nodup) : Side B (fun Y => capped gs (P.filter Y) []) where
  sub := fun Y c h => by
    rcases capped_sub h with m | m
    · obtain ⟨h1, h2⟩ := List.mem_filter.mp m
      exact ⟨h2, hP c h1⟩
    · cases m
  nd := fun Y => capped_nodup (hn.filter _) List.nodup_nil fun c _ h => by cases h
  mono := fun Y Z l c hB hY h => (capped_all lam nd hn _ Y Z (Nat.le_refl _) fun c m => l c (hP c m)).2 c hY h
  grow := fun Y Z l => (capped_all lam nd hn _ Y Z (Nat.le_refl _) fun c m => l c (hP c m)).1
end K39

namespace K39

/-! ### the kinds of choices -/
inductive PCh
  | maker (room : Nat) (ups downs : List Nat)
  | sides (r1 : Nat) (ups : List Nat) (r2 : Nat) (downs : List Nat)
  | table (rows : List (List Nat))
  | trader (room : Nat) (cost : Int) (ups downs : List Nat)
  | caps (ups : List Nat) (ug : List Group) (downs : List Nat) (dg : List Group)
inductive Ch
  | plain (p : PCh)
  | split (ps : List PCh)

def leN (x y : Nat) : Bool := decide (x ≤ y)
def srt (l : List Nat) : List Nat := l.mergeSort leN
/-- the cheapest first; the dearest first -/
def leB (price : Nat → Int) (x y : Nat) : Bool := decide (price x < price y) || (price x == price y && decide (x ≤ y))
def leS (price : Nat → Int) (x y : Nat) : Bool := decide (price y < price x) || (price x == price y && decide (x ≤ y))
def worth (price : Nat → Int) (cost : Int) (x y : Nat) : Bool := decide (price x + cost < price y)
def tpairs (price : Nat → Int) (room : Nat) (cost : Int) (ups downs : List Nat) (Y : CS) : List (Nat × Nat) :=
  (((((ups.filter Y).mergeSort (leB price)).zip ((downs.filter Y).mergeSort (leS price))).filter fun p => worth price cost p.1 p.2)).take room
def flat2 (ps : List (Nat × Nat)) : List Nat := ps.flatMap fun p => [p.1, p.2]
def PCh.chosen (price : Nat → Int) : PCh → CS → List Nat
  | .maker room ups downs, Y => (ups.filter Y).take (min room (min (ups.filter Y).length (downs.filter Y).length)) ++ (downs.filter Y).take (min room (min (ups.filter Y).length (downs.filter Y).length))
  | .sides r1 ups r2 downs, Y => (ups.filter Y).take r1 ++ (downs.filter Y).take r2
  | .table rows, Y => (rows.find? fun r => r.all Y).getD []
  | .trader room cost ups downs, Y => flat2 (tpairs price room cost ups downs Y)
  | .caps ups ug downs dg, Y => capped ug (ups.filter Y) [] ++ capped dg (downs.filter Y) []
def Ch.chosen (price : Nat → Int) : Ch → CS → List Nat
  | .plain p, Y => p.chosen price Y
  | .split ps, Y => ps.flatMap fun p => p.chosen price Y

/-! ### good choices -/
def GoodP (price : Nat → Int) (B C : Nat → Prop) (p : PCh) : Prop := ∃ b s, Good B C b s ∧ ∀ Y, (p.chosen price Y).Perm (b Y ++ s Y)
def GoodPs (price : Nat → Int) (B C : Nat → Prop) (ps : List PCh) : Prop := ∃ b s, Good B C b s ∧ ∀ Y, (ps.flatMap fun p => p.chosen price Y).Perm (b Y ++ s Y)
def GoodCh (price : Nat → Int) (B C : Nat → Prop) (ch : Ch) : Prop := ∃ b s, Good B C b s ∧ ∀ Y, (ch.chosen price Y).Perm (b Y ++ s Y)

theorem Good.wide {B C B' C' : Nat → Prop} {b s : CS → List Nat} (g : Good B C b s) (hB : ∀ c, B c → B' c) (hC : ∀ c, C c → C' c) : Good B' C' b s := by
  have le : ∀ {Y Z}, Le B' C' Y Z → Le B C Y Z := fun l => ⟨fun c h => l.1 c (hB c h), fun c h => l.2 c (hC c h)⟩
  exact ⟨fun Y c h => ⟨(g.bsub Y c h).1, hB c (g.bsub Y c h).2⟩, fun Y c h => ⟨(g.ssub Y c h).1, hC c (g.ssub Y c h).2⟩, g.bnd, g.snd,
    fun Y Z l c _ y h => g.monob Y Z (le l) c (g.bsub Z c h).2 y h, fun Y Z l c _ z h => g.monos Y Z (le l) c (g.ssub Y c h).2 z h, fun Y Z l => g.steady Y Z (le l)⟩
theorem Good.join {B1 C1 B2 C2 : Nat → Prop} {b1 s1 b2 s2 : CS → List Nat} (g1 : Good B1 C1 b1 s1) (g2 : Good B2 C2 b2 s2) (dB : ∀ c, B1 c → ¬ B2 c) (dC : ∀ c, C1 c → ¬ C2 c) :
    Good (fun c => B1 c ∨ B2 c) (fun c => C1 c ∨ C2 c) (fun Y => b1 Y ++ b2 Y) (fun Y => s1 Y ++ s2 Y) := by
  have le1 : ∀ {Y Z}, Le (fun c => B1 c ∨ B2 c) (fun c => C1 c ∨ C2 c) Y Z → Le B1 C1 Y Z := fun l => ⟨fun c h => l.1 c (.inl h), fun c h => l.2 c (.inl h)⟩
  have le2 : ∀ {Y Z}, Le (fun c => B1 c ∨ B2 c) (fun c => C1 c ∨ C2 c) Y Z → Le B2 C2 Y Z := fun l => ⟨fun c h => l.1 c (.inr h), fun c h => l.2 c (.inr h)⟩
  refine ⟨fun Y c h => ?_, fun Y c h => ?_, fun Y => ?_, fun Y => ?_, fun Y Z l c _ y h => ?_, fun Y Z l c _ z h => ?_, fun Y Z l => ?_⟩
  · rcases List.mem_append.mp h with h | h
    · exact ⟨(g1.bsub Y c h).1, .inl (g1.bsub Y c h).2⟩
    · exact ⟨(g2.bsub Y c h).1, .inr (g2.bsub Y c h).2⟩
  · rcases List.mem_append.mp h with h | h
    · exact ⟨(g1.ssub Y c h).1, .inl (g1.ssub Y c h).2⟩
    · exact ⟨(g2.ssub Y c h).1, .inr (g2.ssub Y c h).2⟩
  · exact List.nodup_append.mpr ⟨g1.bnd Y, g2.bnd Y, fun x hx y hy e => dB x (g1.bsub Y x hx).2 (e ▸ (g2.bsub Y y hy).2)⟩
  · exact List.nodup_append.mpr ⟨g1.snd Y, g2.snd Y, fun x hx y hy e => dC x (g1.ssub Y x hx).2 (e ▸ (g2.ssub Y y hy).2)⟩
  · rcases List.mem_append.mp h with h | h
    · exact List.mem_append_left _ (g1.monob Y Z (le1 l) c (g1.bsub Z c h).2 y h)
    · exact List.mem_append_right _ (g2.monob Y Z (le2 l) c (g2.bsub Z c h).2 y h)
  · rcases List.mem_append.mp h with h | h
    · exact List.mem_append_left _ (g1.monos Y Z (le1 l) c (g1.ssub Y c h).2 z h)
    · exact List.mem_append_right _ (g2.monos Y Z (le2 l) c (g2.ssub Y c h).2 z h)
  · have q1 := g1.steady Y Z (le1 l)
    have q2 := g2.steady Y Z (le2 l)
    simp only [List.length_append]
    omega
theorem GoodP.wide {price : Nat → Int} {B C B' C' : Nat → Prop} {p : PCh} (g : GoodP price B C p) (hB : ∀ c, B c → B' c) (hC : ∀ c, C c → C' c) : GoodP price B' C' p := by
  obtain ⟨b, s, g, h⟩ := g
  exact ⟨b, s, g.wide hB hC, h⟩
theorem GoodPs.wide {price : Nat → Int} {B C B' C' : Nat → Prop} {ps : List PCh} (g : GoodPs price B C ps) (hB : ∀ c, B c → B' c) (hC : ∀ c, C c → C' c) : GoodPs price B' C' ps := by
  obtain ⟨b, s, g, h⟩ := g
  exact ⟨b, s, g.wide hB hC, h⟩
theorem goodPs_nil {price : Nat → Int} {B C : Nat → Prop} : GoodPs price B C [] :=
  ⟨fun _ => [], fun _ => [], ⟨fun _ _ h => (by cases h), fun _ _ h => (by cases h), fun _ => List.nodup_nil, fun _ => List.nodup_nil, fun _ _ _ _ _ _ h => (by cases h), fun _ _ _ _ _ _ h => (by cases h), fun _ _ _ => Nat.le_refl _⟩, fun _ => .refl _⟩
theorem goodPs_cons {price : Nat → Int} {B1 C1 B2 C2 : Nat → Prop} {p : PCh} {ps : List PCh} (g1 : GoodP price B1 C1 p) (g2 : GoodPs price B2 C2 ps) (dB : ∀ c, B1 c → ¬ B2 c) (dC : ∀ c, C1 c → ¬ C2 c) :
    GoodPs price (fun c => B1 c ∨ B2 c) (fun c => C1 c ∨ C2 c) (p :: ps) := by
  obtain ⟨b1, s1, g1, h1⟩ := g1
  obtain ⟨b2, s2, g2, h2⟩ := g2
  refine ⟨_, _, g1.join g2 dB dC, fun Y => ?_⟩
  rw [List.flatMap_cons]
  refine ((h1 Y).append (h2 Y)).trans ?_
  show (b1 Y ++ s1 Y ++ (b2 Y ++ s2 Y)).Perm (b1 Y ++ b2 Y ++ (s1 Y ++ s2 Y))
  simp only [List.append_assoc]
  refine List.Perm.append_left _ ?_
  simp only [← List.append_assoc]
  exact List.Perm.append_right _ List.perm_append_comm
theorem goodCh_plain {price : Nat → Int} {B C : Nat → Prop} {p : PCh} (g : GoodP price B C p) : GoodCh price B C (.plain p) := g
theorem goodCh_split {price : Nat → Int} {B C : Nat → Prop} {ps : List PCh} (g : GoodPs price B C ps) : GoodCh price B C (.split ps) := g

section
variable {price : Nat → Int} {B C : Nat → Prop} {ups downs : List Nat}
theorem good_sidesP {r1 r2 : Nat} (hB : ∀ c ∈ ups, B c) (hC : ∀ c ∈ downs, C c) (nu : ups.Nodup) (nd : downs.Nodup) : GoodP price B C (.sides r1 ups r2 downs) :=
  ⟨_, _, good_sides (side_first r1 hB nu) (side_first r2 hC nd), fun _ => .refl _⟩
theorem good_capsP {ug dg : List Group} (hB : ∀ c ∈ ups, B c) (hC : ∀ c ∈ downs, C c) (nu : ups.Nodup) (nd : downs.Nodup)
    (lu : Laminar ug) (ld : Laminar dg) (gu : ∀ g ∈ ug, g.1.Nodup) (gd : ∀ g ∈ dg, g.1.Nodup) : GoodP price B C (.caps ups ug downs dg) :=
  ⟨_, _, good_sides (side_capped lu gu hB nu) (side_capped ld gd hC nd), fun _ => .refl _⟩
theorem zip_fst : ∀ (l1 l2 : List Nat), (l1.zip l2).map (·.1) = l1.take (min l1.length l2.length)
  | [], _ => by simp
  | a :: l1, [] => by simp
  | a :: l1, b :: l2 => by
    rw [List.zip_cons_cons, List.map_cons, zip_fst l1 l2]
    simp only [List.length_cons, Nat.add_min_add_right, List.take_succ_cons]
theorem zip_snd : ∀ (l1 l2 : List Nat), (l1.zip l2).map (·.2) = l2.take (min l1.length l2.length)
  | [], _ => by simp
  | a :: l1, [] => by simp
  | a :: l1, b :: l2 => by
    rw [List.zip_cons_cons, List.map_cons, zip_snd l1 l2]
    simp only [List.length_cons, Nat.add_min_add_right, List.take_succ_cons]
theorem good_makerP {room : Nat} (hB : ∀ c ∈ ups, B c) (hC : ∀ c ∈ downs, C c) (nu : ups.Nodup) (nd : downs.Nodup) : GoodP price B C (.maker room ups downs) := by
  refine ⟨_, _, good_pairs (room := room) (W := fun _ _ => true) (Lb := ups) (Ls := downs) (List.pairwise_of_forall fun _ _ _ h => h) (List.pairwise_of_forall fun _ _ _ h => h) hB hC nu nd, fun Y => ?_⟩
  have e : pairsOf room (fun _ _ => true) ups downs Y = ((ups.filter Y).zip (downs.filter Y)).take room := by
    unfold pairsOf
    rw [List.filter_eq_self.mpr fun _ _ => rfl]
  simp only [e, List.map_take, zip_fst, zip_snd, List.take_take]
  exact .refl _
theorem flat2_perm : ∀ ps : List (Nat × Nat), (flat2 ps).Perm (ps.map (·.1) ++ ps.map (·.2))
  | [] => .refl _
  | p :: ps => by
    show (p.1 :: p.2 :: flat2 ps).Perm (p.1 :: (ps.map (·.1) ++ p.2 :: ps.map (·.2)))
    refine List.Perm.cons _ ?_
    exact ((flat2_perm ps).cons p.2).trans List.perm_middle.symm
theorem leB_total (x y : Nat) : (leB price x y || leB price y x) = true := by
  simp only [leB, Bool.or_eq_true, Bool.and_eq_true, decide_eq_true_eq, beq_iff_eq]
  rcases Int.lt_trichotomy (price x) (price y) with h | h | h
  · exact .inl (.inl h)
  · rcases Nat.le_total x y with q | q
    · exact .inl (.inr ⟨h, q⟩)
    · exact .inr (.inr ⟨h.symm, q⟩)
  · exact .inr (.inl h)
theorem leB_trans (x y z : Nat) (h1 : leB price x y = true) (h2 : leB price y z = true) : leB price x z = true := by
  simp only [leB, Bool.or_eq_true, Bool.and_eq_true, decide_eq_true_eq, beq_iff_eq] at *
  omega
theorem leB_anti (x y : Nat) (h1 : leB price x y = true) (h2 : leB price y x = true) : x = y := by
  simp only [leB, Bool.or_eq_true, Bool.and_eq_true, decide_eq_true_eq, beq_iff_eq] at *
  omega
theorem leS_total (x y : Nat) : (leS price x y || leS price y x) = true := by
  simp only [leS, Bool.or_eq_true, Bool.and_eq_true, decide_eq_true_eq, beq_iff_eq]
  rcases Int.lt_trichotomy (price x) (price y) with h | h | h
  · exact .inr (.inl h)
  · rcases Nat.le_total x y with q | q
    · exact .inl (.inr ⟨h, q⟩)
    · exact .inr (.inr ⟨h.symm, q⟩)
  · exact .inl (.inl h)
theorem leS_trans (x y z : Nat) (h1 : leS price x y = true) (h2 : leS price y z = true) : leS price x z = true := by
  simp only [leS, Bool.or_eq_true, Bool.and_eq_true, decide_eq_true_eq, beq_iff_eq] at *
  omega
theorem leS_anti (x y : Nat) (h1 : leS price x y = true) (h2 : leS price y x = true) : x = y := by
  simp only [leS, Bool.or_eq_true, Bool.and_eq_true, decide_eq_true_eq, beq_iff_eq] at *
  omega
theorem sort_filter {le : Nat → Nat → Bool} (tr : ∀ a b c, le a b = true → le b c = true → le a c = true) (to : ∀ a b, (le a b || le b a) = true) (an : ∀ a b, le a b = true → le b a = true → a = b) (l : List Nat) (Y : CS) :
    (l.filter Y).mergeSort le = (l.mergeSort le).filter Y := by
  refine List.Perm.eq_of_pairwise (le := fun a b => le a b = true) (fun a b _ _ => an a b) (List.pairwise_mergeSort tr to _) ((List.pairwise_mergeSort tr to _).filter _) ?_
  exact (List.mergeSort_perm _ _).trans ((List.mergeSort_perm l le).filter Y).symm
theorem good_traderP {room : Nat} {cost : Int} (hB : ∀ c ∈ ups, B c) (hC : ∀ c ∈ downs, C c) (nu : ups.Nodup) (nd : downs.Nodup) : GoodP price B C (.trader room cost ups downs) := by
  refine ⟨_, _, good_pairs (room := room) (W := worth price cost) (Lb := ups.mergeSort (leB price)) (Ls := downs.mergeSort (leS price)) ?_ ?_ (fun c h => hB c (List.mem_mergeSort.mp h)) (fun c h => hC c (List.mem_mergeSort.mp h))
    ((List.mergeSort_perm _ _).symm.nodup nu) ((List.mergeSort_perm _ _).symm.nodup nd), fun Y => ?_⟩
  · refine (List.pairwise_mergeSort leB_trans leB_total ups).imp fun {x x'} h y w => ?_
    simp only [leB, worth, Bool.or_eq_true, Bool.and_eq_true, decide_eq_true_eq, beq_iff_eq] at *
    omega
  · refine (List.pairwise_mergeSort leS_trans leS_total downs).imp fun {x x'} h y w => ?_
    simp only [leS, worth, Bool.or_eq_true, Bool.and_eq_true, decide_eq_true_eq, beq_iff_eq] at *
    omega
  · have e : tpairs price room cost ups downs Y = pairsOf room (worth price cost) (ups.mergeSort (leB price)) (downs.mergeSort (leS price)) Y := by
      unfold tpairs pairsOf
      rw [sort_filter leB_trans leB_total leB_anti, sort_filter leS_trans leS_total leS_anti]
    show (flat2 (tpairs price room cost ups downs Y)).Perm _
    rw [e]
    exact flat2_perm _
end

/-! ### sorted numbers -/
theorem leN_total (x y : Nat) : (leN x y || leN y x) = true := by
  simp only [leN, Bool.or_eq_true, decide_eq_true_eq]; omega
theorem leN_trans (x y z : Nat) (h1 : leN x y = true) (h2 : leN y z = true) : leN x z = true := by
  simp only [leN, decide_eq_true_eq] at *; omega
theorem leN_anti (x y : Nat) (h1 : leN x y = true) (h2 : leN y x = true) : x = y := by
  simp only [leN, decide_eq_true_eq] at *; omega
theorem srt_perm (l : List Nat) : (srt l).Perm l := List.mergeSort_perm _ _
theorem srt_pair (l : List Nat) : (srt l).Pairwise fun a b => leN a b = true := List.pairwise_mergeSort leN_trans leN_total _
theorem srt_of {l z : List Nat} (h : z.Perm l) (s : z.Pairwise (· ≤ ·)) : z = srt l :=
  List.Perm.eq_of_pairwise (le := fun a b => leN a b = true) (fun a b _ _ => leN_anti a b) (s.imp fun h => by simpa [leN] using h) (srt_pair l) (h.trans (srt_perm l).symm)
theorem srt_congr {l z : List Nat} (h : z.Perm l) : srt z = srt l :=
  List.Perm.eq_of_pairwise (le := fun a b => leN a b = true) (fun a b _ _ => leN_anti a b) (srt_pair z) (srt_pair l) (((srt_perm z).trans h).trans (srt_perm l).symm)
/-- a set of numbers below n, in order -/
theorem srt_canon {n : Nat} {l : List Nat} {p : CS} (nd : l.Nodup) (h : ∀ c, c ∈ l ↔ c < n ∧ p c = true) : srt l = (List.range n).filter p := by
  refine List.Perm.eq_of_pairwise (le := fun a b => leN a b = true) (fun a b _ _ => leN_anti a b) (srt_pair l) ?_ ?_
  · exact (List.pairwise_le_range.filter _).imp fun h => by simpa [leN] using h
  · refine (srt_perm l).trans ((List.perm_ext_iff_of_nodup nd (nodup_filter_range n p)).mpr fun c => ?_)
    rw [h, List.mem_filter, List.mem_range]

/-! ### tables -/
/-- the first so many by places have the least places -/
theorem least_take {w : Nat → Nat} {T M : List Nat} (h : T.Sublist M) (hw : M.Pairwise fun x y => w x < w y) :
    ((M.take T.length).map w).sum ≤ (T.map w).sum ∧ (((M.take T.length).map w).sum = (T.map w).sum → T = M.take T.length) := by
  induction h with
  | slnil => simp
  | @cons l₁ l₂ a h ih =>
    obtain ⟨ha, hw'⟩ := List.pairwise_cons.mp hw
    obtain ⟨i1, i2⟩ := ih hw'
    match hT : l₁ with
    | [] => simp
    | t :: T' =>
      have hlen : (t :: T').length ≤ l₂.length := h.length_le
      have hk : T'.length < l₂.length := hlen
      have e : l₂.take (T'.length + 1) = l₂.take T'.length ++ [l₂[T'.length]] := by
        rw [List.take_add_one, List.getElem?_eq_getElem hk]; rfl
      have lt : w a < w l₂[T'.length] := ha _ (List.getElem_mem hk)
      have z : ((a :: l₂).take (t :: T').length).map w = w a :: (l₂.take T'.length).map w := by simp
      rw [show (t :: T').length = T'.length + 1 from rfl, e, List.map_append, List.sum_append] at i1
      simp only [List.map_cons, List.map_nil, List.sum_cons, List.sum_nil] at i1
      rw [z]
      simp only [List.map_cons, List.sum_cons]
      constructor
      · omega
      · intro q; omega
  | @cons_cons l₁ l₂ a h ih =>
    obtain ⟨ha, hw'⟩ := List.pairwise_cons.mp hw
    obtain ⟨i1, i2⟩ := ih hw'
    simp only [List.length_cons, List.take_succ_cons, List.map_cons, List.sum_cons]
    refine ⟨by omega, fun q => ?_⟩
    congr 1
    exact i2 (by omega)
theorem idx_pairwise {l : List Nat} (nd : l.Nodup) : l.Pairwise fun x y => l.idxOf x < l.idxOf y := by
  rw [List.pairwise_iff_getElem]
  intro i j hi hj hij
  rw [nd.idxOf_getElem, nd.idxOf_getElem]
  exact hij
/-- the place of a contract in its list -/
def placeOf (ups downs : List Nat) (c : Nat) : Nat := if downs.contains c then downs.idxOf c else ups.idxOf c
def placesOf (ups downs : List Nat) (r : List Nat) : Nat := (r.map (placeOf ups downs)).sum

/-- the choice of a maker or of sides: the first k1 and k2 -/
structure TabU (ups downs : List Nat) (k1 k2 : CS → Nat) : Prop where
  opt : ∀ Y Y', (∀ c ∈ (ups.filter Y').take (k1 Y'), Y c = true) → (∀ c ∈ (downs.filter Y').take (k2 Y'), Y c = true) →
    ((ups.filter Y').take (k1 Y')).length ≤ ((ups.filter Y).take (k1 Y)).length ∧ ((downs.filter Y').take (k2 Y')).length ≤ ((downs.filter Y).take (k2 Y)).length
theorem sub_of_filter {L : List Nat} {Y Y' : CS} {k : Nat} (h : ∀ c ∈ (L.filter Y').take k, Y c = true) : ((L.filter Y').take k).Sublist (L.filter Y) := by
  have h1 : ((L.filter Y').take k).Sublist L := (List.take_sublist _ _).trans List.filter_sublist
  have h2 := h1.filter Y
  rwa [List.filter_eq_self.mpr h] at h2
theorem tabU_sides (ups downs : List Nat) (r1 r2 : Nat) : TabU ups downs (fun _ => r1) (fun _ => r2) where
  opt := fun Y Y' h1 h2 => by
    have l1 := (sub_of_filter h1).length_le
    have l2 := (sub_of_filter h2).length_le
    simp only [List.length_take] at *
    omega
theorem tabU_maker (ups downs : List Nat) (room : Nat) : TabU ups downs (fun Y => min room (min (ups.filter Y).length (downs.filter Y).length)) (fun Y => min room (min (ups.filter Y).length (downs.filter Y).length)) where
  opt := fun Y Y' h1 h2 => by
    have l1 := (sub_of_filter h1).length_le
    have l2 := (sub_of_filter h2).length_le
    simp only [List.length_take] at *
    omega
/-- rows in their order: more contracts first, then by places -/
def rowLe (ups downs : List Nat) (r q : List Nat) : Prop := q.length < r.length ∨ (r.length = q.length ∧ placesOf ups downs r ≤ placesOf ups downs q)
theorem places_perm {ups downs l z : List Nat} (h : l.Perm z) : placesOf ups downs l = placesOf ups downs z := (h.map _).sum_nat
theorem places_app (ups downs l z : List Nat) : placesOf ups downs (l ++ z) = placesOf ups downs l + placesOf ups downs z := by
  unfold placesOf; rw [List.map_append, List.sum_append]
theorem place_up {ups downs : List Nat} (dj : ∀ c ∈ ups, c ∉ downs) : ∀ {l : List Nat}, (∀ c ∈ l, c ∈ ups) → placesOf ups downs l = (l.map fun c => ups.idxOf c).sum := by
  intro l h
  unfold placesOf
  congr 1
  apply List.map_congr_left
  intro c m
  unfold placeOf
  rw [if_neg (by simpa using dj c (h c m))]
theorem place_down {ups downs : List Nat} : ∀ {l : List Nat}, (∀ c ∈ l, c ∈ downs) → placesOf ups downs l = (l.map fun c => downs.idxOf c).sum := by
  intro l h
  unfold placesOf
  congr 1
  apply List.map_congr_left
  intro c m
  unfold placeOf
  rw [if_pos (List.contains_iff_mem.mpr (h c m))]
theorem table_eq {ups downs : List Nat} {k1 k2 : CS → Nat} (U : TabU ups downs k1 k2) (nu : ups.Nodup) (nd : downs.Nodup) (dj : ∀ c ∈ ups, c ∉ downs) {rows : List (List Nat)}
    (h1 : ∀ r ∈ rows, r ≠ [] ∧ ∃ Y, r = srt ((ups.filter Y).take (k1 Y) ++ (downs.filter Y).take (k2 Y)))
    (h2 : ∀ Y, srt ((ups.filter Y).take (k1 Y) ++ (downs.filter Y).take (k2 Y)) ≠ [] → srt ((ups.filter Y).take (k1 Y) ++ (downs.filter Y).take (k2 Y)) ∈ rows)
    (h3 : rows.Pairwise (rowLe ups downs)) (Y : CS) :
    (rows.find? fun r => r.all Y).getD [] = srt ((ups.filter Y).take (k1 Y) ++ (downs.filter Y).take (k2 Y)) := by
  -- a row that fits against the choice
  have fits : ∀ r ∈ rows, r.all Y = true → r.length ≤ (srt ((ups.filter Y).take (k1 Y) ++ (downs.filter Y).take (k2 Y))).length ∧
      (rowLe ups downs r (srt ((ups.filter Y).take (k1 Y) ++ (downs.filter Y).take (k2 Y))) → r = srt ((ups.filter Y).take (k1 Y) ++ (downs.filter Y).take (k2 Y))) := by
    intro r m a
    obtain ⟨_, Y', e⟩ := h1 r m
    have pr : r.Perm ((ups.filter Y').take (k1 Y') ++ (downs.filter Y').take (k2 Y')) := by rw [e]; exact srt_perm _
    have ps := srt_perm ((ups.filter Y).take (k1 Y) ++ (downs.filter Y).take (k2 Y))
    have a' : ∀ c ∈ (ups.filter Y').take (k1 Y') ++ (downs.filter Y').take (k2 Y'), Y c = true := fun c hc => List.all_eq_true.mp a c (pr.mem_iff.mpr hc)
    have a1 : ∀ c ∈ (ups.filter Y').take (k1 Y'), Y c = true := fun c hc => a' c (List.mem_append_left _ hc)
    have a2 : ∀ c ∈ (downs.filter Y').take (k2 Y'), Y c = true := fun c hc => a' c (List.mem_append_right _ hc)
    obtain ⟨o1, o2⟩ := U.opt Y Y' a1 a2
    have lr := pr.length_eq
    have ls := ps.length_eq
    rw [List.length_append] at lr ls
    refine ⟨by omega, fun q => ?_⟩
    rcases q with q | ⟨q1, q2⟩
    · omega
    · have t1 := sub_of_filter a1
      have t2 := sub_of_filter a2
      have mu : ∀ {Z : CS} {k : Nat}, ∀ c ∈ (ups.filter Z).take k, c ∈ ups := fun c hc => (List.mem_filter.mp (List.mem_of_mem_take hc)).1
      have md : ∀ {Z : CS} {k : Nat}, ∀ c ∈ (downs.filter Z).take k, c ∈ downs := fun c hc => (List.mem_filter.mp (List.mem_of_mem_take hc)).1
      rw [places_perm pr, places_perm ps, places_app, places_app, place_up dj mu, place_up dj mu, place_down md, place_down md] at q2
      obtain ⟨b1, c1⟩ := least_take (w := fun c => ups.idxOf c) t1 ((idx_pairwise nu).filter _)
      obtain ⟨b2, c2⟩ := least_take (w := fun c => downs.idxOf c) t2 ((idx_pairwise nd).filter _)
      have e1 : (ups.filter Y).take ((ups.filter Y').take (k1 Y')).length = (ups.filter Y).take (k1 Y) := by
        have z : ((ups.filter Y').take (k1 Y')).length = ((ups.filter Y).take (k1 Y)).length := by omega
        rw [z, List.length_take, ← List.take_eq_take_min]
      have e2 : (downs.filter Y).take ((downs.filter Y').take (k2 Y')).length = (downs.filter Y).take (k2 Y) := by
        have z : ((downs.filter Y').take (k2 Y')).length = ((downs.filter Y).take (k2 Y)).length := by omega
        rw [z, List.length_take, ← List.take_eq_take_min]
      rw [e1] at b1 c1
      rw [e2] at b2 c2
      rw [e, c1 (by omega), c2 (by omega)]
  have mem_S : ∀ c ∈ srt ((ups.filter Y).take (k1 Y) ++ (downs.filter Y).take (k2 Y)), Y c = true := fun c hc => by
    have := (srt_perm _).mem_iff.mp hc
    rcases List.mem_append.mp this with q | q
    · exact (List.mem_filter.mp (List.mem_of_mem_take q)).2
    · exact (List.mem_filter.mp (List.mem_of_mem_take q)).2
  cases hf : rows.find? fun r => r.all Y with
  | none =>
    have no := List.find?_eq_none.mp hf
    show [] = srt ((ups.filter Y).take (k1 Y) ++ (downs.filter Y).take (k2 Y))
    apply Classical.byContradiction
    intro ne
    exact no _ (h2 Y fun e => ne e.symm) (List.all_eq_true.mpr mem_S)
  | some r =>
    obtain ⟨a, as, bs, e, _⟩ := List.find?_eq_some_iff_append.mp hf
    have m : r ∈ rows := by rw [e]; simp
    obtain ⟨f1, f2⟩ := fits r m a
    show r = _
    apply f2
    by_cases e0 : srt ((ups.filter Y).take (k1 Y) ++ (downs.filter Y).take (k2 Y)) = []
    · rw [e0] at f1 
      exact absurd (List.length_eq_zero_iff.mp (Nat.le_zero.mp f1)) (h1 r m).1
    · have ms := h2 Y e0
      rw [e] at ms
      rcases List.mem_append.mp ms with q | q
      · have := List.find?_eq_some_iff_append.mp hf
        exfalso
        obtain ⟨_, as', bs', e', no⟩ := this
        -- the rows ahead of the first fitting one don't fit
        have hq : ∀ x ∈ as, (!x.all Y) = true := by
          obtain ⟨_, as2, bs2, e2, no2⟩ := List.find?_eq_some_iff_append.mp hf
          assumption
        have := hq _ q
        rw [List.all_eq_true.mpr mem_S] at this
        cases this
      · rcases List.mem_cons.mp q with q | q
        · rw [q]; exact .inr ⟨rfl, Nat.le_refl _⟩
        · rw [e] at h3
          have := (List.pairwise_append.mp h3).2.1
          exact (List.pairwise_cons.mp this).1 _ q
theorem good_table {price : Nat → Int} {B C : Nat → Prop} {ups downs : List Nat} {k1 k2 : CS → Nat} {u : PCh} {rows : List (List Nat)} (gu : GoodP price B C u) (hu : ∀ Y, u.chosen price Y = (ups.filter Y).take (k1 Y) ++ (downs.filter Y).take (k2 Y))
    (h : ∀ Y, (rows.find? fun r => r.all Y).getD [] = srt ((ups.filter Y).take (k1 Y) ++ (downs.filter Y).take (k2 Y))) : GoodP price B C (.table rows) := by
  obtain ⟨b, s, g, p⟩ := gu
  refine ⟨b, s, g, fun Y => ?_⟩
  show ((rows.find? fun r => r.all Y).getD []).Perm _
  rw [h, ← hu]
  exact (srt_perm _).trans (p Y)
end K39

namespace KW
open PySem PySem.Spec PyProof.Rows L2
def top (i : Nat) : Stmt := PySem.Challenge.pw_nochaingains_k39_whole_who_buys_one_need.main.body.getD i (.Pass ⟨0, 0, 0, 0⟩)
abbrev FnP (K : PySem.W.Frag) (x : Str) (i : Nat) (f : Addr) (fd : FuncData) : Prop := FunD K x x (defArgs (top i)) (defBody (top i)) (defScope (top i)) [] [] f fd
def dd (x : Str) (i : Nat) : He.DefD := ⟨(x, none), x, x, defArgs (top i), defBody (top i), defScope (top i), [], []⟩
def names : List Str := ["buys_of", "sells_of", "wishes_of", "offered_of", "chosen_row", "traded", "within_caps", "chosen_by", "choose", "offered_to", "next_stand", "common", "network_of", "settled_from", "all_contracts", "best_for_buyers"]
def names2 : List Str := ["_law_take", "_law_wishes", "_law_draws", "_law_word", "_law_capped", "_law_traded", "_law_chosen_by", "_law_sets", "_law_table", "_law_groups", "_law_choice", "_law_web", "_law_own", "_law_choose", "_law_both", "_law_told", "_law_network_of"]
def fn : List He.DefD := [dd "buys_of" 1, dd "sells_of" 2, dd "wishes_of" 3, dd "offered_of" 5, dd "chosen_row" 6, dd "traded" 7, dd "within_caps" 8, dd "chosen_by" 9, dd "choose" 10, dd "offered_to" 12, dd "next_stand" 14, dd "common" 15, dd "network_of" 16, dd "settled_from" 17, dd "all_contracts" 18, dd "best_for_buyers" 19,
  dd "_law_take" 21, dd "_law_wishes" 22, dd "_law_draws" 23, dd "_law_word" 24, dd "_law_chosen_by" 27, dd "_law_sets" 28, dd "_law_table" 29, dd "_law_groups" 30, dd "_law_choice" 31, dd "_law_web" 32, dd "_law_own" 33, dd "_law_choose" 34, dd "_law_both" 35, dd "_law_told" 36, dd "_law_network_of" 37, dd "law" 38]
def frees : List Str := ["tuple", "enumerate", "all", "list", "sorted", "zip", "len", "min", "range", "int", "set"]
def fa : List He.Fa := (names ++ names2 ++ [("law" : Str)]).map He.Fa.glo ++ frees.map He.Fa.free
abbrev R : PySem.W.OpenRow := PySem.W.OpenLaw.row PySem.Challenge.rw_nochaingains_k39_whole_who_buys_one_need
def tf : List He.Defn := [("traded", none)]
def ex : PySem.W.Frag → Bool := fun _ => true
abbrev hk : PySem.W.Hook := He.hookX 4 fa fn [] tf ex
def ob (s : PySem.W.SharedT) : He.AlX := He.obsX 4 fa fn [] tf ex (HandSHeadRun.getT s)
theorem ob_eq (s : PySem.W.SharedT) : ob s = hk.obs s.abs := He.obsX_eq (HandSHeadRun.getT_eq s)
def loose1 : List Str := names ++ names2
theorem run (w : World) : HandSHeadRun.RunEq R (PySem.W.view R.prog [38]) hk ob 2000 loose1 w := by
  intro os
  kernel_rfl
end KW

namespace KW
open PySem PySem.Spec PyProof.Rows L2
/-! ### enumerate(t), t a tuple -/
theorem enumNew1 {v : Value} {o : Obj} {Ho : Heap → Prop} (B : Begins v o Ho) :
    Meets (Builtin.«enumerate.__new__» ⟨[.type "enumerate", v], []⟩) (fun _ R s => Ho s.heap ∧
      R (.ok (.ret (.ref (s.heap.push o).objs.size))) { s with heap := (s.heap.push o).push { cls := .type "enumerate", data := .fields #[.none, .bool false, .ref s.heap.objs.size, rawInt 0, .none, .none] } }) :=
  .of_wp fun prog w A R s h => by
    obtain ⟨hp, g, d, tk, os⟩ := s
    obtain ⟨h1, h⟩ := h
    have subE := sub_enumerate
    have iterV : ∀ {A' : Around} {E : Value → Shared → Prop} {Q : Value → Shared → Prop}, Q (.ref hp.objs.size) ⟨hp.push o, g, d, tk, os⟩ → wpAny (model prog w) A' (pyIter v) Q E ⟨hp, g, d, tk, os⟩ :=
      fun {_ E Q} q => B.iter prog w _ E ⟨hp, g, d, tk, os⟩ Q h1 q
    wp_walk using iterV
    refine wpAny_stack_any fun st => wpAny_pure ?_
    split
    · rename_i c _ _ _ _ _
      cases (c == Value.type "enumerate") <;> (wp_walk using iterV; exact ⟨_, rfl, h⟩)
    · wp_walk using iterV
      exact ⟨_, rfl, h⟩
theorem call_enumTup {prog : Program} {w : World} {A : Around} {E : Value → Shared → Prop} {s : Shared} {t : Addr} {items : Array Value} {Q : Value → Shared → Prop} (ht : s.heap.IsTuple t items)
    (h : ∀ h', IsEnum h' (s.heap.objs.size + 1) s.heap.objs.size 0 .none → h'.IsTupleIter s.heap.objs.size t 0 → (∀ b o, s.heap.get? b = some o → h'.get? b = some o) → Q (.ref (s.heap.objs.size + 1)) { s with heap := h' }) :
    wpAny (model prog w) A (call (.type "enumerate") [.ref t]) Q E s := by
  refine callType_new F.called_enumerate (by decide) (F.typeCall_enumerate_1 _) (F.newCall_enumerate_1 _) (fun obj => F.args_object_init_2 obj _) F.entry_enumerate_new (enumNew1 (begins_tuple t items)) ⟨ht, ?_⟩
  have hz : (s.heap.push { cls := .type "tuple_iterator", data := .fields #[.ref t, .int 0 0] }).objs.size = s.heap.objs.size + 1 := Heap.size_push ..
  show _ ∧ _
  rw [hz]
  have he : IsEnum ((s.heap.push { cls := .type "tuple_iterator", data := .fields #[.ref t, .int 0 0] }).push { cls := .type "enumerate", data := .fields #[.none, .bool false, .ref s.heap.objs.size, rawInt 0, .none, .none] }) (s.heap.objs.size + 1) s.heap.objs.size 0 .none := by
    have z := Heap.get?_push_size (s.heap.push { cls := .type "tuple_iterator", data := .fields #[.ref t, .int 0 0] }) (o := { cls := .type "enumerate", data := .fields #[.none, .bool false, .ref s.heap.objs.size, rawInt 0, .none, .none] }) rfl
    rw [hz] at z
    exact z
  refine ⟨⟨_, he, rfl⟩, h _ he ⟨_, Heap.get?_push_of_some _ (Heap.get?_push_size _ rfl), rfl, rfl⟩ fun b o x => Heap.get?_push_of_some _ (Heap.get?_push_of_some _ x)⟩
/-- the tuple at a, each item in a new pair -/
def IteT (K : PySem.W.Frag) (a : Addr) : It :=
  ⟨fun i H => ∃ (xs : List V) (x : V), SqT K H a xs ∧ xs[i]? = some x, fun i H v H' => ∃ T x, v = .ref T ∧ H T = none ∧ H' = upd H T (.tup [.int (i : Nat), x]) ∧ ∀ xs, SqT K H a xs → xs[i]? = some x, fun i H => ∃ xs : List V, SqT K H a xs ∧ xs.length = i⟩
theorem turn_enumT {P : Program} {w : World} {K : PySem.W.Frag} {elts : List Expr} {kk : Nat} {tpos : Pos} (a e it : Addr) :
    Turn P w K (.Tuple elts kk tpos) (IteT K a) [e, it] e (fun i h => (∃ old, IsEnum h e it ((i : Nat) : Int) old) ∧ h.IsTupleIter it a i ∧ e ≠ it) where
  mem := by simp
  obj := fun i h st b hb => by
    obtain ⟨⟨old, he⟩, ⟨o, ho, hc, hd⟩, _⟩ := st
    have e' : b = e ∨ b = it := by simpa using hb
    rcases e' with rfl | rfl
    · exact ⟨_, he, fun v q => nomatch q⟩
    · exact ⟨o, ho, fun v q => by rw [hd] at q; cases q⟩
  keep := fun i h h' st k => by
    obtain ⟨⟨old, he⟩, hi, hne⟩ := st
    exact ⟨⟨old, k e (by simp) _ he⟩, hi.at fun o q => k it (by simp) o q, hne⟩
  item := by
    intro X hP hw hK hc i pins s σ H E I hf st hg
    subst hP hw hK
    obtain ⟨⟨old, he⟩, hit, hne⟩ := st
    obtain ⟨xs, x, hq, hx⟩ := hg
    obtain ⟨its, rv, p, hz⟩ := I.tuple hq
    obtain ⟨u, hu, ru⟩ := rv.get hx
    have hel : e < s.heap.objs.size := Heap.lt_size he
    have hil : it < s.heap.objs.size := by obtain ⟨_, q, _⟩ := hit; exact Heap.lt_size q
    obtain ⟨fe0, _⟩ := hf e (by simp)
    obtain ⟨fi0, _⟩ := hf it (by simp)
    have ha : a ≠ it ∧ a ≠ e := by
      obtain ⟨o, ho, hco, _⟩ := id p
      refine ⟨fun z => ?_, fun z => ?_⟩
      · obtain ⟨o2, ho2, hc2, _⟩ := hit
        rw [z, ho2] at ho
        cases ho
        rw [hc2] at hco
        injection hco with hco
        exact absurd hco (by decide)
      · rw [z, he] at ho
        cases ho
        injection hco with hco
        exact absurd hco (by decide)
    have hlt : i < its.toArray.size := by
      have := (List.getElem?_eq_some_iff.mp hu).1
      simpa using this
    have D := Draws.tuple (prog := X.prog) (w := X.w) (A := X.A.in1) (I.ok.hd hc) it a ha.1 its.toArray
    refine wpAny_pyNext_enum_itemD D he ⟨hit, p⟩ hlt hne (by simp [hne, Ne.symm ha.2]) fun y h' tk hy ho hst' hT hsz hk => ?_
    have ey : y = u := by
      have h1 : its[i]? = some y := by simpa using hy
      rw [hu] at h1
      exact (Option.some.inj h1).symm
    subst ey
    refine ⟨_, rfl, wpAny_letOwnedTupleGo_enum (s := { s with heap := h', toks := tk + 1 }) ho fun h'' he' sb => ?_⟩
    have hT2 : h''.get? s.heap.objs.size = some { cls := .type "tuple", data := .seq #[.int i tk, y] } := (sb.2 _ (Nat.ne_of_gt hel)).trans hT
    have new : ObjOk X.prog X.w (upd H s.heap.objs.size (.tup [.int (i : Nat), x])) h'' s.heap.objs.size (.tup [.int (i : Nat), x]) :=
      ⟨by show 2 ≤ sizeLine; decide, [.int i tk, y], .cons ⟨_, rfl⟩ (.cons ru .nil), ⟨_, hT2, rfl, _, rfl⟩⟩
    have I1 : Inv X pins σ (upd H s.heap.objs.size (.tup [.int (i : Nat), x])) { s with heap := h'', toks := tk + 1 } :=
      I.turnedNew (ch := [e, it]) (fun b ob hb q => (sb.2 b (fun z => hb (by simp [z]))).trans (hk b ob (fun z => hb (by simp [z])) (fun z => hb (by simp [z])) q)) hf (Nat.le_refl _) new
    refine ⟨.ref s.heap.objs.size, _, I1, rfl, ⟨_, x, rfl, I.hok.fresh (Nat.le_refl _), rfl, fun ys hy => by rw [I.tuple_inj hy hq]; exact hx⟩, ⟨⟨y, ?_⟩, hst'.1.at fun o q => (sb.2 it (Ne.symm hne)).trans q, hne⟩, fun b hb => ?_⟩
    · have e1 : ((i + 1 : Nat) : Int) = (i : Int) + 1 := by omega
      rw [e1]; exact he'
    · have hb' : b < s.heap.objs.size := by
        have e' : b = e ∨ b = it := by simpa using hb
        rcases e' with rfl | rfl
        · exact hel
        · exact hil
      rw [upd_ne (Nat.ne_of_lt hb')]
      exact (hf b hb).1
  done := by
    intro X hP hw hK hc i pins s σ H E I hf st hg
    subst hP hw hK
    obtain ⟨⟨old, he⟩, hit, hne⟩ := st
    obtain ⟨xs, hq, hx⟩ := hg
    obtain ⟨its, rv, p, hz⟩ := I.tuple hq
    obtain ⟨f0, f1, f2, f3, f4, f5⟩ := hf it (by simp)
    have ha : a ≠ it := fun z => by
      obtain ⟨o, ho, hco, _⟩ := id p
      obtain ⟨o2, ho2, hc2, _⟩ := hit
      rw [z, ho2] at ho
      cases ho
      rw [hc2] at hco
      injection hco with hco
      exact absurd hco (by decide)
    have hl := rv.length
    have D := Draws.tuple (prog := X.prog) (w := X.w) (A := X.A.in1) (I.ok.hd hc) it a ha its.toArray
    have ei : i = its.toArray.size := by simp; omega
    exact wpAny_pyNext_enum_endD D he ⟨ei ▸ hit, p⟩ fun h' eb => ⟨rfl, I.turned (t' := s.toks) (fun b o hb q => eb b o hb q) f0 f1 f3 f4 f5⟩
  self := fun A i s Q E st h => by
    obtain ⟨⟨_, he⟩, _⟩ := st
    exact wpAny_pyIter_enum he h
def iEnumT (K : PySem.W.Frag) (ta : TA) : TI := fun σ H R => ta σ H fun vs H1 => ∃ a xs, vs = [.ref a] ∧ SqT K H1 a xs ∧ R (IteT K a) H1
theorem pi_enumT {X : Cx} {e : Expr} {ta : TA} {p pos tpos : Pos} {elts : List Expr} {kk : Nat} (hg : Gl X "enumerate") (hm : X.mg "enumerate" = none) (ha : PA X [e] ta) (hs : starEach [e] X.env = [(false, eval e X.env)] := by rfl) :
    PI X (.Tuple elts kk tpos) (.Call (.Name "enumerate" p) [e] [] pos) (iEnumT X.K ta) := by
  refine ⟨fun pins s σ H R I h => ?_⟩
  refine Call_ (ld_blt I hg hm boot_enumerate (PyProof.Rows.callWith_type1 (thn (ha.run pos pins s σ H _ I h) fun us s1 ⟨vs, H1, I1, r1, q1⟩ => ?_) hs rfl))
  obtain ⟨a, xs, rfl, hq, q⟩ := q1
  cases r1 with
  | cons r rr =>
    cases rr
    cases r
    obtain ⟨its, rv, pt, hz⟩ := I1.tuple hq
    refine call_enumTup pt fun h' he hit hk => wpAny_pyIter_enum he ?_
    have I2 : Inv X pins σ H1 { s1 with heap := h' } := I1.kept (t' := s1.toks) hk
    refine ⟨s1.heap.objs.size + 1, [s1.heap.objs.size + 1, s1.heap.objs.size], _, _, H1, rfl, I2, turn_enumT a (s1.heap.objs.size + 1) s1.heap.objs.size, ⟨⟨.none, he⟩, hit, Nat.succ_ne_self _⟩, fun b hb => ?_, q⟩
    have hle : s1.heap.objs.size ≤ b := by
      have e' : b = s1.heap.objs.size + 1 ∨ b = s1.heap.objs.size := by simpa using hb
      rcases e' with rfl | rfl
      · exact Nat.le_add_right _ _
      · exact Nat.le_refl _
    exact I1.fpOk hle (I1.hok.fresh hle)
/-- the reading of a walk over enumerate(t) that leaves t as it is (a comprehension) -/
theorem lc_enumT {K : PySem.W.Frag} {a : Addr} {xs : List V} {g : TG} {tt : TT} {te : TE} {vs : List Nat} {σ : L2.St} {H1 : Hp} {D : Addr} {Qd : Hp → Prop} (Pv : Nat → Hp → Prop) (h0 : Pv 0 (upd H1 D (.lst []))) (hl : ∀ i H, i ≤ xs.length → Pv i H → SqT K H a xs)
    (hs : ∀ i x T H, xs[i]? = some x → Pv i H → H T = none → g (.ref T) (wipe σ vs) (upd H T (.tup [.int (i : Nat), x])) fun σ2 H2 => wipe σ2 vs = wipe σ vs ∧ tt σ2 H2 fun b H3 =>
      if b = true then te σ2 H3 fun y H4 => ∃ acc, H4 D = some (.lst acc) ∧ acc.length < sizeLine ∧ Pv (i + 1) (upd H4 D (.lst (acc ++ [y]))) else Pv (i + 1) H3) (hd : ∀ H, Pv xs.length H → Qd H) :
    ∃ W : Nat → Nat → Hp → Prop, (∃ m, W 0 m (upd H1 D (.lst []))) ∧ ∀ i m H, W i m H →
      ((IteT K a).stop i H ∧ Qd H) ∨ ((IteT K a).go i H ∧ ∃ Nx : Hp → Prop, (∀ H', Nx H' → ∃ m', m' < m ∧ W (i + 1) m' H') ∧ ∀ x H', (IteT K a).yld i H x H' → g x (wipe σ vs) H' fun σ2 H2 => wipe σ2 vs = wipe σ vs ∧ tt σ2 H2 fun b H3 =>
        if b = true then te σ2 H3 fun y H4 => ∃ acc, H4 D = some (.lst acc) ∧ acc.length < sizeLine ∧ Nx (upd H4 D (.lst (acc ++ [y]))) else Nx H3) := by
  refine ⟨fun i m H => m = xs.length - i ∧ i ≤ xs.length ∧ Pv i H, ⟨xs.length, rfl, Nat.zero_le _, h0⟩, fun i m H w => ?_⟩
  obtain ⟨rfl, hi, p⟩ := w
  have q := hl i H hi p
  by_cases hlt : i < xs.length
  · refine .inr ⟨⟨xs, xs[i], q, List.getElem?_eq_getElem hlt⟩, Pv (i + 1), fun H' p' => ⟨xs.length - (i + 1), by omega, rfl, hlt, p'⟩, fun x H' y => ?_⟩
    obtain ⟨T, z, rfl, nT, rfl, f⟩ := y
    exact hs i z T H (f xs q) p nT
  · have e : i = xs.length := by omega
    subst e
    exact .inl ⟨⟨xs, q, rfl⟩, hd H p⟩
/-- the same for a for statement -/
theorem for_enumT {K : PySem.W.Frag} {a : Addr} {xs : List V} {g : TG} {tb : TS} {D : Ends} {σ : L2.St} {H : Hp} (Pv : Nat → L2.St → Hp → Prop) (h0 : Pv 0 σ H) (hl : ∀ i σ H, i ≤ xs.length → Pv i σ H → SqT K H a xs)
    (hs : ∀ i x T σ H, xs[i]? = some x → Pv i σ H → H T = none → g (.ref T) σ (upd H T (.tup [.int (i : Nat), x])) fun σ2 H2 => tb { D with nx := Pv (i + 1), ct := Pv (i + 1), bk := D.nx } σ2 H2) (hd : ∀ σ H, Pv xs.length σ H → D.nx σ H) :
    ∃ W : Nat → Nat → L2.St → Hp → Prop, (∃ m, W 0 m σ H) ∧ ∀ i m σ H, W i m σ H →
      ((IteT K a).stop i H ∧ D.nx σ H) ∨ ((IteT K a).go i H ∧ ∃ N : L2.St → Hp → Prop, (∀ σ' H', N σ' H' → ∃ m', m' < m ∧ W (i + 1) m' σ' H') ∧ ∀ x H', (IteT K a).yld i H x H' → g x σ H' fun σ2 H2 => tb { D with nx := N, ct := N, bk := D.nx } σ2 H2) := by
  refine ⟨fun i m σ H => m = xs.length - i ∧ i ≤ xs.length ∧ Pv i σ H, ⟨xs.length, rfl, Nat.zero_le _, h0⟩, fun i m σ H w => ?_⟩
  obtain ⟨rfl, hi, p⟩ := w
  have q := hl i σ H hi p
  by_cases hlt : i < xs.length
  · refine .inr ⟨⟨xs, xs[i], q, List.getElem?_eq_getElem hlt⟩, Pv (i + 1), fun σ' H' p' => ⟨xs.length - (i + 1), by omega, rfl, hlt, p'⟩, fun x H' y => ?_⟩
    obtain ⟨T, z, rfl, nT, rfl, f⟩ := y
    exact hs i z T σ H (f xs q) p nT
  · have e : i = xs.length := by omega
    subst e
    exact .inl ⟨⟨xs, q, rfl⟩, hd σ H p⟩
end KW

namespace KW
open PySem PySem.Spec PyProof.Rows L2
/-! ### for pair in zip(xs, ys): one name takes the pair -/
abbrev zobj (f0 : Value) (b : Bool) (TI TO : Addr) : Obj := { cls := .type "zip", dict := none, data := .fields #[f0, .bool b, .bool false, .ref TI, .ref TO], slots := #[] }
section
variable {prog : Program} {w : World} {A : Around} {E : Value → Shared → Prop} {s : Shared} {z TI TO i1 i2 l1 l2 : Addr} {k1 k2 : Nat} {xs ys : Array Value} {x y a c : Value} {f0 : Value} {fb : Bool}
/-- the tuple given out before is not there (or none was given out) -/
def Gone (f0 : Value) (h : Heap) : Prop := f0 = .none ∨ ∃ T : Addr, f0 = rawInt T ∧ h.get? T = none
theorem owned_free {Q : Bool → Shared → Prop} (hz : s.heap.get? z = some (zobj f0 fb TI TO)) (g : Gone f0 s.heap) (h : Q true s) : wpAny (model prog w) A (Builtin.SmallTypes.ownedTupleIsFree (.ref z)) Q E s := by
  unfold Builtin.SmallTypes.ownedTupleIsFree
  rcases g with rfl | ⟨T, rfl, hT⟩
  · exact wpAny_bind (wpAny_field hz rfl (x := .none) rfl (wpAny_pure h))
  · refine wpAny_bind (wpAny_field hz rfl (x := rawInt T) rfl ?_)
    have load : ∀ {R : Option Obj → Shared → Prop}, R none s → wpAny (model prog w) A (loadIfAlive T) R E s := fun {R} r => by
      have r' : R (s.heap.get? T) s := by rw [hT]; exact r
      exact fun _ _ _ => r'
    show wpAny _ _ (loadIfAlive ((T : Int).toNat) >>= _) _ _ _
    rw [Int.toNat_natCast]
    refine wpAny_bind (load ?_)
    simp only [Option.isNone_none, if_true]
    exact wpAny_pure h
/-- one pair, the tuple free -/
theorem zipG_item {Q : Value → Shared → Prop} (D : ZipApart z TI TO i1 i2 l1 l2) (hz : s.heap.get? z = some (zobj f0 fb TI TO)) (g : Gone f0 s.heap) (hTI : IsPair s.heap TI (.ref i1) (.ref i2)) (hTO : IsPair s.heap TO a c)
    (h1 : s.heap.IsListIter i1 l1 k1) (h2 : s.heap.IsListIter i2 l2 k2) (hl1 : s.heap.IsList l1 xs) (hl2 : s.heap.IsList l2 ys) (hx : xs[k1]? = some x) (hy : ys[k2]? = some y)
    (hQ : ∀ h', h'.get? z = some (zobj (rawInt s.heap.objs.size) false TI TO) → IsPair h' TO x y → h'.IsListIter i1 l1 (k1 + 1) → h'.IsListIter i2 l2 (k2 + 1) → IsPair h' s.heap.objs.size x y →
      (∀ b o, b ≠ z → b ≠ TO → b ≠ i1 → b ≠ i2 → s.heap.get? b = some o → h'.get? b = some o) → Q (.ref s.heap.objs.size) { s with heap := h' }) :
    wpAny (model prog w) A (Builtin.«zip.__next__» ⟨[.ref z], []⟩) (fun fin s' => ∃ v, fin = .done (.ret v) ∧ Q v s') E s := by
  show wpAny _ _ (field (.ref z) 2 >>= _) _ _ _
  refine wpAny_bind (wpAny_field hz rfl (x := .bool false) rfl ?_)
  show wpAny _ _ (field (.ref z) 3 >>= _) _ _ _
  refine wpAny_bind (wpAny_field hz rfl (x := .ref TI) rfl (wpAny_bind (wpAny_seqItems hTI rfl ?_)))
  show wpAny _ _ (Builtin.SmallTypes.ownedTupleIsFree (.ref z) >>= _) _ _ _
  refine wpAny_bind (owned_free hz g ?_)
  simp only [if_true]
  refine wpAny_bind (wpAny_rule (wpAny_bind (wpAny_field hz rfl (x := .ref TO) rfl (wpAny_bind (wpAny_setField_rec hz (by simp) fun g1 z1 e1 => ?_)))))
  replace z1 : g1.get? z = some (zobj .ellipsis fb TI TO) := z1
  refine wpAny_bind ?_
  simp only [List.zipIdx_cons, List.zipIdx_nil, List.forIn_cons, List.forIn_nil]
  refine wpAny_bind (wpAny_bind (wpAny_onRaise ?_))
  show wpAny _ _ (Builtin.SmallTypes.nextOf (.ref i1) >>= _) _ _ _
  refine wpAny_bind (wpAny_nextOf_list_item (h1.extBut e1.extBut D.i1z) (hl1.extBut e1.extBut D.l1z) hx fun g2 n1 e2 => wpAny_pure ?_)
  have t2 : IsPair g2 TO a c := e2.extBut _ _ D.TOi1 (e1.extBut _ _ D.TOz hTO)
  refine wpAny_bind (wpAny_seqItems t2 rfl (wpAny_bind (wpAny_updateSeq_pair t2 fun g3 t3 e3 => ?_)))
  replace t3 : IsPair g3 TO x c := t3
  refine wpAny_bind (wpAny_letGo (wpAny_pure ?_))
  refine wpAny_bind (wpAny_bind (wpAny_onRaise ?_))
  show wpAny _ _ (Builtin.SmallTypes.nextOf (.ref i2) >>= _) _ _ _
  refine wpAny_bind (wpAny_nextOf_list_item (((h2.extBut e1.extBut D.i2z).extBut e2.extBut D.i12.symm).extBut e3.extBut D.TOi2.symm)
    (((hl2.extBut e1.extBut D.l2z).extBut e2.extBut D.l2i1).extBut e3.extBut D.l2TO) hy fun g4 n2 e4 => wpAny_pure ?_)
  have t4 : IsPair g4 TO x c := e4.extBut _ _ D.TOi2 t3
  refine wpAny_bind (wpAny_seqItems t4 rfl (wpAny_bind (wpAny_updateSeq_pair t4 fun g5 t5 e5 => ?_)))
  replace t5 : IsPair g5 TO x y := t5
  refine wpAny_bind (wpAny_letGo (wpAny_pure (wpAny_pure ?_)))
  refine wpAny_bind (wpAny_seqItems t5 rfl (wpAny_bind (wpAny_newTuple ?_)))
  have sz : g5.objs.size = s.heap.objs.size := by rw [e5.1, e4.1, e3.1, e2.1, e1.1]
  have z5 : g5.get? z = some (zobj .ellipsis fb TI TO) := e5.extBut _ _ D.TOz.symm (e4.extBut _ _ D.i2z.symm (e3.extBut _ _ D.TOz.symm (e2.extBut _ _ D.i1z.symm z1)))
  have up : ∀ b o, b ≠ z → b ≠ TO → b ≠ i1 → b ≠ i2 → s.heap.get? b = some o → g5.get? b = some o := fun b o c1 c2 c3 c4 e =>
    e5.extBut _ _ c2 (e4.extBut _ _ c4 (e3.extBut _ _ c2 (e2.extBut _ _ c3 (e1.extBut _ _ c1 e))))
  have m1 : g5.IsListIter i1 l1 (k1 + 1) := ((n1.extBut e3.extBut D.TOi1.symm).extBut e4.extBut D.i12).extBut e5.extBut D.TOi1.symm
  have m2 : g5.IsListIter i2 l2 (k2 + 1) := n2.extBut e5.extBut D.TOi2.symm
  have lz : z < g5.objs.size := Heap.lt_size z5
  show wpAny _ _ (Builtin.SmallTypes.ownedTupleHandOut (.ref z) (.ref g5.objs.size) >>= _) _ _ _
  refine wpAny_bind ?_
  unfold Builtin.SmallTypes.ownedTupleHandOut
  have z6 : (g5.push { cls := .type "tuple", data := .seq #[x, y] }).get? z = some (zobj .ellipsis fb TI TO) := Heap.get?_push_of_some _ z5
  refine wpAny_bind (wpAny_setField_rec z6 (by simp) fun g7 z7 e7 => ?_)
  replace z7 : g7.get? z = some (zobj (rawInt g5.objs.size) fb TI TO) := z7
  refine wpAny_setField_rec z7 (by simp) fun g8 z8 e8 => ?_
  replace z8 : g8.get? z = some (zobj (rawInt g5.objs.size) false TI TO) := z8
  have up2 : ∀ b o, b ≠ z → g5.get? b = some o → g8.get? b = some o := fun b o c1 e => e8.extBut _ _ c1 (e7.extBut _ _ c1 (Heap.get?_push_of_some _ e))
  have t8 : IsPair g8 g5.objs.size x y := e8.extBut _ _ (Nat.ne_of_gt lz) (e7.extBut _ _ (Nat.ne_of_gt lz) (Heap.get?_push_size _ rfl))
  rw [sz] at z8 t8
  refine wpAny_pure ⟨_, rfl, ?_⟩
  show Q (.ref g5.objs.size) _
  rw [sz]
  exact hQ g8 z8 (up2 _ _ D.TOz t5) (m1.at fun o e => up2 _ o D.i1z e) (m2.at fun o e => up2 _ o D.i2z e) t8 fun b o c1 c2 c3 c4 e => up2 b o c1 (up b o c1 c2 c3 c4 e)
/-- no pair is left, the tuple free -/
theorem zipG_end {Q : PySem.Fin → Shared → Prop} (hh : A.handled = none) (D : ZipApart z TI TO i1 i2 l1 l2) (hz : s.heap.get? z = some (zobj f0 fb TI TO)) (g : Gone f0 s.heap) (hTI : IsPair s.heap TI (.ref i1) (.ref i2)) (hTO : IsPair s.heap TO a c)
    (h1 : s.heap.IsListIter i1 l1 k1) (h2 : s.heap.IsListIter i2 l2 k2) (hl1 : s.heap.IsList l1 xs) (hl2 : s.heap.IsList l2 ys) (hend : xs[k1]? = none ∨ ys[k2]? = none)
    (hE : ∀ h' e, (∀ b o, b ≠ z → b ≠ TO → b ≠ i1 → b ≠ i2 → s.heap.get? b = some o → h'.get? b = some o) → (∃ o, h'.get? e = some o ∧ o.cls = .type "StopIteration") → E (.ref e) { s with heap := h' }) :
    wpAny (model prog w) A (Builtin.«zip.__next__» ⟨[.ref z], []⟩) Q E s := by
  show wpAny _ _ (field (.ref z) 2 >>= _) _ _ _
  refine wpAny_bind (wpAny_field hz rfl (x := .bool false) rfl ?_)
  show wpAny _ _ (field (.ref z) 3 >>= _) _ _ _
  refine wpAny_bind (wpAny_field hz rfl (x := .ref TI) rfl (wpAny_bind (wpAny_seqItems hTI rfl ?_)))
  show wpAny _ _ (Builtin.SmallTypes.ownedTupleIsFree (.ref z) >>= _) _ _ _
  refine wpAny_bind (owned_free hz g ?_)
  simp only [if_true]
  refine wpAny_bind (wpAny_rule (wpAny_bind (wpAny_field hz rfl (x := .ref TO) rfl (wpAny_bind (wpAny_setField_rec hz (by simp) fun g1 z1 e1 => ?_)))))
  replace z1 : g1.get? z = some (zobj .ellipsis fb TI TO) := z1
  refine wpAny_bind ?_
  simp only [List.zipIdx_cons, List.zipIdx_nil, List.forIn_cons, List.forIn_nil]
  refine wpAny_bind (wpAny_bind (wpAny_onRaise ?_))
  show wpAny _ _ (Builtin.SmallTypes.nextOf (.ref i1) >>= _) _ _ _
  have notZ : ∀ {g : Heap} {e : Addr} {oe : Obj}, g.get? z = some (zobj .ellipsis fb TI TO) → g.get? e = some oe → oe.cls = .type "StopIteration" → e ≠ z := fun {g e oe} q1 q2 q3 q => by
    rw [q, q1] at q2
    cases q2
    injection q3 with q3
    exact absurd q3 (by decide)
  cases hx : xs[k1]? with
  | none =>
    refine wpAny_bind (wpAny_nextOf_list_end hh (h1.extBut e1.extBut D.i1z) (hl1.extBut e1.extBut D.l1z) hx fun g2 e e2 he => ?_)
    obtain ⟨oe, hoe, hce⟩ := he
    have z2 : g2.get? z = some (zobj .ellipsis fb TI TO) := e2 _ _ D.i1z.symm z1
    exact wpAny_setField_rec z2 (by simp) fun g3 _ e3 => hE g3 e (fun b o c1 _ c3 _ q => e3.extBut _ _ c1 (e2 _ _ c3 (e1.extBut _ _ c1 q))) ⟨oe, e3.extBut _ _ (notZ z2 hoe hce) hoe, hce⟩
  | some x =>
    have hy : ys[k2]? = none := hend.resolve_left fun q => by rw [hx] at q; cases q
    refine wpAny_bind (wpAny_nextOf_list_item (h1.extBut e1.extBut D.i1z) (hl1.extBut e1.extBut D.l1z) hx fun g2 n1 e2 => wpAny_pure ?_)
    have t2 : IsPair g2 TO a c := e2.extBut _ _ D.TOi1 (e1.extBut _ _ D.TOz hTO)
    refine wpAny_bind (wpAny_seqItems t2 rfl (wpAny_bind (wpAny_updateSeq_pair t2 fun g3 t3 e3 => ?_)))
    refine wpAny_bind (wpAny_letGo (wpAny_pure ?_))
    refine wpAny_bind (wpAny_bind (wpAny_onRaise ?_))
    show wpAny _ _ (Builtin.SmallTypes.nextOf (.ref i2) >>= _) _ _ _
    refine wpAny_bind (wpAny_nextOf_list_end hh (((h2.extBut e1.extBut D.i2z).extBut e2.extBut D.i12.symm).extBut e3.extBut D.TOi2.symm)
      (((hl2.extBut e1.extBut D.l2z).extBut e2.extBut D.l2i1).extBut e3.extBut D.l2TO) hy fun g4 e e4 he => ?_)
    obtain ⟨oe, hoe, hce⟩ := he
    have z4 : g4.get? z = some (zobj .ellipsis fb TI TO) := e4 _ _ D.i2z.symm (e3.extBut _ _ D.TOz.symm (e2.extBut _ _ D.i1z.symm z1))
    exact wpAny_setField_rec z4 (by simp) fun g5 _ e5 => hE g5 e (fun b o c1 c2 c3 c4 q => e5.extBut _ _ c1 (e4 _ _ c4 (e3.extBut _ _ c2 (e2.extBut _ _ c3 (e1.extBut _ _ c1 q))))) ⟨oe, e5.extBut _ _ (notZ z4 hoe hce) hoe, hce⟩
end
/-- the state of such a zip between two turns -/
def ZipSt (z TI TO i1 i2 a b : Addr) (i : Nat) (h : Heap) : Prop :=
  (∃ f0 fb, (f0 = .none ∨ ∃ T : Addr, f0 = rawInt T) ∧ h.get? z = some (zobj f0 fb TI TO)) ∧ IsPair h TI (.ref i1) (.ref i2) ∧ (∃ x y, IsPair h TO x y) ∧ h.IsListIter i1 a i ∧ h.IsListIter i2 b i
theorem turn_zipN {P : Program} {w : World} {K : PySem.W.Frag} {n : Str} {npos : Pos} {a b z TI TO i1 i2 : Addr} (D : ZipApart z TI TO i1 i2 a b) :
    Turn P w K (.Name n npos) (Itz K a b) [z, TI, TO, i1, i2] z (ZipSt z TI TO i1 i2 a b) where
  mem := by simp
  obj := fun i h st c hc => by
    obtain ⟨⟨f0, fb, _, hz⟩, hTI, ⟨x, y, hTO⟩, ⟨o1, e1, _, d1⟩, ⟨o2, e2, _, d2⟩⟩ := st
    have e' : c = z ∨ c = TI ∨ c = TO ∨ c = i1 ∨ c = i2 := by simpa using hc
    rcases e' with rfl | rfl | rfl | rfl | rfl
    · exact ⟨_, hz, fun v q => nomatch q⟩
    · exact ⟨_, hTI, fun v q => nomatch q⟩
    · exact ⟨_, hTO, fun v q => nomatch q⟩
    · exact ⟨o1, e1, fun v q => by rw [d1] at q; cases q⟩
    · exact ⟨o2, e2, fun v q => by rw [d2] at q; cases q⟩
  keep := fun i h h' st k => by
    obtain ⟨⟨f0, fb, hf, hz⟩, hTI, ⟨x, y, hTO⟩, h1, h2⟩ := st
    exact ⟨⟨f0, fb, hf, k z (by simp) _ hz⟩, k TI (by simp) _ hTI, ⟨x, y, k TO (by simp) _ hTO⟩, h1.at fun o q => k i1 (by simp) o q, h2.at fun o q => k i2 (by simp) o q⟩
  item := by
    intro X hP hw hK hc i pins s σ H E I hf st hg
    subst hP hw hK
    obtain ⟨⟨f0, fb, hf0, hz⟩, hTI, ⟨x0, y0, hTO⟩, h1, h2⟩ := st
    obtain ⟨xs, ys, x, y, hqx, hqy, hx, hy⟩ := hg
    obtain ⟨its, rv, p, _⟩ := I.list hqx
    obtain ⟨its2, rv2, p2, _⟩ := I.list hqy
    obtain ⟨u, hu, ru⟩ := rv.get hx
    obtain ⟨u2, hu2, ru2⟩ := rv2.get hy
    have lts : ∀ c ∈ [z, TI, TO, i1, i2], c < s.heap.objs.size := fun c hcm => by
      have e' : c = z ∨ c = TI ∨ c = TO ∨ c = i1 ∨ c = i2 := by simpa using hcm
      rcases e' with rfl | rfl | rfl | rfl | rfl
      · exact Heap.lt_size hz
      · exact Heap.lt_size hTI
      · exact Heap.lt_size hTO
      · obtain ⟨_, e1, _⟩ := h1; exact Heap.lt_size e1
      · obtain ⟨_, e2, _⟩ := h2; exact Heap.lt_size e2
    -- what is wanted behind the pair
    have fin : ∀ h' : Heap, (∃ f0 fb, (f0 = Value.none ∨ ∃ T : Addr, f0 = rawInt T) ∧ h'.get? z = some (zobj f0 fb TI TO)) → (∃ x y, IsPair h' TO x y) → h'.IsListIter i1 a (i + 1) → h'.IsListIter i2 b (i + 1) → IsPair h' s.heap.objs.size u u2 →
        (∀ c o, c ≠ z → c ≠ TO → c ≠ i1 → c ≠ i2 → s.heap.get? c = some o → h'.get? c = some o) →
        ∃ u', some (Value.ref s.heap.objs.size) = some u' ∧ wpAny (model X.prog X.w) X.A (letOwnedTupleGo (.Name n npos) (.ref z) u') (fun _ s2 => ∃ x H', Inv X pins σ H' s2 ∧ RelV x u' ∧ (Itz X.K a b).yld i H x H' ∧ ZipSt z TI TO i1 i2 a b (i + 1) s2.heap ∧ ∀ b ∈ [z, TI, TO, i1, i2], H' b = none) E { s with heap := h' } := by
      intro h' z' t' m1 m2 tp up
      refine ⟨_, rfl, ?_⟩
      show wpAny _ _ (pure ()) _ _ _
      refine wpAny_pure ?_
      have new : ObjOk X.prog X.w (upd H s.heap.objs.size (.tup [x, y])) h' s.heap.objs.size (.tup [x, y]) :=
        ⟨by show 2 ≤ sizeLine; decide, [u, u2], .cons ru (.cons ru2 .nil), ⟨_, tp, rfl, _, rfl⟩⟩
      have I1 : Inv X pins σ (upd H s.heap.objs.size (.tup [x, y])) { s with heap := h' } :=
        I.turnedNew (t' := s.toks) (ch := [z, TI, TO, i1, i2]) (fun c o hb q => up c o (fun e => hb (by simp [e])) (fun e => hb (by simp [e])) (fun e => hb (by simp [e])) (fun e => hb (by simp [e])) q) hf (Nat.le_refl _) new
      refine ⟨.ref s.heap.objs.size, _, I1, rfl, ⟨_, x, y, rfl, I.hok.fresh (Nat.le_refl _), rfl, fun l hl => by rw [I.list_inj hl hqx]; exact hx, fun l hl => by rw [I.list_inj hl hqy]; exact hy⟩, ⟨z', ?_, t', m1, m2⟩, fun c hcm => ?_⟩
      · exact up _ _ D.TIz D.TITO D.TIi1 D.TIi2 hTI
      · rw [upd_ne (Nat.ne_of_lt (lts c hcm))]
        exact (hf c hcm).1
    have gx : its.toArray[i]? = some u := by simpa using hu
    have gy : its2.toArray[i]? = some u2 := by simpa using hu2
    by_cases hgone : Gone f0 s.heap
    · have hTy : s.TypeIs (.ref z) "zip" := ⟨_, hz, rfl⟩
      unfold pyNext
      exact wpAny_bind (wpAny_attempt (wpAny_callSpecial?_slot (name := Str.ofString "__next__") hTy F.slot_zip_next
        (wpAny_call_entry F.slot_zip_next hTy F.entry_zip_next
          (zipG_item D hz hgone hTI hTO h1 h2 p.isList p2.isList gx gy fun h' a1 a2 a3 a4 a5 a6 => wpAny_pure (fin h' ⟨_, _, .inr ⟨_, rfl⟩, a1⟩ ⟨_, _, a2⟩ a3 a4 a5 a6)) (F.args_zip_next_1 _))))
    · rcases hf0 with rfl | ⟨T, rfl⟩
      · exact absurd (.inl rfl) hgone
      · cases hT : s.heap.get? T with
        | none => exact absurd (.inr ⟨T, rfl, hT⟩) hgone
        | some oT =>
          refine wpAny_pyNext_zip_item_held D hz hT hTI h1 h2 p.isList p2.isList gx gy fun h' a1 a3 a4 a5 _ a6 => ?_
          exact fin h' ⟨_, _, .inr ⟨_, rfl⟩, a1⟩ ⟨x0, y0, a6 _ _ D.TOz D.TOi1 D.TOi2 hTO⟩ a3 a4 a5 fun c o c1 _ c3 c4 e => a6 c o c1 c3 c4 e
  done := by
    intro X hP hw hK hc i pins s σ H E I hf st hg
    subst hP hw hK
    obtain ⟨⟨f0, fb, hf0, hz⟩, hTI, ⟨x0, y0, hTO⟩, h1, h2⟩ := st
    obtain ⟨xs, ys, hqx, hqy, hend⟩ := hg
    obtain ⟨its, rv, p, _⟩ := I.list hqx
    obtain ⟨its2, rv2, p2, _⟩ := I.list hqy
    have q1 := rv.length
    have q2 := rv2.length
    have he : its.toArray[i]? = none ∨ its2.toArray[i]? = none := hend.imp (fun q => by simp; omega) (fun q => by simp; omega)
    have fin : ∀ h' : Heap, (∀ c o, c ≠ z → c ≠ TO → c ≠ i1 → c ≠ i2 → s.heap.get? c = some o → h'.get? c = some o) → Inv X pins σ H { s with heap := h' } := fun h' up =>
      I.turnedL (t' := s.toks) (ch := [z, TI, TO, i1, i2]) (fun c o hb q => up c o (fun e => hb (by simp [e])) (fun e => hb (by simp [e])) (fun e => hb (by simp [e])) (fun e => hb (by simp [e])) q) hf
    by_cases hgone : Gone f0 s.heap
    · have hTy : s.TypeIs (.ref z) "zip" := ⟨_, hz, rfl⟩
      unfold pyNext
      refine wpAny_bind (wpAny_attempt (wpAny_callSpecial?_slot (name := Str.ofString "__next__") hTy F.slot_zip_next
        (wpAny_call_entry F.slot_zip_next hTy F.entry_zip_next (zipG_end (I.ok.hd hc) D hz hgone hTI hTO h1 h2 p.isList p2.isList he fun h' e up hse => ?_) (F.args_zip_next_1 _))))
      obtain ⟨o, ho, hco⟩ := hse
      exact wpAny_bind (wpAny_isInstance (T := "StopIteration") (b := true) ⟨o, ho, hco⟩ isSubtype_stop (wpAny_pure ⟨rfl, fin h' up⟩))
    · rcases hf0 with rfl | ⟨T, rfl⟩
      · exact absurd (.inl rfl) hgone
      · cases hT : s.heap.get? T with
        | none => exact absurd (.inr ⟨T, rfl, hT⟩) hgone
        | some oT => exact wpAny_pyNext_zip_end_held (I.ok.hd hc) D hz hT hTI h1 h2 p.isList p2.isList he fun h' up => ⟨rfl, fin h' fun c o c1 _ c3 c4 e => up c o c1 c3 c4 e⟩
  self := fun A i s Q E st h => by
    obtain ⟨⟨f0, fb, _, hz⟩, _⟩ := st
    have hTy : s.TypeIs (.ref z) "zip" := ⟨_, hz, rfl⟩
    refine wpAny_pyIter_slot hTy F.slot_zip_iter (wpAny_call_entry F.slot_zip_iter hTy F.entry_zip_iter ?_ (F.args_zip_iter_1 _))
    show wpAny _ _ (ret (.ref z)) _ _ s
    exact wpAny_pure ⟨_, rfl, "zip", _, hTy, F.slot_zip_next.lookup, h⟩
theorem pi_zipN {X : Cx} {e e2 : Expr} {ta : TA} {p pos npos : Pos} {n : Str} (hg : Gl X "zip") (hm : X.mg "zip" = none) (ha : PA X [e, e2] ta)
    (hs : starEach [e, e2] X.env = (false, eval e X.env) :: starEach [e2] X.env := by rfl) (hpl : (backTo pos (starEach [e2] X.env)).any (·.1) = false := by rfl) :
    PI X (.Name n npos) (.Call (.Name "zip" p) [e, e2] [] pos) (iZip X.K ta) := by
  refine ⟨fun pins s σ H R I h => ?_⟩
  refine Call_ (ld_blt I hg hm PyProof.Rows.boot_zip (PyProof.Rows.callWith_type1 (thn (ha.run pos pins s σ H _ I h) fun us s1 ⟨vs, H1, I1, r1, q1⟩ => ?_) hs hpl))
  obtain ⟨a, b, xs, ys, rfl, hqx, hqy, q⟩ := q1
  cases r1 with
  | cons r rr =>
    cases rr with
    | cons r' rr =>
      cases rr
      cases r
      cases r'
      obtain ⟨its, rv, p1, _⟩ := I1.list hqx
      obtain ⟨its2, rv2, p2, _⟩ := I1.list hqy
      have la : a < s1.heap.objs.size := p1.lt
      have lb : b < s1.heap.objs.size := p2.lt
      refine call_zip_2 p1.isList p2.isList fun h' hz hTI hTO h1 h2 hsz hk => wpAny_pyIter_zip hz ?_
      have I2 : Inv X pins σ H1 { s1 with heap := h' } := I1.kept (t' := s1.toks) hk
      refine ⟨s1.heap.objs.size + 4, [s1.heap.objs.size + 4, s1.heap.objs.size + 2, s1.heap.objs.size + 3, s1.heap.objs.size, s1.heap.objs.size + 1], _, _, H1, rfl, I2, turn_zipN (PySem.W.ktu_apart s1.heap.objs.size a b la lb), ⟨⟨_, _, .inl rfl, hz⟩, hTI, ⟨_, _, hTO⟩, h1, h2⟩, fun c hcm => ?_, q⟩
      have hle : s1.heap.objs.size ≤ c := by
        have e' : c = s1.heap.objs.size + 4 ∨ c = s1.heap.objs.size + 2 ∨ c = s1.heap.objs.size + 3 ∨ c = s1.heap.objs.size ∨ c = s1.heap.objs.size + 1 := by simpa using hcm
        rcases e' with rfl | rfl | rfl | rfl | rfl <;> first | exact Nat.le_add_right _ _ | exact Nat.le_refl _
      exact I1.fpOk hle (I1.hok.fresh hle)
end KW

namespace KW
open PySem PySem.Spec PyProof.Rows L2
def nv (n : Nat) : V := .int (n : Int)
/-! ### sorted(xs, key=lambda contract: (contracts[contract][2], contract)), and with the price negated -/
abbrev nC : Str := "contract"
abbrev nCs : Str := "contracts"
def kScope : Scope := { kind := .function, names := [(PySem.Str.ofString "contract", .local), (PySem.Str.ofString "contracts", .free)], isGenerator := false, isCoroutine := false, more := [] }
def kArgs (p : Pos) : Arguments := { posonlyargs := [], args := [{ arg := "contract", annotation := none, pos := p }], vararg := none, kwonlyargs := [], kw_defaults := [], kwarg := none, defaults := [] }
def kSub (p1 p2 p3 p4 p5 : Pos) : Expr := .Subscript (.Subscript (.Name "contracts" p1) (.Name "contract" p2) p3) (.Constant (.int 2) 0 p4) p5
/-- what the two keys say -/
def keyOf (neg : Bool) (p1 p2 p3 p4 p5 p6 : Pos) : Expr := cond neg (.UnaryOp .USub (kSub p1 p2 p3 p4 p5) p6) (kSub p1 p2 p3 p4 p5)
def keyV (neg : Bool) (i : Int) : Int := cond neg (-i) i
def kBody (neg : Bool) (p1 p2 p3 p4 p5 p6 p7 p8 : Pos) : Expr := .Tuple [keyOf neg p1 p2 p3 p4 p5 p6, .Name "contract" p7] 0 p8
section
variable {prog : Program} {w : World} {A : Around} {E : Value → Shared → Prop} {s : Shared}
/-- what the lambda reads -/
structure KeyAt (h : Heap) (ca : Addr) (n : Nat) (p : Int) : Prop where
  ex : ∃ (its : Array Value) (ta : Addr) (tits : Array Value) (u : Tok), IsTup h ca its ∧ its.size ≤ sizeLine ∧ its[n]? = some (.ref ta) ∧ IsTup h ta tits ∧ tits.size ≤ sizeLine ∧ tits[2]? = some (.int p u)
theorem tup_keeps {h h' : Heap} {a : Addr} {its : Array Value} (k : ∀ b o, h.get? b = some o → h'.get? b = some o) (t : IsTup h a its) : IsTup h' a its := by
  obtain ⟨o, e, r⟩ := t
  exact ⟨o, k _ _ e, r⟩
theorem KeyAt.keeps {h h' : Heap} {ca : Addr} {n : Nat} {p : Int} (k : ∀ b o, h.get? b = some o → h'.get? b = some o) (x : KeyAt h ca n p) : KeyAt h' ca n p := by
  obtain ⟨its, ta, tits, u, a1, a2, a3, a4, a5, a6⟩ := x.ex
  exact ⟨its, ta, tits, u, tup_keeps k a1, a2, a3, tup_keeps k a4, a5, a6⟩
theorem ix_item {value slice : Expr} {a : Addr} {its : Array Value} {n : Nat} {u : Tok} {x : Value} {Q : Value → Shared → Prop} (ht : IsTup s.heap a its) (hz : its.size ≤ sizeLine) (hx : its[n]? = some x) (h : Q x s)
    (hs : subscripted slice false (.ref a) (.int (n : Int) u) = operate [.ref a, .int (n : Int) u] (getItem (.ref a) (.int (n : Int) u)) := by rfl) : wpAny (model prog w) A (subscriptTail value slice (.ref a) (.int (n : Int) u)) Q E s := by
  have hn : n < its.size := (Array.getElem?_eq_some_iff.mp hx).1
  have h63 : (n : Int) < 2 ^ 63 := by
    have z : sizeLine = 16777216 := sizeLine_eq
    omega
  refine subscriptTail_builtinR (x := x) ht.typeIs slot_tuple_getitem.lookup (PyProof.Rows.getItem_tuple (j := n) (Q := fun r s' => r = x ∧ Q r s') ht (by omega) h63 ?_ hx ⟨rfl, h⟩) hs
  unfold seqIndex?
  simp only [Int.toNat_natCast]
  first
    | (rw [if_neg (by omega)]; simp [hn])
    | (simp [hn]; omega)
    | simp [hn]
theorem kSub_eval {q : Str} {L f c' cc ca : Addr} {cl : List (Str × Addr)} {m : Str → Option Value} {n : Nat} {t : Tok} {p : Int} {p1 p2 p3 p4 p5 : Pos} {Q : Value → Shared → Prop} (hn : s.heap.Ns L m) (hm : m nC = some (.int (n : Int) t)) (hcl : cl.lookup nCs = some cc)
    (hc : s.heap.IsCell cc (some (.ref ca))) (K : KeyAt s.heap ca n p) (h : ∀ u tk, Q (.int p u) { s with toks := tk }) : wpAny (model prog w) A (eval (kSub p1 p2 p3 p4 p5) (PySem.W.envX q kScope L f (.ref c') cl)) Q E s := by
  obtain ⟨its, ta, tits, u, a1, a2, a3, a4, a5, a6⟩ := K.ex
  unfold kSub
  refine Subscript_ (Subscript_ (wpAny_Name (wpAny_loadName_free (c := cc) rfl rfl hcl hc (wpAny_Name (wpAny_loadName_local rfl rfl hn hm ?_))))) 
  refine ix_item a1 a2 a3 ?_
  refine wpAny_Constant_int ?_
  exact ix_item (n := 2) (s := { s with toks := s.toks + 1 }) a4 a5 a6 (h u _)
theorem keyOf_eval {neg : Bool} {q : Str} {L f c' cc ca : Addr} {cl : List (Str × Addr)} {m : Str → Option Value} {n : Nat} {t : Tok} {p : Int} {p1 p2 p3 p4 p5 p6 : Pos} {Q : Value → Shared → Prop} (hn : s.heap.Ns L m) (hm : m nC = some (.int (n : Int) t)) (hcl : cl.lookup nCs = some cc)
    (hc : s.heap.IsCell cc (some (.ref ca))) (K : KeyAt s.heap ca n p) (h : ∀ u tk, Q (.int (keyV neg p) u) { s with toks := tk }) : wpAny (model prog w) A (eval (keyOf neg p1 p2 p3 p4 p5 p6) (PySem.W.envX q kScope L f (.ref c') cl)) Q E s := by
  cases neg with
  | false => exact kSub_eval hn hm hcl hc K h
  | true =>
    show wpAny _ _ (eval (.UnaryOp .USub (kSub p1 p2 p3 p4 p5) p6) _) _ _ _
    exact UnaryOp_ (kSub_eval hn hm hcl hc K fun u tk => neg_int (h _ _))
theorem lam_key {neg : Bool} {q : Str} {f c' cc ca : Addr} {cl : List (Str × Addr)} {pm ctv : Value} {n : Nat} {t : Tok} {p : Int} {p0 p1 p2 p3 p4 p5 p6 p7 p8 : Pos} (hf : s.heap.get? f = some (PySem.W.kla_obj "<lambda>" q (kArgs p0) (kBody neg p1 p2 p3 p4 p5 p6 p7 p8) kScope cl pm c' ctv))
    (hcd : s.heap.CodeRec (.ref c') q) (lim : s.heap.NoLimit) (hroom : A.depth < recursionLimit) (hcl : cl.lookup nCs = some cc) (hc : s.heap.IsCell cc (some (.ref ca))) (K : KeyAt s.heap ca n p) :
    wpAny (model prog w) A (call (.ref f) [.int (n : Int) t]) (PySem.W.KeyPure (.tuple [.int (keyV neg p), .int (n : Int)]) s) (fun _ _ => False) s := by
  refine wpAny_call (PySem.W.kla_callFunE hroom hf rfl rfl rfl rfl hcd ?_)
  have hb : bindArgs (PySem.W.kla_fn "<lambda>" q (kArgs p0) (kBody neg p1 p2 p3 p4 p5 p6 p7 p8) kScope cl pm (.ref c') ctv) ⟨[Value.int (n : Int) t], []⟩ = pure [((nC : Str), Value.int (n : Int) t)] := by rfl
  rw [hb]
  have noCell : ∀ x ∈ kScope.names, x.2 ≠ .cell := by decide
  have par : ∀ x ∈ [((nC : Str), Value.int (n : Int) t)], kScope.names.lookup x.1 = some .local := fun x hx => by
    obtain rfl := List.mem_singleton.mp hx
    rfl
  refine wpAny_pure (wpAny_newFunctionEnv noCell par (fun h1 hns hsb => ⟨lim.fresh _ hsb, ?_⟩) rfl)
  have kp : ∀ b o, s.heap.get? b = some o → h1.get? b = some o := fun b o e => hsb.extBut b o (Nat.ne_of_lt (Heap.lt_size e)) (Heap.get?_push_of_some _ e)
  show codeAny _ _ (.expr (kBody neg p1 p2 p3 p4 p5 p6 p7 p8) (PySem.W.envX q kScope s.heap.objs.size f (.ref c') cl)) _ _
  refine PySem.W.kla_codeExpr ?_
  have hc1 : h1.IsCell cc (some (.ref ca)) := by
    obtain ⟨o, e, r⟩ := hc
    exact ⟨o, kp _ _ e, r⟩
  have K1 := K.keeps kp
  have hm : (fun x => ([("contract", Value.int (n : Int) t)] : List (Str × Value)).reverse.lookup x) nC = some (.int (n : Int) t) := by rfl
  unfold kBody
  refine Tuple_ ?_
  have hst : ∀ env : Env, starEach [keyOf neg p1 p2 p3 p4 p5 p6, .Name "contract" p7] env = (false, eval (keyOf neg p1 p2 p3 p4 p5 p6) env) :: starEach [.Name "contract" p7] env := fun env => by cases neg <;> rfl
  rw [hst]
  show wpAny _ _ (spliced ((false, eval (keyOf neg p1 p2 p3 p4 p5 p6) (PySem.W.envX q kScope s.heap.objs.size f (.ref c') cl)) :: backTo p8 (starEach [.Name "contract" p7] (PySem.W.envX q kScope s.heap.objs.size f (.ref c') cl)))) _ _ _
  refine Calls.spliced_cons (keyOf_eval (s := { s with heap := h1, toks := _ }) hns hm hcl hc1 K1 fun u tk => ?_)
  show wpAny _ _ (spliced ((false, eval (.Name "contract" p7) (PySem.W.envX q kScope s.heap.objs.size f (.ref c') cl)) :: [])) _ _ _
  refine Calls.spliced_cons (wpAny_Name (wpAny_loadName_local (s := { s with heap := h1, toks := tk }) rfl rfl hns hm ?_))
  refine Calls.spliced_nil ?_
  refine wpAny_newTuple ?_
  refine ⟨h1.push { cls := .type "tuple", data := .seq [Value.int (keyV neg p) u, .int (n : Int) t].toArray }, tk, rfl, fun b o e => Heap.get?_push_of_some _ (kp b o e), ?_⟩
  exact .tuple (as := []) (Heap.get?_push_size _ rfl) rfl rfl (.cons (as := []) (bs := []) (.int _ _) (.cons (as := []) (bs := []) (.int _ _) .nil))
end
/-! ### the rule -/
open LamX in
/-- what is asked of the list and the contracts, and what is told behind -/
def RSort (K : PySem.W.Frag) (T : List (Addr × Str)) (neg : Bool) (j : Nat) (σ : L2.St) (Q : VK) (x : V) (H1 : Hp) : Prop := ∃ (l ca : Addr) (ns : List Nat) (cs : List V) (price : Nat → Int),
  x = .ref l ∧ SqL K H1 l (ns.map nv) ∧ σ[j]? = some (some (.ref ca)) ∧ SqT K H1 ca cs ∧ (∀ n ∈ ns, ∃ ta xs, cs[n]? = some (.ref ta) ∧ SqT K H1 ta xs ∧ xs[2]? = some (.int (price n))) ∧ Tabs T H1 ∧
  ∀ H2 p, ExtN H1 H2 → Tabs T H2 → H2 p = none → Q (.ref p) (upd H2 p (.lst ((ns.mergeSort (cond neg (K39.leS price) (K39.leB price))).map nv)))
/-- xs sorted by the keys: the numbers ns at the list, contracts at the slot j; T: the table of the def's lambdas -/
def tSortLam (K : PySem.W.Frag) (T : List (Addr × Str)) (neg : Bool) (j : Nat) (te : TE) : TE := fun σ H Q => te σ H (RSort K T neg j σ Q)
def only1 (R : V → Hp → Prop) (vs : List V) (H : Hp) : Prop := match vs with
  | [x] => R x H
  | _ => False
theorem leB_eq (price : Nat → Int) (neg : Bool) : (fun p q : Nat => decide (keyV neg (price p) < keyV neg (price q) ∨ (keyV neg (price p) = keyV neg (price q) ∧ (p : Int) ≤ (q : Int)))) = cond neg (K39.leS price) (K39.leB price) := by
  funext p q
  cases neg with
  | false =>
    show decide (price p < price q ∨ (price p = price q ∧ (p : Int) ≤ (q : Int))) = K39.leB price p q
    unfold K39.leB
    rw [Bool.eq_iff_iff]
    simp only [decide_eq_true_eq, Bool.or_eq_true, Bool.and_eq_true, beq_iff_eq, Int.ofNat_le]
  | true =>
    show decide (-price p < -price q ∨ (-price p = -price q ∧ (p : Int) ≤ (q : Int))) = K39.leS price p q
    unfold K39.leS
    rw [Bool.eq_iff_iff]
    simp only [decide_eq_true_eq, Bool.or_eq_true, Bool.and_eq_true, beq_iff_eq]
    omega
theorem each_ints : ∀ {ns : List Nat} {us : List Value}, Vals (ns.map nv) us → PySem.W.EachIs (fun v n => ∃ t, v = Value.int ((n : Nat) : Int) t) us ns
  | [], us, r => by
    have r' : Vals [] us := r
    cases r'
    exact .nil
  | n :: ns, us, r => by
    have r' : Vals (nv n :: ns.map nv) us := r
    cases r' with
    | cons r1 r2 =>
      obtain ⟨t, e⟩ := r1
      exact .cons ⟨t, e⟩ (each_ints r2)
theorem vals_each : ∀ {ns : List Nat} {us : List Value}, PySem.W.EachIs (fun v n => ∃ t, v = Value.int ((n : Nat) : Int) t) us ns → Vals (ns.map nv) us
  | _, _, .nil => .nil
  | _, _, .cons ⟨t, e⟩ h => .cons ⟨t, e⟩ (vals_each h)
open LamX in
theorem pe_sortLam {X : Cx} {T : List (Addr × Str)} {neg : Bool} {j : Nat} {c P : Addr} {e : Expr} {te : TE} {p pos kpos lpos p0 p1 p2 p3 p4 p5 p6 p7 p8 : Pos} (hg : Gl X "sorted") (hm : X.mg "sorted" = none) (he : PE X e te) (TB : TabB X.base X.mg c P) (hcode : X.env.code = .ref c)
    (hmT : (P, X.env.qual ++ "<lambda>") ∈ T) (hu : ∀ q ∈ T, q.1 = P → q.2 = X.env.qual ++ "<lambda>") (hr : X.A.depth + 5 < recursionLimit) (hun : X.A.units + 64 < cLine) (hj : X.N[j]? = some nCs) (hcell : X.env.scope.names.lookup nCs = some .cell)
    (hs : starEach [e] X.env = (false, eval e X.env) :: starEach [] X.env := by rfl) (hs2 : backTo pos (starEach [e] X.env) = (false, eval e X.env) :: backTo pos (starEach [] X.env) := by rfl) (hs3 : (backTo pos (starEach [e] X.env)).any (·.1) = false := by rfl) :
    PE X (.Call (.Name "sorted" p) [e] [⟨some "key", .Lambda (kArgs p0) (kBody neg p1 p2 p3 p4 p5 p6 p7 p8) kScope lpos, kpos⟩] pos) (tSortLam X.K T neg j te) := by
  refine ⟨fun pins s σ H Q I h => ?_⟩
  refine wpAny_Call_Name_kw (ld_blt (u := Value.builtin "sorted") I hg hm (by decide +kernel) ?_)
  refine PyProof.Rows.callWith_kw (id := "sorted") ?_ hs2 hs3 (by rfl) (by rfl)
  refine thn ((pa_cons he pa_nil hs).run pos pins s σ H (only1 (RSort X.K T neg j σ Q)) I h) fun us s1 hq => ?_
  obtain ⟨vs, H1, I1, r1, hq⟩ := hq
  obtain ⟨x, rfl⟩ : ∃ x, vs = [x] := by
    match vs, hq with
    | [x], _ => exact ⟨x, rfl⟩
  obtain ⟨l, ca, ns, cs, price, rfl, hl, hσ, hcs, hpr, hT, q⟩ := hq
  obtain rfl := Vals.ref1 r1
  have hfree : ∀ y ∈ kScope.names, y.2 = .free → ∃ c, X.env.cells.lookup y.1 = some c := fun y hy e => by
    have e' : y = (PySem.Str.ofString "contract", .local) ∨ y = (PySem.Str.ofString "contracts", .free) := by simpa [kScope] using hy
    rcases e' with rfl | rfl
    · cases e
    · exact I.ok.has _ (.inl hcell)
  refine kws_cons (lam_make2 I1 TB hcode hmT hu hT rfl hfree fun f c' pm ctv H2 s2 I2 eN T2 hf hfn hfr hco => kws_nil ?_)
  show wpAny _ _ (call (.builtin "sorted") [.ref l] [(Str.ofString "key", .ref f)]) _ _ _
  -- the contracts' cell
  obtain ⟨m, hns, hloc⟩ := I2.loc
  obtain ⟨u, ru, look⟩ := hloc j nCs (.ref ca) hj hσ (.inr (.inl hcell))
  obtain rfl : u = Value.ref ca := ru
  obtain ⟨cc, hcc, hcell2⟩ : ∃ cc, X.env.cells.lookup nCs = some cc ∧ s2.heap.IsCell cc (some (.ref ca)) := by
    rcases look with ⟨hk, _⟩ | ⟨_, cc, e1, e2⟩
    · have hk' : X.env.scope.names.lookup nCs = some .local := hk
      rw [hcell] at hk'
      cases hk'
    · exact ⟨cc, e1, e2⟩
  have hclo : (cloFrom X.env.cells kScope.names []).lookup nCs = some cc := by
    have e : (X.env.cells.lookup nCs).getD 0 = cc := by rw [hcc]; rfl
    rw [← e]
    rfl
  -- the objects at the heap behind the making
  have upL : SqL X.K H2 l (ns.map nv) := by
    rcases hl with (z | ⟨o, z⟩) | z
    · exact .inl (.inl (eN _ _ z (fun ps q => by cases q)))
    · exact .inl (.inr ⟨o, eN _ _ z (fun ps q => by cases q)⟩)
    · exact .inr z
  have upT : ∀ {a : Addr} {xs : List V}, SqT X.K H1 a xs → SqT X.K H2 a xs := fun {a xs} h => by
    rcases h with (z | ⟨o, z⟩) | z
    · exact .inl (.inl (eN _ _ z (fun ps q => by cases q)))
    · exact .inl (.inr ⟨o, eN _ _ z (fun ps q => by cases q)⟩)
    · exact .inr z
  obtain ⟨its, rv, pl, hz⟩ := I2.list upL
  have hlen : its.length = ns.length := by rw [← rv.length, List.length_map]
  have hz' : ns.length ≤ sizeLine := by rw [List.length_map] at hz; exact hz
  have key : ∀ n ∈ ns, KeyAt s2.heap ca n (price n) := fun n hn => by
    obtain ⟨ta, xs, g1, g2, g3⟩ := hpr n hn
    obtain ⟨cits, crv, cp, cz⟩ := I2.tuple (upT hcs)
    obtain ⟨tits, trv, tp, tz⟩ := I2.tuple (upT g2)
    obtain ⟨v1, e1, r1⟩ := crv.get g1
    obtain rfl : v1 = Value.ref ta := r1
    obtain ⟨v2, e2, r2⟩ := trv.get g3
    obtain ⟨t2, rfl⟩ := r2
    have q1 := crv.length
    have q2 := trv.length
    exact ⟨cits.toArray, ta, tits.toArray, t2, cp, by rw [List.size_toArray]; omega, by simpa using e1, tp, by rw [List.size_toArray]; omega, by simpa using e2⟩
  obtain ⟨⟨oc, vs, t, hoc, hd, hv⟩, _, _⟩ := I2.hok c' _ hco
  have hunits : X.A.in1.in1.units ≤ X.A.units + 2 := Nat.le_refl _
  refine PySem.W.sorted_key_data (b := false) (bs := ns) (R := fun v n => ∃ t, v = Value.int ((n : Nat) : Int) t) (fun n => .tuple [.int (keyV neg (price n)), .int (n : Int)]) pl.isList (each_ints rv) (PySem.W.AllAlike.of fun _ _ => by simp [PySem.W.alike, PySem.W.alikeAll]) (PySem.W.Sortable.tuples fun _ => ⟨_, _, rfl⟩) hz' (fun n _ => ?_)
    (ksk_s1 _ _) (fun _ => ksk_l1 _ _) (fun _ => ksk_t1 _ _) (fun v n hR hn h tk kp => ?_) fun out c2 h' tk kp _ hD _ eo => ?_
  · have hdp : (PyData.tuple [.int (keyV neg (price n)), .int (n : Int)]).depth = 1 := by simp [PyData.depth, PyData.depthAll]
    rw [hdp]
    omega
  · obtain ⟨t', rfl⟩ := hR
    refine lam_key (s := { s2 with heap := h, toks := tk }) (kp _ _ hf) ⟨c', oc, vs, t, rfl, kp _ _ hoc, hd, hv⟩ (I2.nolimit.keeps kp) ?_ hclo ?_ ((key n hn).keeps kp)
    · show X.A.depth < recursionLimit
      omega
    · obtain ⟨o, e, r⟩ := hcell2
      exact ⟨o, kp _ _ e, r⟩
  · rw [PySem.W.dataLe_ii (β := Nat) (fun n => keyV neg (price n)) (fun n => (n : Int)), leB_eq] at eo
    have hl2 : ((ns.mergeSort (cond neg (K39.leS price) (K39.leB price))).map nv).length ≤ sizeLine := by
      rw [List.length_map, List.length_mergeSort]
      exact hz'
    refine ⟨.ref _, upd H2 (s2.heap.objs.size + 1) (.lst ((ns.mergeSort (cond neg (K39.leS price) (K39.leB price))).map nv)), I2.laid (t' := tk) kp (Nat.le_succ _) ⟨hl2, out, c2, vals_each eo, hD⟩, rfl, q H2 _ eN T2 (I2.hok.fresh (Nat.le_succ _))⟩
end KW

namespace KW
open PySem PySem.Spec PyProof.Rows L2
section
variable {X : Cx}
/-! ### set(t), t a tuple of ints -/
def rSetTup (K : PySem.W.Frag) (w : World) : List V → Hp → VK → Prop := fun xs H Q => ∃ (p : Addr) (ns : List Int), xs = [.ref p] ∧ SqT K H p (ns.map V.int) ∧ ns.length ≤ 60 ∧ ∀ a c, H a = none → c ≤ ns.length → Q (.ref a) (upd H a (SetO w a (fun j => decide (j ∈ ns)) c))
theorem cr_setTup (hc : X.calm = true) : CallR X (.type "set") (rSetTup X.K X.w) := by
  intro pins s σ H xs us Q I r h
  obtain ⟨p, ns, rfl, hq, hl, q⟩ := h
  obtain rfl := Vals.ref1 r
  obtain ⟨its, rv, pt, hz⟩ := I.tuple hq
  have hi : IntsAre its.toArray.toList ns := rv.ints
  refine call_set_tupI ns (I.ok.hd hc) (show s.heap.IsTuple p its.toArray from pt) hi (by unfold scanBound; omega) fun h' tk c R1 hcn k => ?_
  exact ⟨.ref _, upd H s.heap.objs.size (SetO X.w s.heap.objs.size (fun j => decide (j ∈ ns)) c), I.laid (t' := tk) k (Nat.le_refl _) (setO_new R1), rfl, q _ _ (I.hok.fresh (Nat.le_refl _)) hcn⟩
/-! ### t.index(n), t a tuple of numbers -/
theorem mt_tupIndexN : MtR X "tuple.index" (fun x xs H Q => ∃ (p : Addr) (ns : List Nat) (n : Nat), x = .ref p ∧ xs = [nv n] ∧ SqT X.K H p (ns.map nv) ∧ n ∈ ns ∧ Q (nv (ns.idxOf n)) H) := by
  intro pins s σ H x xs v us Q I rx rs h
  obtain ⟨p, ns, n, rfl, rfl, hq, hn, q⟩ := h
  cases rx
  cases rs with
  | cons ry rt =>
    cases rt
    obtain ⟨t, rfl⟩ := ry
    obtain ⟨its, rv, pt, hz⟩ := I.tuple hq
    have em : ns.map nv = (ns.map fun n : Nat => (n : Int)).map V.int := by rw [List.map_map]; rfl
    rw [em] at rv
    have hi : IntsAre its (ns.map fun n : Nat => (n : Int)) := rv.ints
    have hk : (n : Int) ∈ ns.map fun n : Nat => (n : Int) := List.mem_map.mpr ⟨n, hn, rfl⟩
    have hidx : ∀ l : List Nat, (l.map fun n : Nat => (n : Int)).idxOf (n : Int) = l.idxOf n := fun l => by
      induction l with
      | nil => rfl
      | cons a l ih =>
        rw [List.map_cons, List.idxOf_cons, List.idxOf_cons, ih]
        have e : (((a : Nat) : Int) == (n : Int)) = (a == n) := by
          rw [Bool.eq_iff_iff, beq_iff_eq, beq_iff_eq]
          omega
        rw [e]
    refine PySem.SeqAt.tuple_index_ints (show s.heap.IsTuple p its.toArray from pt) hi hk ?_
    rw [hidx]
    exact ⟨nv (ns.idxOf n), H, I.tok _, ⟨_, rfl⟩, q⟩
/-! ### t[::-1], t a tuple -/
theorem filterMap_same {α β : Type} {f g : α → Option β} : ∀ {l : List α}, (∀ a ∈ l, f a = g a) → l.filterMap f = l.filterMap g
  | [], _ => rfl
  | a :: l, h => by
    rw [List.filterMap_cons, List.filterMap_cons, h a List.mem_cons_self, filterMap_same fun b m => h b (List.mem_cons_of_mem _ m)]
theorem rev_pick (xs : List Value) : ((List.range xs.length).filterMap fun (k : Nat) => xs.toArray[(((xs.length : Nat) : Int) - 1 + (k : Int) * (-1)).toNat]?).toArray = xs.reverse.toArray := by
  congr 1
  have e : ∀ k, k < xs.length → (((xs.length : Nat) : Int) - 1 + (k : Int) * (-1)).toNat = xs.length - 1 - k := fun k hk => by omega
  apply List.ext_getElem?
  intro i
  have fm : ((List.range xs.length).filterMap fun (k : Nat) => xs.toArray[(((xs.length : Nat) : Int) - 1 + (k : Int) * (-1)).toNat]?) = (List.range xs.length).map fun k => xs.getD (xs.length - 1 - k) .none := by
    rw [← List.filterMap_eq_map]
    refine filterMap_same fun k hk => ?_
    have hk' := List.mem_range.mp hk
    rw [e k hk']
    show xs.toArray[xs.length - 1 - k]? = some (xs.getD (xs.length - 1 - k) .none)
    have hlt : xs.length - 1 - k < xs.length := by omega
    simp [List.getD, hlt]
  rw [fm]
  by_cases hi : i < xs.length
  · rw [List.getElem?_map, List.getElem?_range hi, List.getElem?_reverse hi]
    have hlt : xs.length - 1 - i < xs.length := by omega
    simp [List.getD, hlt]
  · rw [List.getElem?_eq_none (by simp; omega), List.getElem?_eq_none (by simp; omega)]
theorem getItem_tupRev {prog : Program} {w : World} {A : Around} {E : Value → Shared → Prop} {s : Shared} {t sl : Addr} {its : List Value} {u : Tok} {Q : Value → Shared → Prop} (ht : IsTup s.heap t its.toArray) (hs : s.heap.IsSliceOf sl .none .none (.int (-1) u)) (hz : its.length ≤ sizeLine)
    (h : Q (.ref s.heap.objs.size) { s with heap := s.heap.push { cls := .type "tuple", data := .seq its.reverse.toArray } }) : wpAny (model prog w) A (getItem (.ref t) (.ref sl)) Q E s := by
  obtain ⟨os, hos, hcs, hds⟩ := id hs
  have hTs : s.TypeIs (.ref sl) "slice" := ⟨os, hos, hcs⟩
  unfold getItem
  try with_reducible refine wpAny_holding ?_
  first | refine wpAny_bind (wpAny_pure ?_) | skip
  refine wpAny_bind (wpAny_sequenceKey ht.typeIs (by decide) (wpAny_bind (wpAny_callSpecial?_slot (name := Str.ofString "__getitem__") ht.typeIs PyProof.Rows.slot_tuple_getitem (wpAny_call_entry PyProof.Rows.slot_tuple_getitem ht.typeIs entry_tuple_getitem ?_ (args_tuple_getitem _ _)))))
  show wpAny _ _ (Builtin.Tuple.tupleItemsOf (.ref t) >>= _) _ _ s
  refine wpAny_bind (tupleItemsOf_ ht (wpAny_bind (wpAny_typeOf hTs ?_)))
  rw [if_pos (by decide)]
  have part0 : ∀ {R : Option Int → Shared → Prop}, R none s → wpAny (model prog w) A.in1 (Builtin.Slice.slicePartIndex .none) R E s := fun {R} r => slicePart_none r
  refine wpAny_bind ?_
  · unfold Builtin.Slice.sliceApplied Builtin.Slice.sliceFields
    refine wpAny_bind (wpAny_bind (wpAny_field hos hds (x := .none) rfl (wpAny_bind (wpAny_field hos hds (x := .none) rfl (wpAny_bind (wpAny_field hos hds (x := .int (-1) u) rfl (wpAny_pure ?_)))))))
    refine wpAny_bind (slicePart_int ?_)
    show wpAny _ _ (if ((-1 : Int) == 0) = true then _ else _) _ _ s
    rw [if_neg (by decide)]
    refine wpAny_bind (slicePart_none (wpAny_bind (slicePart_none (wpAny_bind (wpAny_pure ?_)))))
    have e1 : Builtin.Slice.sliceAdjust none none (-1) ((its.toArray.size : Nat) : Int) = (((its.toArray.size : Nat) : Int) - 1, -1) := rfl
    have e2 : Builtin.Slice.slicePlaces (((its.toArray.size : Nat) : Int) - 1) (-1) (-1) = its.toArray.size := by
      unfold Builtin.Slice.slicePlaces
      rw [if_neg (by decide), show (-(-1 : Int)) = 1 from rfl, Int.ediv_one]
      split <;> omega
    show wpAny _ _ (match Builtin.Slice.sliceAdjust none none (-1) ((its.toArray.size : Nat) : Int) with | (lo, hi) => pure (lo, (-1 : Int), Builtin.Slice.slicePlaces lo hi (-1))) _ _ s
    rw [e1]
    show wpAny _ _ (pure ((((its.toArray.size : Nat) : Int) - 1), (-1 : Int), Builtin.Slice.slicePlaces (((its.toArray.size : Nat) : Int) - 1) (-1) (-1))) _ _ s
    rw [e2]
    refine wpAny_pure ?_
    show wpAny _ _ (if ((((its.toArray.size : Nat) : Int) - 1) == 0 && (-1 : Int) == 1 && its.toArray.size == its.toArray.size) = true then _ else _) _ _ s
    rw [if_neg (by simp)]
    rw [List.size_toArray, rev_pick]
    have hok : sizeOk (.seq its.reverse.toArray) := by
      show its.reverse.toArray.size ≤ sizeLine
      rw [List.size_toArray, List.length_reverse]
      exact hz
    first
      | exact wpAny_bind (m := Builtin.Tuple.tupleExact _) (wpAny_newObj_type (wpAny_pure ⟨_, rfl, wpAny_pure h⟩) hok)
      | exact wpAny_bind (m := Builtin.Tuple.tupleExact _) (wpAny_newObj_type (wpAny_bind (wpAny_pure (wpAny_pure ⟨_, rfl, wpAny_pure h⟩))) hok)
      | exact wpAny_bind (wpAny_bind (m := Builtin.Tuple.tupleExact _) (wpAny_newObj_type (wpAny_pure (wpAny_pure ⟨_, rfl, wpAny_pure h⟩)) hok))
      | exact wpAny_bind (wpAny_bind (m := Builtin.Tuple.tupleExact _) (wpAny_newObj_type (wpAny_pure ⟨_, rfl, wpAny_pure h⟩) hok))
def tRevT (K : PySem.W.Frag) (te : TE) : TE := fun σ H Q => te σ H fun x H1 => ∃ a xs, x = .ref a ∧ SqT K H1 a xs ∧ ∀ p, H1 p = none → Q (.ref p) (upd H1 p (.tup xs.reverse))
theorem pe_revT {e : Expr} {te : TE} {k : Nat} {p1 p2 p3 pos : Pos} (he : PE X e te) : PE X (.Subscript e (.Slice none none (some (.UnaryOp .USub (.Constant (.int 1) k p1) p2)) p3) pos) (tRevT X.K te) := by
  refine ⟨fun pins s σ H Q I h => ?_⟩
  refine Subscript_ (thn (he.run pins s σ H _ I h) fun v s1 ⟨x, H1, I1, r1, q1⟩ => ?_)
  obtain ⟨a, xs, rfl, hx, q⟩ := q1
  cases r1
  have neg1 : PO X (some (.UnaryOp .USub (.Constant (.int 1) k p1) p2)) (tPart (tUn (rU fun i => .int (-i)) (tC (.int 1)))) := po_some (pe_un un_neg pe_int)
  refine wpAny_Slice (thn (po_none.run pins s1 σ H1 (fun o H2 => o = none ∧ H2 = H1) I1 ⟨rfl, rfl⟩) fun vl s2 ⟨l, H2, I2, pl, el, e2⟩ => ?_)
  subst el e2
  refine thn (po_none.run pins s2 σ H2 (fun o H3 => o = none ∧ H3 = H2) I2 ⟨rfl, rfl⟩) fun vu s3 ⟨u, H3, I3, pu, eu, e3⟩ => ?_
  subst eu e3
  refine thn (neg1.run pins s3 σ H3 (fun o H4 => o = some (-1) ∧ H4 = H3) I3 ⟨1, rfl, -1, rfl, rfl, rfl⟩) fun vs s4 ⟨o, H4, I4, ps, eo, e4⟩ => ?_
  subst eo e4
  obtain rfl : vl = Value.none := by cases pl; rfl
  obtain rfl : vu = Value.none := by cases pu; rfl
  obtain ⟨tk, rfl⟩ : ∃ tk, vs = Value.int (-1) tk := by cases ps; exact ⟨_, rfl⟩
  have I5 : Inv X pins σ H4 { s4 with heap := s4.heap.push { cls := .type "slice", data := .fields #[.none, .none, .int (-1) tk] } } := I4.kept (t' := s4.toks) fun b ob q => Heap.get?_push_of_some _ q
  obtain ⟨its, r, ht, hz⟩ := I5.tuple hx
  have hlen := r.length
  refine tail_any (ops := [.ref a, .ref s4.heap.objs.size]) ht.typeIs (PyProof.Rows.slot_tuple_getitem.lookup) ?_ (by with_unfolding_all rfl)
  refine getItem_tupRev ht (Heap.IsSliceOf.new _ .none .none _) (by omega) ?_
  refine ⟨.ref _, _, I5.laid (t' := s4.toks) (o := .tup xs.reverse) (fun b ob q => Heap.get?_push_of_some _ q) (Nat.le_refl _) ?_, rfl, q _ (I5.hok.fresh (Nat.le_refl _))⟩
  exact ⟨by rw [List.length_reverse]; exact hz, _, r.reverse, IsTup.new _ _⟩
/-! ### sorted of triples (number, number, row) -/
structure Trip where
  i : Int
  j : Int
  r : List Nat
  t : Addr
  ra : Addr
def rowD (r : List Nat) : List PyData := r.map fun n : Nat => PyData.int (n : Int)
def Trip.enc (b : Trip) : PyData := .tuple [.int b.i, .int b.j, .tuple (rowD b.r)]
theorem rowD_map (r : List Nat) : rowD r = (r.map fun n : Nat => (n : Int)).map PyData.int := by
  unfold rowD
  rw [List.map_map]
  rfl
theorem reads_row {h : Heap} : ∀ {r : List Nat} {us : List Value}, Vals (r.map nv) us → ReadsAll h us (rowD r) []
  | [], us, v => by
    have v' : Vals [] us := v
    cases v'
    exact .nil
  | n :: r, us, v => by
    have v' : Vals (nv n :: r.map nv) us := v
    cases v' with
    | cons r1 r2 =>
      obtain ⟨t, rfl⟩ := r1
      exact .cons (as := []) (bs := []) (.int _ _) (reads_row r2)
theorem trip_le {b c : Trip} (h : PySem.W.dataLe false Trip.enc b c = true) : b.i < c.i ∨ (b.i = c.i ∧ b.j ≤ c.j) := by
  have h' : (!PySem.W.dataLt c.enc b.enc) = true := h
  unfold Trip.enc at h'
  rw [PySem.W.dataLt_tuple, PySem.W.dataLt_cons (by simp [PySem.W.alike]), PySem.W.dataLt_cons (by simp [PySem.W.alike]), PySem.W.dataLt_int, PySem.W.dataLt_int] at h'
  simp only [PyData.eqv, beq_iff_eq] at h'
  by_cases h1 : c.i = b.i
  · rw [if_pos h1] at h'
    by_cases h2 : c.j = b.j
    · omega
    · rw [if_neg h2] at h'
      simp only [Bool.not_eq_true', decide_eq_false_iff_not] at h'
      omega
  · rw [if_neg h1] at h'
    simp only [Bool.not_eq_true', decide_eq_false_iff_not] at h'
    omega
def rSortTrip (K : PySem.W.Frag) : List V → Hp → VK → Prop := fun vs H Q => ∃ (a : Addr) (bs : List Trip), vs = [.ref a] ∧ SqL K H a (bs.map fun b => V.ref b.t) ∧ (∀ b ∈ bs, SqT K H b.t [.int b.i, .int b.j, .ref b.ra] ∧ SqT K H b.ra (b.r.map nv)) ∧
  ∀ (out : List Trip) p, out.Perm bs → out.Pairwise (fun b c => b.i < c.i ∨ (b.i = c.i ∧ b.j ≤ c.j)) → H p = none → Q (.ref p) (upd H p (.lst (out.map fun b => V.ref b.t)))
theorem each_trip : ∀ {bs : List Trip} {us : List Value}, Vals (bs.map fun b => V.ref b.t) us → PySem.W.EachIs (fun v (b : Trip) => v = Value.ref b.t) us bs
  | [], us, r => by
    have r' : Vals [] us := r
    cases r'
    exact .nil
  | b :: bs, us, r => by
    have r' : Vals (V.ref b.t :: bs.map fun b => V.ref b.t) us := r
    cases r' with
    | cons r1 r2 => exact .cons r1 (each_trip r2)
theorem trip_vals : ∀ {bs : List Trip} {us : List Value}, PySem.W.EachIs (fun v (b : Trip) => v = Value.ref b.t) us bs → Vals (bs.map fun b => V.ref b.t) us
  | _, _, .nil => .nil
  | _, _, .cons e h => .cons e (trip_vals h)
theorem each_ok {R : Value → Trip → Prop} : ∀ {bs : List Trip} {us : List Value}, PySem.W.EachIs (fun v (b : Trip) => v = Value.ref b.t) us bs → (∀ b ∈ bs, R (Value.ref b.t) b) → PySem.W.EachIs R us bs
  | _, _, .nil, _ => .nil
  | _, _, .cons (a := a) (b := b) e h, f => .cons (by rw [e]; exact f b List.mem_cons_self) (each_ok h fun c m => f c (List.mem_cons_of_mem _ m))
theorem cr_sortTrip (hun : X.A.units + 70 < cLine) : CallR X (.builtin "sorted") (rSortTrip X.K) := by
  intro pins s σ H vs us Q I r h
  obtain ⟨a, bs, rfl, hl, hb, q⟩ := h
  obtain rfl := Vals.ref1 r
  obtain ⟨its, rv, pl, hz⟩ := I.list hl
  rw [List.length_map] at hz
  have e := each_trip rv
  have er : PySem.W.EachIs (fun v (b : Trip) => ∃ as, Reads s.heap v b.enc as) its bs := each_ok e fun b hbm => by
    obtain ⟨h1, h2⟩ := hb b hbm
    obtain ⟨i1, r1, ⟨o1, g1, c1, n1, d1⟩, _⟩ := I.tuple h1
    obtain ⟨i2, r2, ⟨o2, g2, c2, n2, d2⟩, _⟩ := I.tuple h2
    obtain ⟨u1, u2, u3, rfl, q1, q2, q3⟩ : ∃ u1 u2 u3, i1 = [u1, u2, u3] ∧ RelV (.int b.i) u1 ∧ RelV (.int b.j) u2 ∧ RelV (.ref b.ra) u3 := by
      cases r1 with
      | cons a1 t1 =>
        cases t1 with
        | cons a2 t2 =>
          cases t2 with
          | cons a3 t3 =>
            cases t3
            exact ⟨_, _, _, rfl, a1, a2, a3⟩
    obtain ⟨t1, rfl⟩ := q1
    obtain ⟨t2, rfl⟩ := q2
    obtain rfl : u3 = Value.ref b.ra := q3
    exact ⟨[], .tuple g1 c1 d1 (.cons (as := []) (bs := []) (.int _ _) (.cons (as := []) (bs := []) (.int _ _) (.cons (as := []) (bs := []) (.tuple g2 c2 d2 (reads_row r2)) .nil)))⟩
  have al : ∀ b c : Trip, PySem.W.alike b.enc c.enc = true := fun b c => by
    have z : PySem.W.alikeAll (rowD b.r) (rowD c.r) = true := by
      rw [rowD_map, rowD_map]
      exact PySem.W.alike_ints _ _
    simp [Trip.enc, PySem.W.alike, PySem.W.alikeAll, z]
  refine PySem.W.sorted_data (bs := bs) (enc := Trip.enc) pl.isList e er (PySem.W.AllAlike.of al) (PySem.W.Sortable.tuples fun b => ⟨_, _, rfl⟩) hz (fun b _ => ?_) fun out hlen eo => ?_
  · have hd : b.enc.depth ≤ 2 := by
      have z : PyData.depthAll (rowD b.r) = 0 := by
        rw [rowD_map]
        exact PySem.W.depth_ints _
      simp [Trip.enc, PyData.depth, PyData.depthAll, z]
    omega
  · obtain ⟨ep, he'⟩ := PyProof.Rows.sortedAll_at s.heap its (List.toArray out)
    have hl2 : ((bs.mergeSort (PySem.W.dataLe false Trip.enc)).map fun b => V.ref b.t).length ≤ sizeLine := by
      rw [List.length_map, List.length_mergeSort]
      exact hz
    have pw := PySem.W.sort_pairwise (PySem.W.sortLe_total (PyProof.Rows.listOrd PyProof.Rows.itemOrd) false fun b : Trip => PySem.W.keyToks b.enc) bs
    refine ⟨.ref _, upd H (s.heap.objs.size + 1) (.lst ((bs.mergeSort (PySem.W.dataLe false Trip.enc)).map fun b => V.ref b.t)), I.laid (t' := s.toks) (fun _ _ => PyProof.Rows.sortedAll_old) (Nat.le_succ _) ⟨hl2, out, ep, trip_vals eo, he'⟩, rfl, ?_⟩
    exact q _ _ (List.mergeSort_perm _ _) (pw.imp fun h => trip_le h) (I.hok.fresh (Nat.le_succ _))
end
end KW

namespace KW
open PySem PySem.Spec PyProof.Rows L2
/-! ### data that never changes: numbers, texts, tuples of them -/
inductive T
  | int (i : Int)
  | str (s : Str)
  | tup (ts : List T)
mutual
def Is (H : Hp) : T → V → Prop
  | .int i, v => v = .int i
  | .str s, v => v = .str s
  | .tup ts, v => ∃ a xs, v = .ref a ∧ H a = some (.tup xs) ∧ IsAll H ts xs
def IsAll (H : Hp) : List T → List V → Prop
  | [], xs => xs = []
  | t :: ts, xs => ∃ x r, xs = x :: r ∧ Is H t x ∧ IsAll H ts r
end
/-- tuples stay -/
def TK (H H' : Hp) : Prop := ∀ a xs, H a = some (.tup xs) → H' a = some (.tup xs)
theorem TK.refl (H : Hp) : TK H H := fun _ _ h => h
theorem TK.trans {H H1 H2 : Hp} (a : TK H H1) (b : TK H1 H2) : TK H H2 := fun c o h => b c o (a c o h)
theorem Same.tk {H H' : Hp} (s : Same H H') : TK H H' := fun a xs h => s a _ h
theorem same_new {H : Hp} {p : Addr} (o : HO) (h : H p = none) : Same H (upd H p o) := fun b u e => by rw [upd_ne (ne_of_none e h)]; exact e
theorem TK.new {H : Hp} {p : Addr} (o : HO) (h : H p = none) : TK H (upd H p o) := Same.tk (same_new o h)
theorem TK.lst {H : Hp} {p : Addr} {ys : List V} (o : HO) (h : H p = some (.lst ys)) : TK H (upd H p o) := fun a xs e => by
  have ne : a ≠ p := fun z => by rw [z, h] at e; cases e
  rw [upd_ne ne]
  exact e
/-- all stays but the list at d -/
def Keep (d : Addr) (H H' : Hp) : Prop := ∀ a o, a ≠ d → H a = some o → H' a = some o
theorem Keep.refl (d : Addr) (H : Hp) : Keep d H H := fun _ _ _ h => h
theorem Keep.trans {d : Addr} {H H1 H2 : Hp} (a : Keep d H H1) (b : Keep d H1 H2) : Keep d H H2 := fun c o n h => b c o n (a c o n h)
theorem Same.keep {d : Addr} {H H' : Hp} (s : Same H H') : Keep d H H' := fun a o _ h => s a o h
theorem Keep.tk {d : Addr} {H H' : Hp} {ys : List V} (k : Keep d H H') (h : H d = some (.lst ys)) : TK H H' := fun a xs e => k a _ (fun z => by rw [z, h] at e; cases e) e
theorem Keep.upd {d : Addr} {H : Hp} (o : HO) : Keep d H (upd H d o) := fun a u n e => by rw [upd_ne n]; exact e
mutual
theorem Is.keep {H H' : Hp} (k : TK H H') : ∀ (t : T) (v : V), Is H t v → Is H' t v
  | .int _, _, h => h
  | .str _, _, h => h
  | .tup ts, v, h => by
    obtain ⟨a, xs, e, h1, h2⟩ := h
    exact ⟨a, xs, e, k _ _ h1, IsAll.keep k ts xs h2⟩
theorem IsAll.keep {H H' : Hp} (k : TK H H') : ∀ (ts : List T) (xs : List V), IsAll H ts xs → IsAll H' ts xs
  | [], _, h => h
  | t :: ts, xs, h => by
    obtain ⟨x, r, e, h1, h2⟩ := h
    exact ⟨x, r, e, Is.keep k t x h1, IsAll.keep k ts r h2⟩
end
theorem Is.k {H H' : Hp} {t : T} {v : V} (h : Is H t v) (k : TK H H') : Is H' t v := Is.keep k t v h
theorem IsAll.k {H H' : Hp} {t : List T} {v : List V} (h : IsAll H t v) (k : TK H H') : IsAll H' t v := IsAll.keep k t v h
theorem IsAll.get {H : Hp} : ∀ {ts : List T} {xs : List V} {i : Nat} {t : T}, IsAll H ts xs → ts[i]? = some t → ∃ x, xs[i]? = some x ∧ Is H t x
  | [], _, i, t, _, e => by simp at e
  | t0 :: ts, xs, 0, t, h, e => by
    obtain ⟨x, r, rfl, h1, _⟩ := h
    have e' : t0 = t := by simpa using e
    subst e'
    exact ⟨x, rfl, h1⟩
  | t0 :: ts, xs, i + 1, t, h, e => by
    obtain ⟨x, r, rfl, _, h2⟩ := h
    obtain ⟨y, q1, q2⟩ := IsAll.get (i := i) h2 (by simpa using e)
    exact ⟨y, by simpa using q1, q2⟩
theorem IsAll.length {H : Hp} : ∀ {ts : List T} {xs : List V}, IsAll H ts xs → xs.length = ts.length
  | [], xs, h => by
    have h' : xs = [] := h
    rw [h']
    rfl
  | t :: ts, xs, h => by
    obtain ⟨x, r, rfl, _, h2⟩ := h
    rw [List.length_cons, List.length_cons, IsAll.length h2]
theorem IsAll.get' {H : Hp} {ts : List T} {xs : List V} {i : Nat} {x : V} (h : IsAll H ts xs) (e : xs[i]? = some x) : ∃ t, ts[i]? = some t ∧ Is H t x := by
  have hi : i < xs.length := (List.getElem?_eq_some_iff.mp e).1
  have hi' : i < ts.length := by rw [← h.length]; exact hi
  obtain ⟨y, h1, h2⟩ := h.get (List.getElem?_eq_getElem hi')
  rw [e] at h1
  cases h1
  exact ⟨_, List.getElem?_eq_getElem hi', h2⟩
theorem IsAll.append {H : Hp} : ∀ {ts us : List T} {xs ys : List V}, IsAll H ts xs → IsAll H us ys → IsAll H (ts ++ us) (xs ++ ys)
  | [], us, xs, ys, h, g => by
    have h' : xs = [] := h
    rw [h']
    exact g
  | t :: ts, us, xs, ys, h, g => by
    obtain ⟨x, r, rfl, h1, h2⟩ := h
    exact ⟨x, r ++ ys, rfl, h1, IsAll.append h2 g⟩
theorem IsAll.one {H : Hp} {t : T} {x : V} (h : Is H t x) : IsAll H [t] [x] := ⟨x, [], rfl, h, rfl⟩
theorem IsAll.take {H : Hp} : ∀ {ts : List T} {xs : List V} (n : Nat), IsAll H ts xs → IsAll H (ts.take n) (xs.take n)
  | [], xs, n, h => by
    have h' : xs = [] := h
    rw [h', List.take_nil, List.take_nil]
    rfl
  | t :: ts, xs, 0, h => rfl
  | t :: ts, xs, n + 1, h => by
    obtain ⟨x, r, rfl, h1, h2⟩ := h
    exact ⟨x, r.take n, rfl, h1, IsAll.take n h2⟩
theorem IsAll.drop {H : Hp} : ∀ {ts : List T} {xs : List V} (n : Nat), IsAll H ts xs → IsAll H (ts.drop n) (xs.drop n)
  | [], xs, n, h => by
    have h' : xs = [] := h
    rw [h', List.drop_nil, List.drop_nil]
    rfl
  | t :: ts, xs, 0, h => h
  | t :: ts, xs, n + 1, h => by
    obtain ⟨x, r, rfl, h1, h2⟩ := h
    exact IsAll.drop n h2
/-- a tuple of numbers -/
def nums (l : List Nat) : T := .tup (l.map fun n : Nat => T.int (n : Int))
theorem isAll_nums {H : Hp} : ∀ {l : List Nat} {xs : List V}, IsAll H (l.map fun n : Nat => T.int (n : Int)) xs ↔ xs = l.map nv
  | [], xs => Iff.rfl
  | n :: l, xs => by
    constructor
    · rintro ⟨x, r, rfl, h1, h2⟩
      have h1' : x = nv n := h1
      rw [h1', isAll_nums.mp h2]
      rfl
    · rintro rfl
      exact ⟨nv n, l.map nv, rfl, rfl, isAll_nums.mpr rfl⟩
theorem is_nums {H : Hp} {l : List Nat} {v : V} : Is H (nums l) v ↔ ∃ a, v = .ref a ∧ H a = some (.tup (l.map nv)) := by
  constructor
  · rintro ⟨a, xs, e, h1, h2⟩
    rw [isAll_nums.mp h2] at h1
    exact ⟨a, e, h1⟩
  · rintro ⟨a, e, h⟩
    exact ⟨a, _, e, h, isAll_nums.mpr rfl⟩
theorem is_tup {H : Hp} {ts : List T} {v : V} : Is H (.tup ts) v ↔ ∃ a xs, v = .ref a ∧ H a = some (.tup xs) ∧ IsAll H ts xs := Iff.rfl

/-! ### numbers -/
theorem nv_inj {a b : Nat} (h : nv a = nv b) : a = b := by
  have h' : (a : Int) = (b : Int) := V.int.inj h
  omega
theorem flat_nv (n : Nat) : flatV (nv n) = true := rfl
theorem flat_nvs (l : List Nat) : (l.map nv).all flatV = true := by
  rw [List.all_eq_true]
  intro x hx
  obtain ⟨n, _, rfl⟩ := List.mem_map.mp hx
  rfl
theorem nv_get {l : List Nat} {i n : Nat} (h : l[i]? = some n) : (l.map nv)[i]? = some (nv n) := by rw [List.getElem?_map, h]; rfl

/-! ### what stands where -/
/-- the built-in names that the text uses, none of them stored by the module -/
structure Bt (mg : Str → Option Value) : Prop where
  tuple : mg "tuple" = none
  enumerate : mg "enumerate" = none
  all : mg "all" = none
  list : mg "list" = none
  sorted : mg "sorted" = none
  zip : mg "zip" = none
  len : mg "len" = none
  min : mg "min" = none
  range : mg "range" = none
  int : mg "int" = none
  set : mg "set" = none
/-- a def that stands at its name and keeps its promise -/
structure Has (P : Program) (w : World) (K : PySem.W.Frag) (mg : Str → Option Value) (base : Heap) (k : Nat) (x : Str) (ps : List Str) (sp : Sp) : Prop where
  ex : ∃ f fd, FnOk P w K mg base CX0 k f fd ps sp ∧ mg x = some (.ref f) ∧ PySem.W.keepIn K (.ref f) = true ∧ Binds K fd ps []
/-- a def of the text at its name -/
structure At (K : PySem.W.Frag) (mg : Str → Option Value) (x : Str) (i : Nat) : Prop where
  ex : ∃ f fd, FnP K x i f fd ∧ mg x = some (.ref f)
section
variable {P : Program} {w : World} {K : PySem.W.Frag} {mg : Str → Option Value} {base : Heap}
theorem has_of {x : Str} {i : Nat} {k : Nat} {N ps : List Str} {sp : Sp} (d : At K mg x i) (S : FnScope N ps (defScope (top i))) (len : ∀ vs H Q E, sp vs H Q E → vs.length = ps.length)
    (bd : ∀ (kV doc pm : Value) (an : Option Addr) (cdv ct : Value) (us : List Value), us.length = ps.length → bindArgs (PySem.W.fnOf x x (defArgs (top i)) (defBody (top i)) (defScope (top i)) .none kV doc pm an cdv ct) ⟨us, []⟩ = pure (ps.zip us))
    (body : ∀ (f : Addr) (cdv : Value) (A : Around) (outer : List Env) (s : Shared) (H : Hp) (vs : List V) (Q : VK) (E : XK), Room k (A.deeper (envOfC x (defScope (top i)) s.heap.objs.size f cdv)) → sp vs H Q E →
      ∃ t, PSs (cxOf CX0 P w K mg base N x (defScope (top i)) f cdv A outer s H E).nox (defBody (top i)) t ∧ t { nx := fun _ H' => Q .non H', rt := Q } (start N vs) H) : Has P w K mg base (k + 1) x ps sp := by
  obtain ⟨f, fd, F, e⟩ := d.ex
  refine ⟨f, fd, F.ok S len (fun cdv A outer s H vs Q E hr h => ?_), e, F.kp, F.bindsN bd⟩
  obtain ⟨t, h1, h2⟩ := body f cdv A outer s H vs Q E hr h
  exact ⟨t, h1.nox, h2⟩
theorem FnOk.up {j k : Nat} {f : Addr} {fd : FuncData} {ps : List Str} {sp : Sp} (h : FnOk P w K mg base CX0 j f fd ps sp) (hk : j ≤ k) : FnOk P w K mg base CX0 k f fd ps sp :=
  ⟨h.len, fun A outer s H args us vs Q E hr => h.run A outer s H args us vs Q E (hr.mono hk)⟩
end
end KW

namespace KW
open PySem PySem.Spec PyProof.Rows L2
/-! ### comprehensions over a list of things whose values are enc -/
/-- J walks l while G stands -/
structure ItOf {α : Type} (J : It) (G : Hp → Prop) (l : List α) (enc : α → V) : Prop where
  go : ∀ k H, G H → k < l.length → J.go k H
  stop : ∀ k H, G H → k = l.length → J.stop k H
  yld : ∀ k H x H', G H → J.yld k H x H' → H' = H ∧ ∀ a, l[k]? = some a → x = enc a
theorem itOf_tup {K : PySem.W.Frag} {α : Type} {G : Hp → Prop} {l : List α} {enc : α → V} {a : Addr} (h : ∀ H, G H → SqT K H a (l.map enc)) : ItOf (Itt K a) G l enc where
  go := fun k H g hk => ⟨_, enc l[k], h H g, by rw [List.getElem?_map, List.getElem?_eq_getElem hk]; rfl⟩
  stop := fun k H g hk => ⟨_, h H g, by rw [List.length_map]; omega⟩
  yld := fun k H x H' g y => ⟨y.1, fun b hb => by
    have e := y.2 _ (h H g)
    rw [List.getElem?_map, hb] at e
    exact (Option.some.inj e).symm⟩
theorem itOf_list {K : PySem.W.Frag} {α : Type} {G : Hp → Prop} {l : List α} {enc : α → V} {a : Addr} (h : ∀ H, G H → SqL K H a (l.map enc)) : ItOf (Itl K a) G l enc where
  go := fun k H g hk => ⟨_, enc l[k], h H g, by rw [List.getElem?_map, List.getElem?_eq_getElem hk]; rfl⟩
  stop := fun k H g hk => ⟨_, h H g, by rw [List.length_map]; omega⟩
  yld := fun k H x H' g y => ⟨y.1, fun b hb => by
    have e := y.2 _ (h H g)
    rw [List.getElem?_map, hb] at e
    exact (Option.some.inj e).symm⟩
theorem itOf_range {G : Hp → Prop} {n : Nat} : ItOf (Itr 0 n) G (List.range n) nv where
  go := fun k H g hk => by rw [List.length_range] at hk; exact hk
  stop := fun k H g hk => by rw [List.length_range] at hk; show n ≤ k; omega
  yld := fun k H x H' g y => by
    obtain ⟨e1, e2⟩ := y
    refine ⟨by first | exact e1 | exact e2, fun b hb => ?_⟩
    have hk : k < n := by
      have := (List.getElem?_eq_some_iff.mp hb).1
      rw [List.length_range] at this
      exact this
    rw [List.getElem?_range hk] at hb
    cases hb
    have e : x = .int (0 + (k : Int)) := by first | exact e1 | exact e2
    rw [e, Int.zero_add]
    rfl
section
variable {α : Type} {J : It} {G : Hp → Prop} {l : List α} {enc : α → V} {i : Nat} {tt : TT} {te : TE} {vs : List Nat} {σ : L2.St} {H1 : Hp} {D : Addr} {Qd : Hp → Prop}
/-- what the walk of a comprehension asks (the end of tLc) -/
def LcGoal (J : It) (g : TG) (tt : TT) (te : TE) (vs : List Nat) (σ : L2.St) (H1 : Hp) (D : Addr) (Qd : Hp → Prop) : Prop :=
  ∃ W : Nat → Nat → Hp → Prop, (∃ m, W 0 m (upd H1 D (.lst []))) ∧ ∀ i m H, W i m H →
    (J.stop i H ∧ Qd H) ∨ (J.go i H ∧ ∃ Nx : Hp → Prop, (∀ H', Nx H' → ∃ m', m' < m ∧ W (i + 1) m' H') ∧ ∀ x H', J.yld i H x H' → g x (wipe σ vs) H' fun σ2 H2 => wipe σ2 vs = wipe σ vs ∧ tt σ2 H2 fun b H3 =>
      if b = true then te σ2 H3 fun y H4 => ∃ acc, H4 D = some (.lst acc) ∧ acc.length < sizeLine ∧ Nx (upd H4 D (.lst (acc ++ [y]))) else Nx H3)
/-- the general walk: Pv k ys H, ys what D holds behind k turns -/
theorem lc_walk (I : ItOf J G l enc) (R : Nat → List V → Prop) (hG0 : G (upd H1 D (.lst []))) (hGD : ∀ H ys, G H → G (upd H D (.lst ys))) (h0 : R 0 []) (hlen : ∀ k ys, k < l.length → R k ys → ys.length < sizeLine)
    (hw : ∀ a ∈ l, wipe ((wipe σ vs).set i (some (enc a))) vs = wipe σ vs)
    (hs : ∀ k a ys H2 (Q1 : Bool → Hp → Prop), l[k]? = some a → R k ys → G H2 → H2 D = some (.lst ys) → (∀ H3, G H3 → H3 D = some (.lst ys) → R (k + 1) ys → Q1 false H3) →
      (∀ H3, G H3 → H3 D = some (.lst ys) → (∀ Q2 : VK, (∀ y H4, G H4 → H4 D = some (.lst ys) → R (k + 1) (ys ++ [y]) → Q2 y H4) → te ((wipe σ vs).set i (some (enc a))) H3 Q2) → Q1 true H3) →
      tt ((wipe σ vs).set i (some (enc a))) H2 Q1)
    (hd : ∀ ys H, G H → H D = some (.lst ys) → R l.length ys → Qd H) : LcGoal J (gName i) tt te vs σ H1 D Qd := by
  refine ⟨fun k m H => m = l.length - k ∧ k ≤ l.length ∧ G H ∧ ∃ ys, H D = some (.lst ys) ∧ R k ys, ⟨_, rfl, Nat.zero_le _, hG0, [], upd_same, h0⟩, fun k m H w => ?_⟩
  obtain ⟨rfl, hk, g, ys, eD, r⟩ := w
  by_cases hlt : k < l.length
  · refine .inr ⟨I.go k H g hlt, fun H' => G H' ∧ ∃ ys, H' D = some (.lst ys) ∧ R (k + 1) ys, fun H' h => ⟨l.length - (k + 1), by omega, rfl, hlt, h⟩, fun x H' y => ?_⟩
    obtain ⟨rfl, ex⟩ := I.yld k H x H' g y
    have ea : l[k]? = some l[k] := List.getElem?_eq_getElem hlt
    rw [ex _ ea]
    refine ⟨hw _ (List.getElem_mem hlt), ?_⟩
    refine hs k l[k] ys H' _ ea r g eD (fun H3 g3 e3 r3 => ?_) fun H3 g3 e3 f => ?_
    · show if false = true then _ else _
      rw [if_neg Bool.false_ne_true]
      exact ⟨g3, ys, e3, r3⟩
    · show if true = true then _ else _
      rw [if_pos rfl]
      refine f _ fun y H4 g4 e4 r4 => ⟨ys, e4, hlen k ys hlt r, hGD _ _ g4, ys ++ [y], upd_same, r4⟩
  · have e : k = l.length := by omega
    subst e
    exact .inl ⟨I.stop _ H g rfl, hd ys H g eD r⟩
/-- the test is p, the item f -/
theorem lc_filt (I : ItOf J G l enc) (p : α → Bool) (f : α → V) (hG0 : G (upd H1 D (.lst []))) (hGD : ∀ H ys, G H → G (upd H D (.lst ys))) (hlen : l.length < sizeLine)
    (hw : ∀ a ∈ l, wipe ((wipe σ vs).set i (some (enc a))) vs = wipe σ vs)
    (ht : ∀ a ys H2 (Q1 : Bool → Hp → Prop), a ∈ l → G H2 → H2 D = some (.lst ys) → (∀ H3, G H3 → H3 D = some (.lst ys) → Q1 (p a) H3) → tt ((wipe σ vs).set i (some (enc a))) H2 Q1)
    (he : ∀ a ys H2 (Q2 : VK), a ∈ l → p a = true → G H2 → H2 D = some (.lst ys) → (∀ H3, G H3 → H3 D = some (.lst ys) → Q2 (f a) H3) → te ((wipe σ vs).set i (some (enc a))) H2 Q2)
    (hd : ∀ H, G H → H D = some (.lst ((l.filter p).map f)) → Qd H) : LcGoal J (gName i) tt te vs σ H1 D Qd := by
  refine lc_walk I (fun k ys => ys = ((l.take k).filter p).map f) hG0 hGD rfl (fun k ys hk e => ?_) hw (fun k a ys H2 Q1 ea e g eD no yes => ?_) fun ys H g eD e => ?_
  · rw [e, List.length_map]
    have h1 := List.length_filter_le p (l.take k)
    rw [List.length_take] at h1
    omega
  · have am : a ∈ l := List.mem_of_getElem? ea
    have et : l.take (k + 1) = l.take k ++ [a] := by rw [List.take_add_one, ea]; rfl
    refine ht a ys H2 Q1 am g eD fun H3 g3 e3 => ?_
    cases hp : p a with
    | false =>
      refine no H3 g3 e3 ?_
      rw [et, List.filter_append, List.filter_cons_of_neg (by rw [hp]; exact Bool.false_ne_true)]
      simpa using e
    | true =>
      refine yes H3 g3 e3 fun Q2 q2 => he a ys H3 Q2 am hp g3 e3 fun H4 g4 e4 => q2 _ H4 g4 e4 ?_
      rw [et, List.filter_append, List.filter_cons_of_pos hp, List.map_append, ← e]
      rfl
  · rw [List.take_length] at e
    rw [e] at eD
    exact hd H g eD
/-- no test -/
theorem lc_map (I : ItOf J G l enc) (f : α → V) (hG0 : G (upd H1 D (.lst []))) (hGD : ∀ H ys, G H → G (upd H D (.lst ys))) (hlen : l.length < sizeLine)
    (hw : ∀ a ∈ l, wipe ((wipe σ vs).set i (some (enc a))) vs = wipe σ vs)
    (he : ∀ a ys H2 (Q2 : VK), a ∈ l → G H2 → H2 D = some (.lst ys) → (∀ H3, G H3 → H3 D = some (.lst ys) → Q2 (f a) H3) → te ((wipe σ vs).set i (some (enc a))) H2 Q2)
    (hd : ∀ H, G H → H D = some (.lst (l.map f)) → Qd H) : LcGoal J (gName i) tYes te vs σ H1 D Qd := by
  refine lc_filt I (fun _ => true) f hG0 hGD hlen hw (fun a ys H2 Q1 am g eD q => q H2 g eD) (fun a ys H2 Q2 am _ g eD q => he a ys H2 Q2 am g eD q) fun H g eD => hd H g ?_
  rw [eD, List.filter_eq_self.mpr fun _ _ => rfl]
end
/-! ### small facts -/
theorem inV_nv (n : Nat) (l : List Nat) : inV (nv n) (l.map nv) = l.contains n := by
  induction l with
  | nil => rfl
  | cons a l ih =>
    rw [List.map_cons, List.contains_cons]
    show (eqV (nv a) (nv n) || inV (nv n) (l.map nv)) = _
    rw [ih]
    congr 1
    show ((a : Int) == (n : Int)) = (n == a)
    rw [Bool.eq_iff_iff, beq_iff_eq, beq_iff_eq]
    omega
theorem szk {n : Nat} (h : n ≤ 100000) : n < sizeLine := Nat.lt_of_le_of_lt h (by decide)
theorem szl {n : Nat} (h : n ≤ 100000) : n ≤ sizeLine := Nat.le_of_lt (szk h)
theorem Same.sqt {K : PySem.W.Frag} {H H' : Hp} {a : Addr} {xs : List V} (s : Same H H') (h : SqT K H a xs) : SqT K H' a xs := by
  rcases h with (h | ⟨o, h⟩) | h
  · exact .inl (.inl (s _ _ h))
  · exact .inl (.inr ⟨o, s _ _ h⟩)
  · exact .inr h
/-- a list or a tuple of numbers -/
def NumSeq (K : PySem.W.Frag) (H : Hp) (a : Addr) (l : List Nat) : Prop := SqL K H a (l.map nv) ∨ SqT K H a (l.map nv)
theorem NumSeq.same {K : PySem.W.Frag} {H H' : Hp} {a : Addr} {l : List Nat} (s : Same H H') (h : NumSeq K H a l) : NumSeq K H' a l := h.imp s.seq (Same.sqt s)
/-- the list D is new over H: all of H stands -/
def Over (H : Hp) (D : Addr) (H' : Hp) : Prop := H D = none ∧ Same H H'
theorem Over.put {H H' : Hp} {D : Addr} (h : Over H D H') (ys : List V) : Over H D (upd H' D (.lst ys)) := ⟨h.1, fun a o e => by rw [upd_ne (ne_of_none e h.1)]; exact h.2 a o e⟩
theorem Over.start {H : Hp} {D : Addr} (h : H D = none) (o : HO) : Over H D (upd H D o) := ⟨h, same_new o h⟩
end KW

namespace KW
open PySem PySem.Spec PyProof.Rows L2 K39
/-! ### choices and webs as data -/
def encG (g : Group) : T := .tup [nums g.1, .int (g.2 : Int)]
def encP : PCh → T
  | .maker room ups downs => .tup [.str "maker", .int (room : Int), nums ups, nums downs]
  | .sides r1 ups r2 downs => .tup [.str "sides", .int (r1 : Int), nums ups, .int (r2 : Int), nums downs]
  | .table rows => .tup [.str "table", .tup (rows.map nums)]
  | .trader room cost ups downs => .tup [.str "trader", .int (room : Int), .int cost, nums ups, nums downs]
  | .caps ups ug downs dg => .tup [.str "caps", nums ups, .tup (ug.map encG), nums downs, .tup (dg.map encG)]
def encCh : Ch → T
  | .plain p => encP p
  | .split ps => .tup [.str "split", .tup (ps.map encP)]
structure Con where
  s : Nat
  b : Nat
  p : Int
def encCon (c : Con) : T := .tup [.int (c.s : Int), .int (c.b : Int), .int c.p]
structure House where
  name : Str
  ch : Ch
def encH (h : House) : T := .tup [.str h.name, encCh h.ch]
structure Web where
  hs : List House
  cs : List Con
def encWeb (W : Web) : T := .tup [.tup (W.hs.map encH), .tup (W.cs.map encCon)]
/-- numbers of contracts, not many -/
def Small (n : Nat) (l : List Nat) : Prop := l.length ≤ 100 ∧ ∀ c ∈ l, c < n
def WFP (n : Nat) : PCh → Prop
  | .maker _ ups downs => Small n ups ∧ Small n downs
  | .sides _ ups _ downs => Small n ups ∧ Small n downs
  | .table rows => rows.length ≤ 1000 ∧ ∀ r ∈ rows, Small n r
  | .trader _ _ ups downs => Small n ups ∧ Small n downs
  | .caps ups ug downs dg => (Small n ups ∧ Small n downs) ∧ (ug.length ≤ 100 ∧ ∀ g ∈ ug, g.1.length ≤ 100) ∧ (dg.length ≤ 100 ∧ ∀ g ∈ dg, g.1.length ≤ 100)
def WFC (n : Nat) : Ch → Prop
  | .plain p => WFP n p
  | .split ps => ps.length ≤ 10 ∧ ∀ p ∈ ps, WFP n p
/-- a tuple of numbers at a -/
abbrev NT (H : Hp) (a : Addr) (l : List Nat) : Prop := H a = some (.tup (l.map nv))
section
variable {H : Hp} {v : V}
theorem is1 {t : T} {xs : List V} (h : IsAll H [t] xs) : ∃ x, xs = [x] ∧ Is H t x := by
  obtain ⟨x, r, rfl, h1, h2⟩ := h
  have h2' : r = [] := h2
  subst h2'
  exact ⟨x, rfl, h1⟩
theorem is2 {t u : T} {xs : List V} (h : IsAll H [t, u] xs) : ∃ x y, xs = [x, y] ∧ Is H t x ∧ Is H u y := by
  obtain ⟨x, r, rfl, h1, h2⟩ := h
  obtain ⟨y, rfl, h3⟩ := is1 h2
  exact ⟨x, y, rfl, h1, h3⟩
theorem is3 {t u w : T} {xs : List V} (h : IsAll H [t, u, w] xs) : ∃ x y z, xs = [x, y, z] ∧ Is H t x ∧ Is H u y ∧ Is H w z := by
  obtain ⟨x, r, rfl, h1, h2⟩ := h
  obtain ⟨y, z, rfl, h3, h4⟩ := is2 h2
  exact ⟨x, y, z, rfl, h1, h3, h4⟩
theorem is4 {t u w t4 : T} {xs : List V} (h : IsAll H [t, u, w, t4] xs) : ∃ x y z x4, xs = [x, y, z, x4] ∧ Is H t x ∧ Is H u y ∧ Is H w z ∧ Is H t4 x4 := by
  obtain ⟨x, r, rfl, h1, h2⟩ := h
  obtain ⟨y, z, x4, rfl, h3, h4, h5⟩ := is3 h2
  exact ⟨x, y, z, x4, rfl, h1, h3, h4, h5⟩
theorem is5 {t u w t4 t5 : T} {xs : List V} (h : IsAll H [t, u, w, t4, t5] xs) : ∃ x y z x4 x5, xs = [x, y, z, x4, x5] ∧ Is H t x ∧ Is H u y ∧ Is H w z ∧ Is H t4 x4 ∧ Is H t5 x5 := by
  obtain ⟨x, r, rfl, h1, h2⟩ := h
  obtain ⟨y, z, x4, x5, rfl, h3, h4, h5, h6⟩ := is4 h2
  exact ⟨x, y, z, x4, x5, rfl, h1, h3, h4, h5, h6⟩
theorem is_maker {room : Nat} {ups downs : List Nat} : Is H (encP (.maker room ups downs)) v ↔ ∃ a u d, v = .ref a ∧ H a = some (.tup [.str "maker", nv room, .ref u, .ref d]) ∧ NT H u ups ∧ NT H d downs := by
  constructor
  · rintro ⟨a, xs, e, h1, h2⟩
    obtain ⟨x, y, z, x4, rfl, g1, g2, g3, g4⟩ := is4 h2
    obtain ⟨u, rfl, hu⟩ := is_nums.mp g3
    obtain ⟨d, rfl, hd⟩ := is_nums.mp g4
    have g1' : x = .str "maker" := g1
    have g2' : y = nv room := g2
    subst g1' g2'
    exact ⟨a, u, d, e, h1, hu, hd⟩
  · rintro ⟨a, u, d, e, h1, hu, hd⟩
    exact ⟨a, _, e, h1, _, _, rfl, rfl, _, _, rfl, rfl, _, _, rfl, is_nums.mpr ⟨u, rfl, hu⟩, _, _, rfl, is_nums.mpr ⟨d, rfl, hd⟩, rfl⟩
theorem is_sides {r1 r2 : Nat} {ups downs : List Nat} : Is H (encP (.sides r1 ups r2 downs)) v ↔ ∃ a u d, v = .ref a ∧ H a = some (.tup [.str "sides", nv r1, .ref u, nv r2, .ref d]) ∧ NT H u ups ∧ NT H d downs := by
  constructor
  · rintro ⟨a, xs, e, h1, h2⟩
    obtain ⟨x, y, z, x4, x5, rfl, g1, g2, g3, g4, g5⟩ := is5 h2
    obtain ⟨u, rfl, hu⟩ := is_nums.mp g3
    obtain ⟨d, rfl, hd⟩ := is_nums.mp g5
    have g1' : x = .str "sides" := g1
    have g2' : y = nv r1 := g2
    have g4' : x4 = nv r2 := g4
    subst g1' g2' g4'
    exact ⟨a, u, d, e, h1, hu, hd⟩
  · rintro ⟨a, u, d, e, h1, hu, hd⟩
    exact ⟨a, _, e, h1, _, _, rfl, rfl, _, _, rfl, rfl, _, _, rfl, is_nums.mpr ⟨u, rfl, hu⟩, _, _, rfl, rfl, _, _, rfl, is_nums.mpr ⟨d, rfl, hd⟩, rfl⟩
theorem is_table {rows : List (List Nat)} : Is H (encP (.table rows)) v ↔ ∃ a r, v = .ref a ∧ H a = some (.tup [.str "table", r]) ∧ Is H (.tup (rows.map nums)) r := by
  constructor
  · rintro ⟨a, xs, e, h1, h2⟩
    obtain ⟨x, y, rfl, g1, g2⟩ := is2 h2
    have g1' : x = .str "table" := g1
    subst g1'
    exact ⟨a, y, e, h1, g2⟩
  · rintro ⟨a, r, e, h1, g⟩
    exact ⟨a, _, e, h1, _, _, rfl, rfl, _, _, rfl, g, rfl⟩
theorem is_trader {room : Nat} {cost : Int} {ups downs : List Nat} : Is H (encP (.trader room cost ups downs)) v ↔ ∃ a u d, v = .ref a ∧ H a = some (.tup [.str "trader", nv room, .int cost, .ref u, .ref d]) ∧ NT H u ups ∧ NT H d downs := by
  constructor
  · rintro ⟨a, xs, e, h1, h2⟩
    obtain ⟨x, y, z, x4, x5, rfl, g1, g2, g3, g4, g5⟩ := is5 h2
    obtain ⟨u, rfl, hu⟩ := is_nums.mp g4
    obtain ⟨d, rfl, hd⟩ := is_nums.mp g5
    have g1' : x = .str "trader" := g1
    have g2' : y = nv room := g2
    have g3' : z = .int cost := g3
    subst g1' g2' g3'
    exact ⟨a, u, d, e, h1, hu, hd⟩
  · rintro ⟨a, u, d, e, h1, hu, hd⟩
    exact ⟨a, _, e, h1, _, _, rfl, rfl, _, _, rfl, rfl, _, _, rfl, rfl, _, _, rfl, is_nums.mpr ⟨u, rfl, hu⟩, _, _, rfl, is_nums.mpr ⟨d, rfl, hd⟩, rfl⟩
theorem is_caps {ups downs : List Nat} {ug dg : List Group} : Is H (encP (.caps ups ug downs dg)) v ↔ ∃ a u d gu gd, v = .ref a ∧ H a = some (.tup [.str "caps", .ref u, gu, .ref d, gd]) ∧ NT H u ups ∧ NT H d downs ∧ Is H (.tup (ug.map encG)) gu ∧ Is H (.tup (dg.map encG)) gd := by
  constructor
  · rintro ⟨a, xs, e, h1, h2⟩
    obtain ⟨x, y, z, x4, x5, rfl, g1, g2, g3, g4, g5⟩ := is5 h2
    obtain ⟨u, rfl, hu⟩ := is_nums.mp g2
    obtain ⟨d, rfl, hd⟩ := is_nums.mp g4
    have g1' : x = .str "caps" := g1
    subst g1'
    exact ⟨a, u, d, z, x5, e, h1, hu, hd, g3, g5⟩
  · rintro ⟨a, u, d, gu, gd, e, h1, hu, hd, g3, g5⟩
    exact ⟨a, _, e, h1, _, _, rfl, rfl, _, _, rfl, is_nums.mpr ⟨u, rfl, hu⟩, _, _, rfl, g3, _, _, rfl, is_nums.mpr ⟨d, rfl, hd⟩, _, _, rfl, g5, rfl⟩
theorem is_split {ps : List PCh} : Is H (encCh (.split ps)) v ↔ ∃ a r, v = .ref a ∧ H a = some (.tup [.str "split", r]) ∧ Is H (.tup (ps.map encP)) r := by
  constructor
  · rintro ⟨a, xs, e, h1, h2⟩
    obtain ⟨x, y, rfl, g1, g2⟩ := is2 h2
    have g1' : x = .str "split" := g1
    subst g1'
    exact ⟨a, y, e, h1, g2⟩
  · rintro ⟨a, r, e, h1, g⟩
    exact ⟨a, _, e, h1, _, _, rfl, rfl, _, _, rfl, g, rfl⟩
theorem is_group {g : Group} : Is H (encG g) v ↔ ∃ a u, v = .ref a ∧ H a = some (.tup [.ref u, nv g.2]) ∧ NT H u g.1 := by
  constructor
  · rintro ⟨a, xs, e, h1, h2⟩
    obtain ⟨x, y, rfl, g1, g2⟩ := is2 h2
    obtain ⟨u, rfl, hu⟩ := is_nums.mp g1
    have g2' : y = nv g.2 := g2
    subst g2'
    exact ⟨a, u, e, h1, hu⟩
  · rintro ⟨a, u, e, h1, hu⟩
    exact ⟨a, _, e, h1, _, _, rfl, is_nums.mpr ⟨u, rfl, hu⟩, _, _, rfl, rfl, rfl⟩
theorem is_con {c : Con} : Is H (encCon c) v ↔ ∃ a, v = .ref a ∧ H a = some (.tup [nv c.s, nv c.b, .int c.p]) := by
  constructor
  · rintro ⟨a, xs, e, h1, h2⟩
    obtain ⟨x, y, z, rfl, g1, g2, g3⟩ := is3 h2
    have g1' : x = nv c.s := g1
    have g2' : y = nv c.b := g2
    have g3' : z = .int c.p := g3
    subst g1' g2' g3'
    exact ⟨a, e, h1⟩
  · rintro ⟨a, e, h1⟩
    exact ⟨a, _, e, h1, _, _, rfl, rfl, _, _, rfl, rfl, _, _, rfl, rfl, rfl⟩
theorem is_house {h : House} : Is H (encH h) v ↔ ∃ a c, v = .ref a ∧ H a = some (.tup [.str h.name, c]) ∧ Is H (encCh h.ch) c := by
  constructor
  · rintro ⟨a, xs, e, h1, h2⟩
    obtain ⟨x, y, rfl, g1, g2⟩ := is2 h2
    have g1' : x = .str h.name := g1
    subst g1'
    exact ⟨a, y, e, h1, g2⟩
  · rintro ⟨a, c, e, h1, g⟩
    exact ⟨a, _, e, h1, _, _, rfl, rfl, _, _, rfl, g, rfl⟩
theorem is_web {W : Web} : Is H (encWeb W) v ↔ ∃ a b c, v = .ref a ∧ H a = some (.tup [.ref b, .ref c]) ∧ (∃ xs, H b = some (.tup xs) ∧ IsAll H (W.hs.map encH) xs) ∧ ∃ ys, H c = some (.tup ys) ∧ IsAll H (W.cs.map encCon) ys := by
  constructor
  · rintro ⟨a, xs, e, h1, h2⟩
    obtain ⟨x, y, rfl, ⟨b, xs, rfl, g1, g2⟩, ⟨c, ys, rfl, g3, g4⟩⟩ := is2 h2
    exact ⟨a, b, c, e, h1, ⟨xs, g1, g2⟩, ys, g3, g4⟩
  · rintro ⟨a, b, c, e, h1, ⟨xs, g1, g2⟩, ys, g3, g4⟩
    exact ⟨a, _, e, h1, _, _, rfl, ⟨b, xs, rfl, g1, g2⟩, _, _, rfl, ⟨c, ys, rfl, g3, g4⟩, rfl⟩
end
theorem NT.k {H H' : Hp} {a : Addr} {l : List Nat} (h : NT H a l) (k : TK H H') : NT H' a l := k _ _ h
theorem NT.sq {K : PySem.W.Frag} {H : Hp} {a : Addr} {l : List Nat} (h : NT H a l) : SqT K H a (l.map nv) := SqT.of h
end KW

namespace KW
open PySem PySem.Spec PyProof.Rows L2 K39
section
variable {P : Program} {w : World} {K : PySem.W.Frag} {mg : Str → Option Value} {base : Heap}
/-! ### offered_of -/
theorem scOff : FnScope ["row", "offered", "contract"] ["row", "offered"] (defScope (top 5)) := ⟨rfl, rfl, rfl, by decide +kernel, rfl, by decide +kernel, by decide +kernel⟩
def spOff (K : PySem.W.Frag) : Sp := fun vs H Q _ => ∃ (a b : Addr) (l m : List Nat), vs = [.ref a, .ref b] ∧ SqT K H a (l.map nv) ∧ NumSeq K H b m ∧ l.length ≤ 1000 ∧
  ∀ H' p, Same H H' → H p = none → H' p = some (.lst ((l.filter m.contains).map nv)) → Q (.ref p) H'
theorem has_off (d : At K mg "offered_of" 5) : Has P w K mg base 1 "offered_of" ["row", "offered"] (spOff K) := by
  refine has_of d scOff (fun vs H Q E h => ?_) (fun _ _ _ _ _ _ us hl => match us, hl with | [_, _], _ => rfl) (fun f cdv A outer s H vs Q E hr h => ?_)
  · obtain ⟨a, b, l, m, rfl, _⟩ := h
    rfl
  obtain ⟨a, b, l, m, rfl, ha, hb, hl, q⟩ := h
  refine ⟨_, pss_one (ps_ret (pe_lc (own := [("contract", 2)]) (g := gName 2) rfl scOff.nd (pi_tup (pv 0)) (blkOk_by (N := ["row", "offered", "contract"]) (sc := defScope (top 5)) (by decide +kernel))
    (fun _ _ _ _ _ => pg_name (i := 2) scOff.nd rfl (.inl rfl)) (fun _ _ _ _ _ => pts_one (pt_cmpR (r := rIn K false) op_in_seq (pv 2) (pv 1) rfl)) (fun _ _ _ _ _ => pv 2))), ?_⟩
  refine ⟨.ref a, rfl, a, rfl, ⟨_, ha⟩, fun D nD => ?_⟩
  refine lc_filt (G := Over H D) (l := l) (enc := nv) (itOf_tup fun H' g => Same.sqt g.2 ha) m.contains nv (Over.start nD _) (fun H' ys g => g.put ys) (szk (by omega)) (fun _ _ => rfl) (fun n ys H2 Q1 hn g eD k => ?_) (fun n ys H2 Q2 hn _ g eD k => ⟨_, rfl, k H2 g eD⟩) fun H' g eD => q H' D g.2 nD eD
  refine ⟨_, rfl, _, rfl, b, m.map nv, rfl, NumSeq.same g.2 hb, rfl, flat_nvs m, ?_⟩
  show ∃ c, V.bl (inV (nv n) (m.map nv)) = .bl c ∧ Q1 c H2
  rw [inV_nv]
  exact ⟨_, rfl, k H2 g eD⟩
/-! ### buys_of -/
theorem scBuys : FnScope ["web", "house", "number", "contract"] ["web", "house"] (defScope (top 1)) := ⟨rfl, rfl, rfl, by decide +kernel, rfl, by decide +kernel, by decide +kernel⟩
def Buysof (W : Web) (h : Nat) : List Nat := (List.range W.cs.length).filter fun c => (W.cs.map fun c => c.b)[c]? == some h
def spBuys (K : PySem.W.Frag) : Sp := fun vs H Q _ => ∃ (v : V) (W : Web) (h : Nat), vs = [v, nv h] ∧ Is H (encWeb W) v ∧ W.cs.length ≤ 100 ∧
  ∀ H' p, Same H H' → NT H' p (Buysof W h) → Q (.ref p) H'
theorem has_Buys (bt : Bt mg) (d : At K mg "buys_of" 1) : Has P w K mg base 1 "buys_of" ["web", "house"] (spBuys K) := by
  refine has_of d scBuys (fun vs H Q E h => ?_) (fun _ _ _ _ _ _ us hl => match us, hl with | [_, _], _ => rfl) (fun f cdv A outer s H vs Q E hr h => ?_)
  · obtain ⟨v, W, h, rfl, _⟩ := h
    rfl
  obtain ⟨v, W, h, rfl, hW, hl, q⟩ := h
  refine ⟨_, pss_one (ps_ret (pe_callTy call_tuple_of rfl bt.tuple (by decide +kernel) (pa_cons (pe_lc (own := [("number", 2), ("contract", 3)]) (g := gTup K 2 (gCons (gName 2) (gCons (gName 3) gNil))) rfl scBuys.nd
    (pi_enumT rfl bt.enumerate (pa_cons (pe_ix (r := rIxT K) ix_tup (pv 0) pe_int (fun _ _ => rfl)) pa_nil)) (blkOk_by (N := ["web", "house", "number", "contract"]) (sc := defScope (top 1)) (by decide +kernel))
    (fun _ _ _ _ _ => pg_tup rfl (pgs_cons (pg_name (i := 2) scBuys.nd rfl (.inl rfl)) (pgs_cons (pg_name (i := 3) scBuys.nd rfl (.inl rfl)) pgs_nil)))
    (fun _ _ _ _ _ => pts_one (pt_cmpR op_eq (pe_ix (r := rIxT K) ix_tup (pv 3) pe_int (fun _ _ => rfl)) (pv 1) (nomark _))) (fun _ _ _ _ _ => pv 2)) pa_nil))), ?_⟩
  obtain ⟨a, b, c, rfl, ha, _, ys, hc, hys⟩ := is_web.mp hW
  refine ⟨_, rfl, a, _, 1, .ref c, rfl, rfl, SqT.of ha, atI_nat (j := 1) rfl, c, ys, rfl, SqT.of hc, fun D nD => ?_⟩
  have ylen : ys.length = W.cs.length := by rw [hys.length, List.length_map]
  refine lc_enumT (K := K) (xs := ys) (fun i H' => Over H D H' ∧ H' D = some (.lst (((List.range i).filter fun c => (W.cs.map fun c => c.b)[c]? == some h).map nv))) ⟨Over.start nD _, upd_same⟩ (fun i H' _ p => Same.sqt p.1.2 (SqT.of hc)) (fun i x T H' hx p nT => ?_) fun H' p => ?_
  · obtain ⟨t, et, ht⟩ := hys.get' hx
    rw [List.getElem?_map] at et
    cases ec : W.cs[i]? with
    | none => rw [ec] at et; cases et
    | some cc =>
      rw [ec] at et
      cases et
      obtain ⟨ca, rfl, hca⟩ := is_con.mp ht
      have hi : i < W.cs.length := (List.getElem?_eq_some_iff.mp ec).1
      have s1 : Same H' (upd H' T (.tup [.int (i : Nat), .ref ca])) := same_new _ nT
      have eD : upd H' T (.tup [.int (i : Nat), .ref ca]) D = some (.lst (((List.range i).filter fun c => (W.cs.map fun c => c.b)[c]? == some h).map nv)) := s1 _ _ p.2
      have oD : Over H D (upd H' T (.tup [.int (i : Nat), .ref ca])) := ⟨nD, p.1.2.trans s1⟩
      refine ⟨T, _, rfl, SqT.of upd_same, rfl, .int (i : Nat), [.ref ca], rfl, .ref ca, [], rfl, rfl, rfl, ?_⟩
      refine ⟨_, rfl, ca, _, 1, nv cc.b, rfl, rfl, SqT.of (oD.2 _ _ hca), atI_nat (j := 1) rfl, _, rfl, rfl, _, rfl, ?_⟩
      have em : (W.cs.map fun c => c.b)[i]? = some cc.b := by rw [List.getElem?_map, ec]; rfl
      have et2 : (List.range (i + 1)).filter (fun c => (W.cs.map fun c => c.b)[c]? == some h) = ((List.range i).filter fun c => (W.cs.map fun c => c.b)[c]? == some h) ++ if cc.b = h then [i] else [] := by
        rw [List.range_succ, List.filter_append, List.filter_cons, List.filter_nil]
        simp only [em]
        by_cases e : cc.b = h <;> simp [e]
      refine ite2 (fun e => ?_) (fun e => ?_)
      · have e' : cc.b = h := nv_inj (of_decide_eq_true e)
        rw [if_pos e'] at et2
        refine ⟨_, rfl, _, eD, ?_, oD.put _, ?_⟩
        · rw [List.length_map]
          have := List.length_filter_le (fun c => (W.cs.map fun c => c.b)[c]? == some h) (List.range i)
          rw [List.length_range] at this
          exact szk (by omega)
        · rw [upd_same, et2, List.map_append]
          rfl
      · have e' : cc.b ≠ h := fun z => e (decide_eq_true (by rw [z]))
        rw [if_neg e', List.append_nil] at et2
        rw [et2]
        exact ⟨oD, eD⟩
  · rw [ylen] at p
    refine ⟨D, _, rfl, .inl ⟨SqL.of p.2, fun t nt => ?_⟩⟩
    have s1 : Same H' (upd H' t (.tup ((Buysof W h).map nv))) := same_new _ nt
    exact q _ t (p.1.2.trans s1) upd_same
/-! ### sells_of -/
theorem scSells : FnScope ["web", "house", "number", "contract"] ["web", "house"] (defScope (top 2)) := ⟨rfl, rfl, rfl, by decide +kernel, rfl, by decide +kernel, by decide +kernel⟩
def Sellsof (W : Web) (h : Nat) : List Nat := (List.range W.cs.length).filter fun c => (W.cs.map fun c => c.s)[c]? == some h
def spSells (K : PySem.W.Frag) : Sp := fun vs H Q _ => ∃ (v : V) (W : Web) (h : Nat), vs = [v, nv h] ∧ Is H (encWeb W) v ∧ W.cs.length ≤ 100 ∧
  ∀ H' p, Same H H' → NT H' p (Sellsof W h) → Q (.ref p) H'
theorem has_Sells (bt : Bt mg) (d : At K mg "sells_of" 2) : Has P w K mg base 1 "sells_of" ["web", "house"] (spSells K) := by
  refine has_of d scSells (fun vs H Q E h => ?_) (fun _ _ _ _ _ _ us hl => match us, hl with | [_, _], _ => rfl) (fun f cdv A outer s H vs Q E hr h => ?_)
  · obtain ⟨v, W, h, rfl, _⟩ := h
    rfl
  obtain ⟨v, W, h, rfl, hW, hl, q⟩ := h
  refine ⟨_, pss_one (ps_ret (pe_callTy call_tuple_of rfl bt.tuple (by decide +kernel) (pa_cons (pe_lc (own := [("number", 2), ("contract", 3)]) (g := gTup K 2 (gCons (gName 2) (gCons (gName 3) gNil))) rfl scSells.nd
    (pi_enumT rfl bt.enumerate (pa_cons (pe_ix (r := rIxT K) ix_tup (pv 0) pe_int (fun _ _ => rfl)) pa_nil)) (blkOk_by (N := ["web", "house", "number", "contract"]) (sc := defScope (top 2)) (by decide +kernel))
    (fun _ _ _ _ _ => pg_tup rfl (pgs_cons (pg_name (i := 2) scSells.nd rfl (.inl rfl)) (pgs_cons (pg_name (i := 3) scSells.nd rfl (.inl rfl)) pgs_nil)))
    (fun _ _ _ _ _ => pts_one (pt_cmpR op_eq (pe_ix (r := rIxT K) ix_tup (pv 3) pe_int (fun _ _ => rfl)) (pv 1) (nomark _))) (fun _ _ _ _ _ => pv 2)) pa_nil))), ?_⟩
  obtain ⟨a, b, c, rfl, ha, _, ys, hc, hys⟩ := is_web.mp hW
  refine ⟨_, rfl, a, _, 1, .ref c, rfl, rfl, SqT.of ha, atI_nat (j := 1) rfl, c, ys, rfl, SqT.of hc, fun D nD => ?_⟩
  have ylen : ys.length = W.cs.length := by rw [hys.length, List.length_map]
  refine lc_enumT (K := K) (xs := ys) (fun i H' => Over H D H' ∧ H' D = some (.lst (((List.range i).filter fun c => (W.cs.map fun c => c.s)[c]? == some h).map nv))) ⟨Over.start nD _, upd_same⟩ (fun i H' _ p => Same.sqt p.1.2 (SqT.of hc)) (fun i x T H' hx p nT => ?_) fun H' p => ?_
  · obtain ⟨t, et, ht⟩ := hys.get' hx
    rw [List.getElem?_map] at et
    cases ec : W.cs[i]? with
    | none => rw [ec] at et; cases et
    | some cc =>
      rw [ec] at et
      cases et
      obtain ⟨ca, rfl, hca⟩ := is_con.mp ht
      have hi : i < W.cs.length := (List.getElem?_eq_some_iff.mp ec).1
      have s1 : Same H' (upd H' T (.tup [.int (i : Nat), .ref ca])) := same_new _ nT
      have eD : upd H' T (.tup [.int (i : Nat), .ref ca]) D = some (.lst (((List.range i).filter fun c => (W.cs.map fun c => c.s)[c]? == some h).map nv)) := s1 _ _ p.2
      have oD : Over H D (upd H' T (.tup [.int (i : Nat), .ref ca])) := ⟨nD, p.1.2.trans s1⟩
      refine ⟨T, _, rfl, SqT.of upd_same, rfl, .int (i : Nat), [.ref ca], rfl, .ref ca, [], rfl, rfl, rfl, ?_⟩
      refine ⟨_, rfl, ca, _, 0, nv cc.s, rfl, rfl, SqT.of (oD.2 _ _ hca), atI_nat (j := 0) rfl, _, rfl, rfl, _, rfl, ?_⟩
      have em : (W.cs.map fun c => c.s)[i]? = some cc.s := by rw [List.getElem?_map, ec]; rfl
      have et2 : (List.range (i + 1)).filter (fun c => (W.cs.map fun c => c.s)[c]? == some h) = ((List.range i).filter fun c => (W.cs.map fun c => c.s)[c]? == some h) ++ if cc.s = h then [i] else [] := by
        rw [List.range_succ, List.filter_append, List.filter_cons, List.filter_nil]
        simp only [em]
        by_cases e : cc.s = h <;> simp [e]
      refine ite2 (fun e => ?_) (fun e => ?_)
      · have e' : cc.s = h := nv_inj (of_decide_eq_true e)
        rw [if_pos e'] at et2
        refine ⟨_, rfl, _, eD, ?_, oD.put _, ?_⟩
        · rw [List.length_map]
          have := List.length_filter_le (fun c => (W.cs.map fun c => c.s)[c]? == some h) (List.range i)
          rw [List.length_range] at this
          exact szk (by omega)
        · rw [upd_same, et2, List.map_append]
          rfl
      · have e' : cc.s ≠ h := fun z => e (decide_eq_true (by rw [z]))
        rw [if_neg e', List.append_nil] at et2
        rw [et2]
        exact ⟨oD, eD⟩
  · rw [ylen] at p
    refine ⟨D, _, rfl, .inl ⟨SqL.of p.2, fun t nt => ?_⟩⟩
    have s1 : Same H' (upd H' t (.tup ((Sellsof W h).map nv))) := same_new _ nt
    exact q _ t (p.1.2.trans s1) upd_same
end
end KW

namespace KW
open PySem PySem.Spec PyProof.Rows L2 K39
section
variable {P : Program} {w : World} {K : PySem.W.Frag} {mg : Str → Option Value} {base : Heap}
/-! ### wishes_of (asked of makers and of houses of sides) -/
theorem scWish : FnScope ["choice"] ["choice"] (defScope (top 3)) := ⟨rfl, rfl, rfl, by decide +kernel, rfl, by decide +kernel, by decide +kernel⟩
def two : PCh → Option (List Nat × List Nat)
  | .maker _ ups downs => some (ups, downs)
  | .sides _ ups _ downs => some (ups, downs)
  | _ => none
def spWish (K : PySem.W.Frag) : Sp := fun vs H Q _ => ∃ (v : V) (p : PCh) (ups downs : List Nat), vs = [v] ∧ Is H (encP p) v ∧ two p = some (ups, downs) ∧
  ∀ H' r u d, Same H H' → H' r = some (.tup [.ref u, .ref d]) → NT H' u ups → NT H' d downs → Q (.ref r) H'
theorem has_wish (d : At K mg "wishes_of" 3) : Has P w K mg base 1 "wishes_of" ["choice"] (spWish K) := by
  refine has_of d scWish (fun vs H Q E h => ?_) (fun _ _ _ _ _ _ us hl => match us, hl with | [_], _ => rfl) (fun f cdv A outer s H vs Q E hr h => ?_)
  · obtain ⟨v, p, ups, downs, rfl, _⟩ := h
    rfl
  obtain ⟨v, p, ups, downs, rfl, hp, e2, q⟩ := h
  refine ⟨_, pss_cons (ps_if (pt_cmpR op_eq (pe_ix ix_tup (pv 0) pe_int (fun _ _ => rfl)) pe_str (nomark _)) (pss_one (ps_ret (pe_tup (pa_cons (pe_ix ix_tup (pv 0) pe_int (fun _ _ => rfl)) (pa_cons (pe_ix ix_tup (pv 0) pe_int (fun _ _ => rfl)) pa_nil))))) pss_nil)
    (pss_cons (ps_if (pt_cmpR op_eq (pe_ix ix_tup (pv 0) pe_int (fun _ _ => rfl)) pe_str (nomark _)) pss_never pss_nil)
    (pss_one (ps_ret (pe_slice sl_tupA (pv 0) (po_some (pe_un un_neg pe_int)) po_none)))), ?_⟩
  cases p with
  | maker room u d =>
    cases e2
    obtain ⟨a, ua, da, rfl, h1, hu, hd⟩ := is_maker.mp hp
    refine ⟨_, rfl, a, _, 0, _, rfl, rfl, SqT.of h1, atI_nat (j := 0) rfl, rfl, _, rfl, ?_⟩
    refine iteF ?_
    refine ⟨_, rfl, a, _, 0, _, rfl, rfl, SqT.of h1, atI_nat (j := 0) rfl, rfl, _, rfl, ?_⟩
    refine iteF ?_
    refine ⟨_, rfl, 2, rfl, -2, rfl, a, _, rfl, SqT.of h1, fun z => ?_, fun _ r nr => ?_⟩
    · exact absurd (show (2 : Nat) = 0 from z.1) (by decide)
    · exact q _ r ua da (same_new _ nr) upd_same (same_new _ nr _ _ hu) (same_new _ nr _ _ hd)
  | sides r1 u r2 d =>
    cases e2
    obtain ⟨a, ua, da, rfl, h1, hu, hd⟩ := is_sides.mp hp
    refine ⟨_, rfl, a, _, 0, _, rfl, rfl, SqT.of h1, atI_nat (j := 0) rfl, rfl, _, rfl, ?_⟩
    refine iteT ?_
    refine ⟨_, rfl, a, _, 2, .ref ua, rfl, rfl, SqT.of h1, atI_nat (j := 2) rfl, _, rfl, a, _, 4, .ref da, rfl, rfl, SqT.of h1, atI_nat (j := 4) rfl, (by show 2 ≤ sizeLine; decide), fun r nr => ?_⟩
    exact q _ r ua da (same_new _ nr) upd_same (same_new _ nr _ _ hu) (same_new _ nr _ _ hd)
  | table rows => cases e2
  | trader room cost u d => cases e2
  | caps u ug d dg => cases e2
/-! ### chosen_row -/
theorem scRow : FnScope ["rows", "offered", "row", "contract"] ["rows", "offered"] (defScope (top 6)) := ⟨rfl, rfl, rfl, by decide +kernel, rfl, by decide +kernel, by decide +kernel⟩
def rowOf (rows : List (List Nat)) (m : List Nat) : List Nat := (rows.find? fun r => r.all m.contains).getD []
def spRow (K : PySem.W.Frag) : Sp := fun vs H Q _ => ∃ (v : V) (b : Addr) (rows : List (List Nat)) (m : List Nat), vs = [v, .ref b] ∧ Is H (.tup (rows.map nums)) v ∧ NumSeq K H b m ∧ rows.length ≤ 1000 ∧ (∀ r ∈ rows, r.length ≤ 100) ∧
  ∀ H' p, Same H H' → H p = none → H' p = some (.lst ((rowOf rows m).map nv)) → Q (.ref p) H'
theorem all_bools {α : Type} (l : List α) (p : α → Bool) : (l.map p).all id = l.all p := by rw [List.all_map]; rfl
theorem has_row (bt : Bt mg) (d : At K mg "chosen_row" 6) : Has P w K mg base 1 "chosen_row" ["rows", "offered"] (spRow K) := by
  refine has_of d scRow (fun vs H Q E h => ?_) (fun _ _ _ _ _ _ us hl => match us, hl with | [_, _], _ => rfl) (fun f cdv A outer s H vs Q E hr h => ?_)
  · obtain ⟨v, b, rows, m, rfl, _⟩ := h
    rfl
  obtain ⟨v, b, rows, m, rfl, hR, hb, hl, hl2, q⟩ := h
  obtain ⟨a, xs, rfl, ha, hx⟩ := hR
  refine ⟨_, pss_cons (ps_for PassesOwn.never rfl (pi_tup (pv 0)) (pg_name (i := 2) scRow.nd rfl (.inl rfl))
      (pss_one (ps_if (pt_val (pe_callB (cr_all rfl) rfl bt.all (by decide +kernel) (pa_cons (pe_lc (own := [("contract", 3)]) (g := gName 3) (tt := tYes) rfl scRow.nd (pi_tup (pv 2)) (blkOk_by (N := ["rows", "offered", "row", "contract"]) (sc := defScope (top 6)) (by decide +kernel))
        (fun _ _ _ _ _ => pg_name (i := 3) scRow.nd rfl (.inl rfl)) (fun _ _ _ _ _ => pts_nil) (fun _ _ _ _ _ => pe_cmpR (r := rIn K false) op_in_seq (pv 3) (pv 1) rfl)) pa_nil)))
        (pss_one (ps_ret (pe_callTy call_list_of rfl bt.list (by decide +kernel) (pa_cons (pv 2) pa_nil)))) pss_nil)))
    (pss_one (ps_ret (pe_lst pa_nil))), ?_⟩
  refine ⟨.ref a, rfl, a, rfl, ⟨_, SqT.of ha⟩, ?_⟩
  have xlen : xs.length = rows.length := by rw [hx.length, List.length_map]
  refine for_tup (xs := xs) (fun i σ H' => (∃ y, σ = [some (.ref a), some (.ref b), y, none]) ∧ Same H H' ∧ (rows.take i).find? (fun r => r.all m.contains) = none) ⟨⟨none, rfl⟩, Same.refl H, rfl⟩ (fun i σ H' _ p => Same.sqt p.2.1 (SqT.of ha)) (fun i x σ H' hxi p => ?_) fun σ H' p => ?_
  · obtain ⟨⟨y, rfl⟩, s1, nf⟩ := p
    obtain ⟨t, et, ht⟩ := hx.get' hxi
    rw [List.getElem?_map] at et
    cases er : rows[i]? with
    | none => rw [er] at et; cases et
    | some r =>
      rw [er] at et
      cases et
      obtain ⟨ra, rfl, hra⟩ := is_nums.mp ht
      have rm : r ∈ rows := List.mem_of_getElem? er
      have hra' : NT H' ra r := s1 _ _ hra
      refine ⟨.ref ra, rfl, ra, rfl, ⟨_, hra'.sq (K := K)⟩, fun D nD => ?_⟩
      refine lc_map (G := Over H' D) (l := r) (enc := nv) (itOf_tup fun H2 g => Same.sqt g.2 (hra'.sq (K := K))) (fun n => .bl (m.contains n)) (Over.start nD _) (fun H2 ys g => g.put ys) (szk (Nat.le_trans (hl2 r rm) (by decide))) (fun _ _ => rfl) (fun n ys H2 Q2 hn g eD k => ?_) fun H2 g eD => ?_
      · refine ⟨_, rfl, _, rfl, b, m.map nv, rfl, NumSeq.same (s1.trans g.2) hb, rfl, flat_nvs m, ?_⟩
        show Q2 (.bl (inV (nv n) (m.map nv))) H2
        rw [inV_nv]
        exact k H2 g eD
      · have eb : r.map (fun n => V.bl (m.contains n)) = (r.map m.contains).map V.bl := by rw [List.map_map]; rfl
        rw [eb] at eD
        refine ⟨D, _, rfl, SqL.of eD, ?_⟩
        rw [all_bools]
        have et2 : rows.take (i + 1) = rows.take i ++ [r] := by rw [List.take_add_one, er]; rfl
        refine ⟨_, rfl, ite2 (fun c => ?_) (fun c => ?_)⟩
        · refine ⟨.ref ra, rfl, ra, r.map nv, rfl, .inr (Same.sqt g.2 (hra'.sq (K := K))), fun l nl => ?_⟩
          have sH : Same H (upd H2 l (.lst (r.map nv))) := (s1.trans g.2).trans (same_new _ nl)
          have e1 : rowOf rows m = r := by
            unfold rowOf
            rw [← List.take_append_drop (i + 1) rows, et2, List.append_assoc, List.find?_append, nf, List.singleton_append, List.find?_cons, c]
            rfl
          refine q _ l sH ?_ ?_
          · cases z : H l with
            | none => rfl
            | some o => rw [(s1.trans g.2) l o z] at nl; cases nl
          · rw [upd_same, e1]
        · refine ⟨⟨_, rfl⟩, s1.trans g.2, ?_⟩
          rw [et2, List.find?_append, nf, List.find?_cons]
          cases z : r.all m.contains with
          | true => exact absurd z c
          | false => rfl
  · obtain ⟨⟨y, rfl⟩, s1, nf⟩ := p
    refine ⟨(by show 0 ≤ sizeLine; decide), fun l nl => ?_⟩
    rw [xlen, List.take_length] at nf
    refine q _ l (s1.trans (same_new _ nl)) ?_ ?_
    · cases z : H l with
      | none => rfl
      | some o => rw [s1 l o z] at nl; cases nl
    · rw [upd_same]
      unfold rowOf
      rw [nf]
      rfl
end
end KW

namespace KW
open PySem PySem.Spec PyProof.Rows L2 K39
section
variable {P : Program} {w : World} {K : PySem.W.Frag} {mg : Str → Option Value} {base : Heap}
/-! ### within_caps -/
theorem scCaps : FnScope ["row", "groups", "offered", "found", "contract", "caps", "group", "cap"] ["row", "groups", "offered"] (defScope (top 8)) := ⟨rfl, rfl, rfl, by decide +kernel, rfl, by decide +kernel, by decide +kernel⟩
def spCaps (K : PySem.W.Frag) : Sp := fun vs H Q _ => ∃ (a b : Addr) (gv : V) (l m : List Nat) (gs : List Group), vs = [.ref a, gv, .ref b] ∧ NT H a l ∧ Is H (.tup (gs.map encG)) gv ∧ NumSeq K H b m ∧ l.length ≤ 100 ∧ gs.length ≤ 100 ∧ (∀ g ∈ gs, g.1.length ≤ 100) ∧
  ∀ H' p, Same H H' → H p = none → H' p = some (.lst ((capped gs (l.filter m.contains) []).map nv)) → Q (.ref p) H'
/-- the walk of a comprehension, turn by turn; S k H: what stands behind k turns -/
theorem lc_raw {α : Type} {J : It} {G : Hp → Prop} {l : List α} {enc : α → V} {g : TG} {tt : TT} {te : TE} {vs : List Nat} {σ : L2.St} {H1 : Hp} {D : Addr} {Qd : Hp → Prop}
    (I : ItOf J G l enc) (S : Nat → Hp → Prop) (h0 : S 0 (upd H1 D (.lst []))) (hG : ∀ k H, S k H → G H)
    (hs : ∀ k a H, l[k]? = some a → S k H → g (enc a) (wipe σ vs) H fun σ2 H2 => wipe σ2 vs = wipe σ vs ∧ tt σ2 H2 fun b H3 =>
      if b = true then te σ2 H3 fun y H4 => ∃ acc, H4 D = some (.lst acc) ∧ acc.length < sizeLine ∧ S (k + 1) (upd H4 D (.lst (acc ++ [y]))) else S (k + 1) H3)
    (hd : ∀ H, S l.length H → Qd H) : LcGoal J g tt te vs σ H1 D Qd := by
  refine ⟨fun k m H => m = l.length - k ∧ k ≤ l.length ∧ S k H, ⟨_, rfl, Nat.zero_le _, h0⟩, fun k m H w => ?_⟩
  obtain ⟨rfl, hk, st⟩ := w
  have gg := hG k H st
  by_cases hlt : k < l.length
  · refine .inr ⟨I.go k H gg hlt, fun H' => S (k + 1) H', fun H' h => ⟨l.length - (k + 1), by omega, rfl, hlt, h⟩, fun x H' y => ?_⟩
    obtain ⟨rfl, ex⟩ := I.yld k H x H' gg y
    have ea : l[k]? = some l[k] := List.getElem?_eq_getElem hlt
    rw [ex _ ea]
    exact hs k l[k] H' ea st
  · have e : k = l.length := by omega
    subst e
    exact .inl ⟨I.stop _ H gg rfl, hd H st⟩
theorem take_snoc {α : Type} {l : List α} {k : Nat} {a : α} (h : l[k]? = some a) : l.take (k + 1) = l.take k ++ [a] := by rw [List.take_add_one, h]; rfl
theorem map_get {α β : Type} {f : α → β} {l : List α} {k : Nat} {y : β} (h : (l.map f)[k]? = some y) : ∃ a, l[k]? = some a ∧ y = f a := by
  rw [List.getElem?_map] at h
  cases e : l[k]? with
  | none => rw [e] at h; cases h
  | some a => rw [e] at h; cases h; exact ⟨a, rfl, rfl⟩
/-- len(e), e a list or a tuple -/
def rLenS (K : PySem.W.Frag) : List V → Hp → VK → Prop := fun xs H Q => ∃ p ys, xs = [.ref p] ∧ (SqL K H p ys ∨ SqT K H p ys) ∧ Q (.int ys.length) H
theorem Same.none {H H' : Hp} (s : Same H H') {a : Addr} (h : H' a = none) : H a = none := by
  cases z : H a with
  | none => rfl
  | some o => rw [s a o z] at h; cases h
theorem caps_all (gs : List Group) (found : List Nat) (c : Nat) :
    (((gs.filter fun g => g.1.contains c).map fun g => decide ((0 : Int) < (g.2 : Int) - (((g.1.filter found.contains).length : Nat) : Int))).all id) = canTake gs found c := by
  unfold K39.canTake
  induction gs with
  | nil => rfl
  | cons g gs ih =>
    rw [List.filter_cons]
    cases h : g.1.contains c with
    | true =>
      rw [if_pos rfl, List.map_cons, List.all_cons, List.all_cons, ih, h]
      congr 1
      show decide ((0 : Int) < (g.2 : Int) - (((g.1.filter found.contains).length : Nat) : Int)) = (!true || decide ((g.1.filter found.contains).length < g.2))
      rw [Bool.not_true, Bool.false_or, Bool.eq_iff_iff, decide_eq_true_eq, decide_eq_true_eq]
      omega
    | false =>
      rw [if_neg Bool.false_ne_true, List.all_cons, ih, h]
      rfl
theorem capped_snoc (gs : List Group) : ∀ (l : List Nat) (c : Nat) (F : List Nat), capped gs (l ++ [c]) F = (if canTake gs (capped gs l F) c = true then capped gs l F ++ [c] else capped gs l F)
  | [], c, F => by
    show capped gs [c] F = _
    rw [capped, capped, capped]
    rfl
  | a :: l, c, F => by
    rw [List.cons_append, capped, capped]
    split
    · exact capped_snoc gs l c (F ++ [a])
    · exact capped_snoc gs l c F
theorem capped_len (gs : List Group) : ∀ (l F : List Nat), (capped gs l F).length ≤ l.length + F.length
  | [], F => by rw [capped]; simp
  | a :: l, F => by
    rw [capped]
    split
    · have := capped_len gs l (F ++ [a])
      simp only [List.length_append, List.length_cons, List.length_nil] at this ⊢
      omega
    · have := capped_len gs l F
      simp only [List.length_cons]
      omega
theorem has_caps (bt : Bt mg) (hoff : Has P w K mg base 1 "offered_of" ["row", "offered"] (spOff K)) (d : At K mg "within_caps" 8) : Has P w K mg base 2 "within_caps" ["row", "groups", "offered"] (spCaps K) := by
  obtain ⟨fO, fdO, GO, gO, kO, bO⟩ := hoff.ex
  refine has_of d scCaps (fun vs H Q E h => ?_) (fun _ _ _ _ _ _ us hl => match us, hl with | [_, _, _], _ => rfl) (fun f cdv A outer s H vs Q E hr h => ?_)
  · obtain ⟨a, b, gv, l, m, gs, rfl, _⟩ := h
    rfl
  obtain ⟨a, b, gv, l, m, gs, rfl, ha, hg, hb, hl, hgl, hgm, q⟩ := h
  obtain ⟨ga, gxs, rfl, hga, hgx⟩ := hg
  have gxlen : gxs.length = gs.length := by rw [hgx.length, List.length_map]
  refine ⟨_, pss_cons (ps_set (i := 3) scCaps.nd rfl (Or.inr rfl) (pe_lst pa_nil))
    (pss_cons (ps_for PassesOwn.never rfl (pi_list (pe_call GO hr rfl gO kO bO .nil pass0 (pa_cons (pv 0) (pa_cons (pv 2) pa_nil)))) (pg_name (i := 4) scCaps.nd rfl (Or.inr rfl))
      (pss_cons (ps_setLc (i := 5) (own := [("group", 6), ("cap", 7)]) (g := gTup K 2 (gCons (gName 6) (gCons (gName 7) gNil))) rfl scCaps.nd rfl rfl (sw_true rfl rfl rfl (by decide +kernel)) (pi_tup (pv 1))
          (blkOk_by (N := ["row", "groups", "offered", "found", "contract", "caps", "group", "cap"]) (sc := defScope (top 8)) (by decide +kernel))
          (fun _ _ _ _ _ => pg_tup rfl (pgs_cons (pg_name (i := 6) scCaps.nd rfl (.inl rfl)) (pgs_cons (pg_name (i := 7) scCaps.nd rfl (.inl rfl)) pgs_nil)))
          (fun _ _ _ _ _ => pts_one (pt_cmpR (r := rIn K false) op_in_seq (pv 4) (pv 6) rfl))
          (fun _ _ _ _ _ => pe_op op_sub (pv 7) (pe_callB (r := rLenS K) call_len_seq rfl bt.len (by decide +kernel) (pa_cons (pe_call GO hr rfl gO kO bO .nil pass0 (pa_cons (pv 6) (pa_cons (pv 3) pa_nil))) pa_nil))))
      (pss_one (ps_if (pt_val (pe_callB (cr_all rfl) rfl bt.all (by decide +kernel) (pa_cons (pe_lc (own := [("cap", 7)]) (g := gName 7) (tt := tYes) rfl scCaps.nd (pi_list (pv 5))
          (blkOk_by (N := ["row", "groups", "offered", "found", "contract", "caps", "group", "cap"]) (sc := defScope (top 8)) (by decide +kernel))
          (fun _ _ _ _ _ => pg_name (i := 7) scCaps.nd rfl (.inl rfl)) (fun _ _ _ _ _ => pts_nil) (fun _ _ _ _ _ => pe_cmpR op_gt (pv 7) pe_int (nomark _))) pa_nil)))
        (pss_one (ps_expr (pe_bm PySem.F.plainAttrs_list PySem.F.slot_list_append PySem.F.type_list_append mt_append (pv 3) (pa_cons (pv 4) pa_nil)))) pss_nil))))
    (pss_one (ps_ret (pv 3)))), ?_⟩
  refine ⟨(by show 0 ≤ sizeLine; decide), fun fl nf => ?_⟩
  refine ⟨_, rfl, _, rfl, a, b, l, m, rfl, Same.sqt (same_new _ nf) ha.sq, NumSeq.same (same_new _ nf) hb, by omega, fun H2 p2 s2 n2 e2 => ⟨p2, rfl, ⟨_, SqL.of e2⟩, ?_⟩⟩
  have efl : H2 fl = some (.lst []) := s2 _ _ upd_same
  have n2' : fl ≠ p2 := fun z => by rw [← z, upd_same] at n2; cases n2
  have n2h : H p2 = none := by rw [upd_ne (fun z => n2' z.symm)] at n2; exact n2
  have s20 : Same H H2 := (same_new _ nf).trans s2
  refine for_list (xs := (l.filter m.contains).map nv) (fun i σ H' => (∃ y z, σ = [some (.ref a), some (.ref ga), some (.ref b), some (.ref fl), y, z, none, none]) ∧ Same H H' ∧ H' p2 = some (.lst ((l.filter m.contains).map nv)) ∧ H' fl = some (.lst ((capped gs ((l.filter m.contains).take i) []).map nv)))
    ⟨⟨none, none, rfl⟩, s20, e2, efl⟩ (fun i σ H' _ p => SqL.of p.2.2.1) (fun i x σ H' hx p => ?_) fun σ H' p => ?_
  · obtain ⟨⟨y, z, rfl⟩, s3, e3, e4⟩ := p
    obtain ⟨c, ec, rfl⟩ := map_get hx
    have et := take_snoc ec
    generalize hF : capped gs ((l.filter m.contains).take i) [] = F at e4
    have Flen : F.length ≤ 100 := by
      have h1 := capped_len gs ((l.filter m.contains).take i) []
      have h2 := List.length_filter_le m.contains l
      rw [hF, List.length_take] at h1
      simp only [List.length_nil] at h1
      omega
    refine ⟨_, rfl, ga, rfl, ⟨_, SqT.of (s3 _ _ hga)⟩, fun D nD => ?_⟩
    have xlen : gxs.length = gs.length := gxlen
    refine lc_raw (G := Over H' D) (l := gxs) (enc := id) (itOf_tup fun H3 g => by rw [List.map_id]; exact Same.sqt (s3.trans g.2) (SqT.of hga))
      (fun k H3 => Over H' D H3 ∧ H3 D = some (.lst (((gs.take k).filter fun g => g.1.contains c).map fun g => V.int ((g.2 : Int) - (((g.1.filter F.contains).length : Nat) : Int))))) ⟨Over.start nD _, upd_same⟩ (fun k H3 p => p.1) (fun k x H3 hx p => ?_) fun H3 p => ?_
    · obtain ⟨o, eD⟩ := p
      obtain ⟨t, gt, ht⟩ := hgx.get' hx
      obtain ⟨g, eg, rfl⟩ := map_get gt
      obtain ⟨ca, u, rfl, hca, hu⟩ := is_group.mp ht
      have gm : g ∈ gs := List.mem_of_getElem? eg
      have etg := take_snoc eg
      have hca' := (s3.trans o.2) _ _ hca
      have hu' : NT H3 u g.1 := (s3.trans o.2) _ _ hu
      refine ⟨ca, _, rfl, SqT.of hca', rfl, .ref u, [nv g.2], rfl, nv g.2, [], rfl, rfl, rfl, ?_⟩
      refine ⟨_, rfl, _, rfl, u, g.1.map nv, rfl, .inr hu'.sq, rfl, flat_nvs _, ?_⟩
      show ∃ b, V.bl (inV (nv c) (g.1.map nv)) = .bl b ∧ _
      rw [inV_nv]
      refine ⟨_, rfl, ?_⟩
      rw [etg, List.filter_append]
      refine ite2 (fun hc => ?_) (fun hc => ?_)
      · rw [show List.filter (fun g : Group => g.1.contains c) [g] = [g] from by rw [List.filter_cons, if_pos hc]; rfl, List.map_append]
        refine ⟨_, rfl, _, rfl, _, rfl, u, fl, g.1, F, rfl, hu'.sq, .inl (SqL.of (o.2 _ _ e4)), Nat.le_trans (hgm g gm) (by decide), fun H5 p5 s5 n5 e5 => ⟨p5, _, rfl, .inl (SqL.of e5), _, _, rfl, rfl, _, s5 _ _ eD, ?_, ?_⟩⟩
        · rw [List.length_map]
          have h1 := List.length_filter_le (fun g : Group => g.1.contains c) (gs.take k)
          rw [List.length_take] at h1
          exact szk (by omega)
        · refine ⟨Over.put ⟨o.1, o.2.trans s5⟩ _, ?_⟩
          rw [upd_same, List.length_map]
          rfl
      · rw [show List.filter (fun g : Group => g.1.contains c) [g] = [] from by rw [List.filter_cons, if_neg hc]; rfl, List.append_nil]
        exact ⟨o, eD⟩
    · obtain ⟨o, eD⟩ := p
      rw [xlen, List.take_length] at eD
      generalize hZ : (gs.filter fun g => g.1.contains c) = Z at eD
      have Zlen : Z.length ≤ 100 := by
        rw [← hZ]
        exact Nat.le_trans (List.length_filter_le _ _) hgl
      refine ⟨_, rfl, _, rfl, ⟨_, SqL.of eD⟩, fun D2 nD2 => ?_⟩
      refine lc_map (G := Over H3 D2) (l := Z) (enc := fun g : Group => V.int ((g.2 : Int) - (((g.1.filter F.contains).length : Nat) : Int))) (itOf_list fun H2 g => g.2.seq (SqL.of eD)) (fun g => .bl (decide ((0 : Int) < (g.2 : Int) - (((g.1.filter F.contains).length : Nat) : Int)))) (Over.start nD2 _) (fun H2 ys g => g.put ys) (szk (Nat.le_trans Zlen (by decide))) (fun _ _ => rfl) (fun n ys H2 Q2 hn g eD k => ?_) fun H2 g eD => ?_
      · exact ⟨_, rfl, _, _, rfl, rfl, k H2 g eD⟩
      · have eb : Z.map (fun g => V.bl (decide ((0 : Int) < (g.2 : Int) - (((g.1.filter F.contains).length : Nat) : Int)))) = (Z.map fun g => decide ((0 : Int) < (g.2 : Int) - (((g.1.filter F.contains).length : Nat) : Int))).map V.bl := by rw [List.map_map]; rfl
        rw [eb] at eD
        refine ⟨D2, _, rfl, SqL.of eD, _, rfl, ?_⟩
        rw [← hZ, caps_all]
        have s5 := (s3.trans o.2).trans g.2
        have e45 := g.2 _ _ (o.2 _ _ e4)
        have e35 := g.2 _ _ (o.2 _ _ e3)
        rw [et, capped_snoc, hF]
        refine ite2 (fun hc => ?_) (fun hc => ?_)
        · rw [if_pos hc]
          refine ⟨_, rfl, .inl ⟨rfl, _, SqL.of e45⟩, _, rfl, fl, _, _, rfl, rfl, e45, by rw [List.length_map]; exact szk (Nat.le_trans Flen (by decide)), ?_⟩
          refine ⟨⟨_, _, rfl⟩, fun b o e => ?_, ?_, ?_⟩
          · rw [upd_ne (ne_of_none e nf)]
            exact s5 b o e
          · rw [upd_ne (fun z => n2' z.symm)]
            exact e35
          · rw [upd_same, List.map_append]
            rfl
        · rw [if_neg hc]
          exact ⟨⟨_, _, rfl⟩, s5, e35, e45⟩
  · obtain ⟨⟨y, z, rfl⟩, s3, e3, e4⟩ := p
    refine ⟨_, rfl, q _ fl s3 nf ?_⟩
    rw [e4, List.length_map, List.take_length]
end
end KW

namespace KW
open PySem PySem.Spec PyProof.Rows L2 K39 LamX
/-! ### all but the tables stays -/
def Xt (T : List (Addr × Str)) (H H' : Hp) : Prop := ExtN H H' ∧ Tabs T H'
section
variable {T : List (Addr × Str)} {H H1 H2 H' : Hp}
theorem Xt.refl (t : Tabs T H) : Xt T H H := ⟨ExtN.refl H, t⟩
theorem Xt.trans (a : Xt T H H1) (b : Xt T H1 H2) : Xt T H H2 := ⟨a.1.trans b.1, b.2⟩
theorem Same.xt (s : Same H H') (t : Tabs T H) : Xt T H H' := ⟨ExtN.of s, t.ext s⟩
theorem Xt.same (a : Xt T H H1) (s : Same H1 H2) : Xt T H H2 := a.trans (Same.xt s a.2)
theorem extN_tk (e : ExtN H H') : TK H H' := fun a xs h => e a _ h (fun ps q => by cases q)
theorem Xt.tk (e : Xt T H H') : TK H H' := extN_tk e.1
theorem Xt.lst (e : Xt T H H') {a : Addr} {xs : List V} (h : H a = some (.lst xs)) : H' a = some (.lst xs) := e.1 a _ h (fun ps q => by cases q)
theorem Xt.sql {K : PySem.W.Frag} (e : Xt T H H') {a : Addr} {xs : List V} (h : SqL K H a xs) : SqL K H' a xs := by
  rcases h with (z | ⟨o, z⟩) | z
  · exact .inl (.inl (e.1 _ _ z (fun ps q => by cases q)))
  · exact .inl (.inr ⟨o, e.1 _ _ z (fun ps q => by cases q)⟩)
  · exact .inr z
theorem Xt.sqt {K : PySem.W.Frag} (e : Xt T H H') {a : Addr} {xs : List V} (h : SqT K H a xs) : SqT K H' a xs := by
  rcases h with (z | ⟨o, z⟩) | z
  · exact .inl (.inl (e.1 _ _ z (fun ps q => by cases q)))
  · exact .inl (.inr ⟨o, e.1 _ _ z (fun ps q => by cases q)⟩)
  · exact .inr z
theorem Xt.num {K : PySem.W.Frag} (e : Xt T H H') {a : Addr} {l : List Nat} (h : NumSeq K H a l) : NumSeq K H' a l := h.imp e.sql e.sqt
/-- no list of H lies at a -/
def NewL (H : Hp) (a : Addr) : Prop := ∀ xs, H a ≠ some (.lst xs)
theorem Xt.newL (e : Xt T H H') {a : Addr} (h : H' a = none) : NewL H a := fun xs z => by rw [e.lst z] at h; cases h
theorem NewL.of {a : Addr} (h : H a = none) : NewL H a := fun xs z => by rw [h] at z; cases z
theorem NewL.ne {a b : Addr} {xs : List V} (h : NewL H a) (e : H b = some (.lst xs)) : a ≠ b := fun z => h xs (by rw [z]; exact e)
/-- a new list is written: the tables stay -/
theorem Tabs.put (t : Tabs T H) {D : Addr} {ys : List V} (h : H D = some (.lst ys)) (o : HO) : Tabs T (upd H D o) := fun p hp => by
  obtain ⟨ps, h1, h2, h3⟩ := t p hp
  refine ⟨ps, ?_, h2, fun pos cv hc => ?_⟩
  · rw [upd_ne (fun z => by rw [z, h] at h1; cases h1)]
    exact h1
  · obtain ⟨c, e1, e2⟩ := h3 pos cv hc
    refine ⟨c, e1, ?_⟩
    rw [upd_ne (fun z => by rw [z, h] at e2; cases e2)]
    exact e2
/-- the list D is new over H -/
def OvX (T : List (Addr × Str)) (H : Hp) (D : Addr) (H' : Hp) : Prop := H D = none ∧ Xt T H H'
theorem OvX.put {D : Addr} (h : OvX T H D H') {xs : List V} (e : H' D = some (.lst xs)) (ys : List V) : OvX T H D (upd H' D (.lst ys)) :=
  ⟨h.1, fun a o q n => by rw [upd_ne (ne_of_none q h.1)]; exact h.2.1 a o q n, Tabs.put h.2.2 e _⟩
theorem OvX.start {D : Addr} (t : Tabs T H) (h : H D = none) (o : HO) : OvX T H D (upd H D o) := ⟨h, Same.xt (same_new o h) t⟩
theorem OvX.xt {D : Addr} (h : OvX T H D H') (x : Xt T H' H2) : OvX T H D H2 := ⟨h.1, h.2.trans x⟩
end
/-! ### comprehensions over two sources -/
theorem yes_of {σ : L2.St} {H : Hp} {A B : Hp → Prop} (h : A H) : tYes σ H (fun b H6 => if b = true then A H6 else B H6) := by
  show if true = true then A H else B H
  rw [if_pos rfl]
  exact h
/-- what the inner walk asks -/
def InGoal (J1 : It) (g1 : TG) (tt1 : TT) (te : TE) (vs1 : List Nat) (σ2 : L2.St) (H4 : Hp) (D : Addr) (Nx : Hp → Prop) : Prop :=
  ∃ W1 : Nat → Nat → Hp → Prop, (∃ m, W1 0 m H4) ∧ ∀ j k H, W1 j k H →
    (J1.stop j H ∧ Nx H) ∨ (J1.go j H ∧ ∃ Nx1 : Hp → Prop, (∀ H', Nx1 H' → ∃ k', k' < k ∧ W1 (j + 1) k' H') ∧ ∀ x H', J1.yld j H x H' → g1 x (wipe σ2 vs1) H' fun σ3 H5 => wipe σ3 vs1 = wipe σ2 vs1 ∧ tt1 σ3 H5 fun b H6 =>
      if b = true then te σ3 H6 fun y H7 => ∃ acc, H7 D = some (.lst acc) ∧ acc.length < sizeLine ∧ Nx1 (upd H7 D (.lst (acc ++ [y]))) else Nx1 H6)
theorem in_walk {J1 : It} {te : TE} {vs1 : List Nat} {σ2 : L2.St} {H4 : Hp} {D : Addr} {Nx : Hp → Prop} {G : Hp → Prop} {l : List Nat} {acc : List V} {i : Nat} (I : ItOf J1 G l nv) (g0 : G H4) (e0 : H4 D = some (.lst acc)) (hGD : ∀ H xs ys, G H → H D = some (.lst xs) → G (upd H D (.lst ys))) (hlen : acc.length + l.length ≤ sizeLine)
    (hw : ∀ n ∈ l, wipe ((wipe σ2 vs1).set i (some (nv n))) vs1 = wipe σ2 vs1) (he : ∀ n H (Q : VK), n ∈ l → G H → Q (nv n) H → te ((wipe σ2 vs1).set i (some (nv n))) H Q)
    (hd : ∀ H, G H → H D = some (.lst (acc ++ l.map nv)) → Nx H) : InGoal J1 (gName i) tYes te vs1 σ2 H4 D Nx := by
  refine ⟨fun k m H => m = l.length - k ∧ k ≤ l.length ∧ G H ∧ H D = some (.lst (acc ++ (l.take k).map nv)), ⟨_, rfl, Nat.zero_le _, g0, by rw [List.take_zero, List.map_nil, List.append_nil]; exact e0⟩, fun k m H w => ?_⟩
  obtain ⟨rfl, hk, g, eD⟩ := w
  by_cases hlt : k < l.length
  · refine .inr ⟨I.go k H g hlt, fun H' => G H' ∧ H' D = some (.lst (acc ++ (l.take (k + 1)).map nv)), fun H' h => ⟨l.length - (k + 1), by omega, rfl, hlt, h⟩, fun x H' y => ?_⟩
    obtain ⟨rfl, ex⟩ := I.yld k H x H' g y
    have ea : l[k]? = some l[k] := List.getElem?_eq_getElem hlt
    rw [ex _ ea]
    refine ⟨hw _ (List.getElem_mem hlt), ?_⟩
    refine yes_of (A := fun H6 => te _ H6 fun y H7 => ∃ acc, H7 D = some (.lst acc) ∧ acc.length < sizeLine ∧ _) ?_
    refine he _ _ _ (List.getElem_mem hlt) g ⟨_, eD, ?_, hGD _ _ _ g eD, ?_⟩
    · rw [List.length_append, List.length_map, List.length_take]
      omega
    · rw [upd_same, take_snoc ea, List.map_append, List.append_assoc]
      rfl
  · have e : k = l.length := by omega
    subst e
    rw [List.take_length] at eD
    exact .inl ⟨I.stop _ H g rfl, hd H g eD⟩
/-- what the walk over two sources asks -/
def LcGoal2 (J : It) (g : TG) (tt : TT) (wi1 : TI) (g1 : TG) (tt1 : TT) (te : TE) (vs vs1 : List Nat) (σ : L2.St) (H1 : Hp) (D : Addr) (Qd : Hp → Prop) : Prop :=
  ∃ W : Nat → Nat → Hp → Prop, (∃ m, W 0 m (upd H1 D (.lst []))) ∧ ∀ i m H, W i m H →
    (J.stop i H ∧ Qd H) ∨ (J.go i H ∧ ∃ Nx : Hp → Prop, (∀ H', Nx H' → ∃ m', m' < m ∧ W (i + 1) m' H') ∧ ∀ x H', J.yld i H x H' → g x (wipe σ vs) H' fun σ2 H2 => wipe σ2 vs = wipe σ vs ∧ tt σ2 H2 fun b H3 =>
      if b = true then wi1 σ2 H3 fun J1 H4 => InGoal J1 g1 tt1 te vs1 σ2 H4 D Nx else Nx H3)
theorem lc2_raw {α : Type} {J : It} {G : Hp → Prop} {l : List α} {enc : α → V} {g g1 : TG} {tt tt1 : TT} {wi1 : TI} {te : TE} {vs vs1 : List Nat} {σ : L2.St} {H1 : Hp} {D : Addr} {Qd : Hp → Prop}
    (I : ItOf J G l enc) (S : Nat → Hp → Prop) (h0 : S 0 (upd H1 D (.lst []))) (hG : ∀ k H, S k H → G H)
    (hs : ∀ k a H, l[k]? = some a → S k H → g (enc a) (wipe σ vs) H fun σ2 H2 => wipe σ2 vs = wipe σ vs ∧ tt σ2 H2 fun b H3 =>
      if b = true then wi1 σ2 H3 fun J1 H4 => InGoal J1 g1 tt1 te vs1 σ2 H4 D (S (k + 1)) else S (k + 1) H3)
    (hd : ∀ H, S l.length H → Qd H) : LcGoal2 J g tt wi1 g1 tt1 te vs vs1 σ H1 D Qd := by
  refine ⟨fun k m H => m = l.length - k ∧ k ≤ l.length ∧ S k H, ⟨_, rfl, Nat.zero_le _, h0⟩, fun k m H w => ?_⟩
  obtain ⟨rfl, hk, st⟩ := w
  have gg := hG k H st
  by_cases hlt : k < l.length
  · refine .inr ⟨I.go k H gg hlt, fun H' => S (k + 1) H', fun H' h => ⟨l.length - (k + 1), by omega, rfl, hlt, h⟩, fun x H' y => ?_⟩
    obtain ⟨rfl, ex⟩ := I.yld k H x H' gg y
    have ea : l[k]? = some l[k] := List.getElem?_eq_getElem hlt
    rw [ex _ ea]
    exact hs k l[k] H' ea st
  · have e : k = l.length := by omega
    subst e
    exact .inl ⟨I.stop _ H gg rfl, hd H st⟩
/-! ### a comprehension over zip of two lists -/
theorem lc_zipN {K : PySem.W.Frag} {a b : Addr} {xs ys : List V} {g : TG} {tt : TT} {te : TE} {vs : List Nat} {σ : L2.St} {H1 : Hp} {D : Addr} {Qd : Hp → Prop} (Pv : Nat → Hp → Prop) (h0 : Pv 0 (upd H1 D (.lst []))) (hl : ∀ i H, Pv i H → SqL K H a xs ∧ SqL K H b ys)
    (hs : ∀ i x y T H, xs[i]? = some x → ys[i]? = some y → Pv i H → H T = none → g (.ref T) (wipe σ vs) (upd H T (.tup [x, y])) fun σ2 H2 => wipe σ2 vs = wipe σ vs ∧ tt σ2 H2 fun b H3 =>
      if b = true then te σ2 H3 fun y H4 => ∃ acc, H4 D = some (.lst acc) ∧ acc.length < sizeLine ∧ Pv (i + 1) (upd H4 D (.lst (acc ++ [y]))) else Pv (i + 1) H3) (hd : ∀ H, Pv (min xs.length ys.length) H → Qd H) : LcGoal (Itz K a b) g tt te vs σ H1 D Qd := by
  refine ⟨fun i m H => m = min xs.length ys.length - i ∧ i ≤ min xs.length ys.length ∧ Pv i H, ⟨_, rfl, Nat.zero_le _, h0⟩, fun i m H w => ?_⟩
  obtain ⟨rfl, hi, p⟩ := w
  obtain ⟨q1, q2⟩ := hl i H p
  by_cases hlt : i < min xs.length ys.length
  · have l1 : i < xs.length := by omega
    have l2 : i < ys.length := by omega
    refine .inr ⟨⟨xs, ys, xs[i], ys[i], q1, q2, List.getElem?_eq_getElem l1, List.getElem?_eq_getElem l2⟩, Pv (i + 1), fun H' p' => ⟨min xs.length ys.length - (i + 1), by omega, rfl, hlt, p'⟩, fun x H' y => ?_⟩
    obtain ⟨T, z, u, rfl, nT, rfl, f1, f2⟩ := y
    exact hs i z u T H (f1 xs q1) (f2 ys q2) p nT
  · have e : i = min xs.length ys.length := by omega
    subst e
    exact .inl ⟨⟨xs, ys, q1, q2, by omega⟩, hd H p⟩
theorem cut_take (xs : List V) (k : Nat) : cutV xs none (some (k : Int)) = xs.take k := by
  unfold cutV
  rw [HT.sIx_none, HT.sIx_nat, List.drop_zero, Nat.sub_zero, ← List.take_eq_take_min]
theorem cut_drop (xs : List V) (k : Nat) : cutV xs (some (k : Int)) none = xs.drop k := by
  unfold cutV
  rw [HT.sIx_none, HT.sIx_nat]
  rw [List.take_of_length_le (by rw [List.length_drop]; exact Nat.le_refl _)]
  rcases Nat.le_total k xs.length with h | h
  · rw [Nat.min_eq_left h]
  · rw [Nat.min_eq_right h, List.drop_length, List.drop_eq_nil_of_le h]
/-! ### traded -/
def tq : He.Defn := ("traded", none)
def Tt (K : PySem.W.Frag) : List (Addr × Str) := [((He.cT K tq).2, "traded.<locals>.<lambda>")]
def priceOf (cs : List Con) (n : Nat) : Int := match cs[n]? with
  | some c => c.p
  | none => 0
def pairT (p : Nat × Nat) : T := .tup [.int (p.1 : Int), .int (p.2 : Int)]
theorem price_at {H : Hp} {cs : List Con} {cxs : List V} (h : IsAll H (cs.map encCon) cxs) {n : Nat} (hn : n < cs.length) : ∃ ta c, cs[n]? = some c ∧ cxs[n]? = some (.ref ta) ∧ H ta = some (.tup [nv c.s, nv c.b, .int c.p]) ∧ priceOf cs n = c.p := by
  have e := List.getElem?_eq_getElem hn
  obtain ⟨x, h1, h2⟩ := h.get (i := n) (t := encCon cs[n]) (by rw [List.getElem?_map, e]; rfl)
  obtain ⟨a, rfl, h3⟩ := is_con.mp h2
  exact ⟨a, _, e, h1, h3, by unfold priceOf; rw [e]⟩
theorem is_pair {H : Hp} {p : Nat × Nat} {v : V} : Is H (pairT p) v ↔ ∃ a, v = .ref a ∧ H a = some (.tup [nv p.1, nv p.2]) := by
  constructor
  · rintro ⟨a, xs, e, h1, h2⟩
    obtain ⟨x, y, rfl, g1, g2⟩ := is2 h2
    have g1' : x = nv p.1 := g1
    have g2' : y = nv p.2 := g2
    subst g1' g2'
    exact ⟨a, e, h1⟩
  · rintro ⟨a, e, h1⟩
    exact ⟨a, _, e, h1, _, _, rfl, rfl, _, _, rfl, rfl, rfl⟩
theorem flat2_snoc (ps : List (Nat × Nat)) (p : Nat × Nat) : flat2 (ps ++ [p]) = flat2 ps ++ [p.1, p.2] := by
  unfold flat2
  rw [List.flatMap_append]
  rfl
theorem flat2_len (ps : List (Nat × Nat)) : (flat2 ps).length = 2 * ps.length := by
  induction ps with
  | nil => rfl
  | cons p ps ih =>
    show (flat2 ps).length + 1 + 1 = 2 * (ps.length + 1)
    omega
theorem trd_flat {K : PySem.W.Frag} {T : List (Addr × Str)} {G5 : Hp} {pp : Addr} {rt : List V} {ps : List (Nat × Nat)} {a0 a1 a2 a3 a4 a5 a6 a7 a8 a10 : Option V} {Q : VK} (t : Tabs T G5) (e5 : G5 pp = some (.lst rt)) (hrs2 : IsAll G5 (ps.map pairT) rt) (lp : ps.length ≤ 100)
    (q : ∀ H D, Xt T G5 H → G5 D = none → H D = some (.lst ((flat2 ps).map nv)) → Q (.ref D) H) :
    tLc2 (iList K (tVar 9)) (gName 8) tYes (iTup K (tVar 8)) (gName 10) tYes (tVar 10) [8, 10] [10] [a0, a1, a2, a3, a4, a5, a6, a7, a8, some (.ref pp), a10] G5 Q := by
  refine ⟨_, rfl, pp, rfl, ⟨_, SqL.of e5⟩, fun D2 nD2 => ?_⟩
  have rl : rt.length = ps.length := by rw [hrs2.length, List.length_map]
  refine lc2_raw (G := OvX T G5 D2) (l := rt) (enc := id) (itOf_list fun H3 g => by rw [List.map_id]; exact g.2.sql (SqL.of e5)) (fun k H3 => OvX T G5 D2 H3 ∧ H3 D2 = some (.lst ((flat2 (ps.take k)).map nv))) ⟨OvX.start t nD2 _, upd_same⟩ (fun k H3 p => p.1) (fun k x H3 hx p => ?_) fun H3 p => ?_
  · obtain ⟨o2, eD2⟩ := p
    obtain ⟨t, gt, ht⟩ := hrs2.get' hx
    obtain ⟨pr, epr, rfl⟩ := map_get gt
    obtain ⟨a, rfl, hpa⟩ := is_pair.mp ht
    have hk : k < ps.length := (List.getElem?_eq_some_iff.mp epr).1
    refine ⟨rfl, yes_of ⟨_, rfl, a, rfl, ⟨_, o2.2.sqt (SqT.of hpa)⟩, ?_⟩⟩
    refine in_walk (G := OvX T G5 D2) (l := [pr.1, pr.2]) (acc := (flat2 (ps.take k)).map nv) (itOf_tup fun H g => g.2.sqt (SqT.of hpa)) o2 eD2 (fun H4 xs ys g e => g.put e ys) ?_ (fun _ _ => rfl) (fun n H4 Q2 hn g k => ⟨_, rfl, k⟩) fun H4 g e => ⟨g, ?_⟩
    · rw [List.length_map, flat2_len, List.length_take]
      exact szl (by simp only [List.length_cons, List.length_nil]; omega)
    · rw [e, take_snoc epr, flat2_snoc, List.map_append]
  · obtain ⟨o2, eD2⟩ := p
    rw [rl, List.take_length] at eD2
    exact q _ _ o2.2 nD2 eD2
/-- the def traded: where it stands -/
structure AtT (K : PySem.W.Frag) (mg : Str → Option Value) : Prop where
  ex : ∃ fd, FnP K "traded" 7 (He.fAd K tq) fd ∧ mg "traded" = some (.ref (He.fAd K tq))
section
variable {P : Program} {w : World} {K : PySem.W.Frag} {mg : Str → Option Value} {base : Heap}
theorem scTrd : FnScope ["contracts", "choice", "offered", "_", "room", "cost", "buys", "sells", "pair", "pairs", "contract"] ["contracts", "choice", "offered"] (defScope (top 7)) := ⟨rfl, rfl, rfl, by decide +kernel, rfl, by decide +kernel, by decide +kernel⟩
def spTrd (K : PySem.W.Frag) : Sp := fun vs H Q _ => ∃ (ca b : Addr) (v : V) (cs : List Con) (cxs : List V) (room : Nat) (cost : Int) (ups downs m : List Nat), vs = [.ref ca, v, .ref b] ∧ H ca = some (.tup cxs) ∧ IsAll H (cs.map encCon) cxs ∧
  Is H (encP (.trader room cost ups downs)) v ∧ NumSeq K H b m ∧ Small cs.length ups ∧ Small cs.length downs ∧ Tabs (Tt K) H ∧
  ∀ H' p, Xt (Tt K) H H' → NewL H p → H' p = some (.lst ((flat2 (tpairs (priceOf cs) room cost ups downs m.contains)).map nv)) → Q (.ref p) H'
theorem has_Trd (bt : Bt mg) (TB : TabB base mg (He.cT K tq).1 (He.cT K tq).2) (hoff : Has P w K mg base 1 "offered_of" ["row", "offered"] (spOff K)) (d : AtT K mg) : Has P w K mg base 2 "traded" ["contracts", "choice", "offered"] (spTrd K) := by
  obtain ⟨fO, fdO, GO, gO, kO, bO⟩ := hoff.ex
  obtain ⟨fd, F, e⟩ := d.ex
  refine ⟨He.fAd K tq, fd, ?_, e, F.kp, F.bindsN fun _ _ _ _ _ _ us hl => match us, hl with | [_, _, _], _ => rfl⟩
  obtain ⟨oc, od, dV, kV, doc, pm, an, cdv, ct, osl, rfl, lk, hcd, _, _⟩ := F.ex
  obtain ⟨c, rfl⟩ := He.codeIn_ref hcd
  have hc : (He.cT K tq).1 = c := He.codeOf_eq lk rfl
  refine fn_of lk hcd scTrd (fun vs H Q E h => ?_) fun A outer s H vs Q E hr h => ?_
  · obtain ⟨ca, b, v, cs, cxs, room, cost, ups, downs, m, rfl, _⟩ := h
    rfl
  obtain ⟨ca, b, v, cs, cxs, room, cost, ups, downs, m, rfl, hca, hcs, hv, hb, su, sd, tb, q⟩ := h
  rw [hc] at TB
  have rd : (A.deeper (envOfC "traded" (defScope (top 7)) s.heap.objs.size (He.fAd K tq) (Value.ref c))).depth + 5 < recursionLimit := by have := hr.dp; omega
  have ru : (A.deeper (envOfC "traded" (defScope (top 7)) s.heap.objs.size (He.fAd K tq) (Value.ref c))).units + 64 < cLine := by have := hr.un; omega
  refine ⟨_, PSs.nox (pss_cons (ps_asg (g := gTup K 5 (gCons (gName 3) (gCons (gName 4) (gCons (gName 5) (gCons (gName 6) (gCons (gName 7) gNil)))))) (pv 1) (pg_tup rfl (pgs_cons (pg_name (i := 3) scTrd.nd rfl (.inl rfl)) (pgs_cons (pg_name (i := 4) scTrd.nd rfl (.inl rfl)) (pgs_cons (pg_name (i := 5) scTrd.nd rfl (Or.inr rfl)) (pgs_cons (pg_name (i := 6) scTrd.nd rfl (.inl rfl)) (pgs_cons (pg_name (i := 7) scTrd.nd rfl (.inl rfl)) pgs_nil)))))))
    (pss_cons (ps_set (i := 6) scTrd.nd rfl (.inl rfl) (pe_sortLam (T := Tt K) (neg := false) (p6 := ⟨0, 0, 0, 0⟩) (j := 0) (c := c) (P := (He.cT K tq).2) rfl bt.sorted (pe_call GO hr rfl gO kO bO .nil pass0 (pa_cons (pv 6) (pa_cons (pv 2) pa_nil))) TB rfl (List.mem_singleton.mpr rfl) (fun q hq _ => by rw [List.mem_singleton.mp hq]; rfl) rd ru rfl rfl))
    (pss_cons (ps_set (i := 7) scTrd.nd rfl (.inl rfl) (pe_sortLam (T := Tt K) (neg := true) (j := 0) (c := c) (P := (He.cT K tq).2) rfl bt.sorted (pe_call GO hr rfl gO kO bO .nil pass0 (pa_cons (pv 7) (pa_cons (pv 2) pa_nil))) TB rfl (List.mem_singleton.mpr rfl) (fun q hq _ => by rw [List.mem_singleton.mp hq]; rfl) rd ru rfl rfl))
    (pss_cons (ps_set (i := 9) scTrd.nd rfl (.inl rfl) (pe_slice sl_list (pe_lc (own := [("pair", 8)]) (g := gName 8) rfl scTrd.nd (pi_zipN rfl bt.zip (pa_cons (pv 6) (pa_cons (pv 7) pa_nil))) (blkOk_by (N := ["contracts", "choice", "offered", "_", "room", "cost", "buys", "sells", "pair", "pairs", "contract"]) (sc := defScope (top 7)) (by decide +kernel))
        (fun _ _ _ _ _ => pg_name (i := 8) scTrd.nd rfl (.inl rfl))
        (fun _ _ _ _ _ => pts_one (pt_cmpR op_gt (pe_ix (r := rIxT K) ix_tup (pe_ix (r := rIxT K) ix_tup (pv 0) (pe_ix (r := rIxT K) ix_tup (pv 8) pe_int (fun _ _ => rfl)) (fun _ _ => rfl)) pe_int (fun _ _ => rfl)) (pe_op op_add (pe_ix (r := rIxT K) ix_tup (pe_ix (r := rIxT K) ix_tup (pv 0) (pe_ix (r := rIxT K) ix_tup (pv 8) pe_int (fun _ _ => rfl)) (fun _ _ => rfl)) pe_int (fun _ _ => rfl)) (pv 5)) (nomark _)))
        (fun _ _ _ _ _ => pv 8)) po_none (po_some (pv 4))))
    (pss_one (ps_ret (pe_lc2 (own := [("pair", 8), ("contract", 10)]) (vs1 := [10]) (wi1 := iTup K (tVar 8)) (g := gName 8) (g1 := gName 10) (tt := tYes) (tt1 := tYes) rfl scTrd.nd (pi_list (pv 9)) (blkOk_by (N := ["contracts", "choice", "offered", "_", "room", "cost", "buys", "sells", "pair", "pairs", "contract"]) (sc := defScope (top 7)) (by decide +kernel)) (by decide)
        (fun _ _ _ _ _ => pg_name (i := 8) scTrd.nd rfl (.inl rfl)) (fun _ _ _ _ _ => pts_nil) (fun _ _ _ _ _ => pi_tup (pv 8)) (fun _ _ _ _ _ => pg_name (i := 10) scTrd.nd rfl (.inl rfl)) (fun _ _ _ _ _ => pts_nil) (fun _ _ _ _ _ => pv 10))))))))  , ?_⟩
  obtain ⟨va, ua, da, rfl, hva, hu, hd⟩ := is_trader.mp hv
  refine ⟨_, rfl, va, _, rfl, SqT.of hva, rfl, _, _, rfl, _, _, rfl, _, _, rfl, _, _, rfl, _, _, rfl, rfl, ?_⟩
  have upx : ∀ {H' : Hp}, Xt (Tt K) H H' → ∀ n, n < cs.length → ∃ ta c, cs[n]? = some c ∧ cxs[n]? = some (.ref ta) ∧ H' ta = some (.tup [nv c.s, nv c.b, .int c.p]) ∧ priceOf cs n = c.p := fun x n hn => by
    obtain ⟨ta, c, h1, h2, h3, h4⟩ := price_at hcs hn
    exact ⟨ta, c, h1, h2, x.tk _ _ h3, h4⟩
  have upp : ∀ {H' : Hp}, Xt (Tt K) H H' → ∀ n, n < cs.length → ∃ ta xs, cxs[n]? = some (.ref ta) ∧ SqT K H' ta xs ∧ xs[2]? = some (.int (priceOf cs n)) := fun x n hn => by
    obtain ⟨ta, c, h1, h2, h3, h4⟩ := upx x n hn
    exact ⟨ta, _, h2, SqT.of h3, by rw [h4]; rfl⟩
  refine ⟨_, rfl, _, rfl, ua, b, ups, m, rfl, hu.sq, hb, Nat.le_trans su.1 (by decide), fun H1 p1 s1 n1 e1 => ?_⟩
  have x1 : Xt (Tt K) H H1 := Same.xt s1 tb
  refine ⟨p1, ca, ups.filter m.contains, cxs, priceOf cs, rfl, SqL.of e1, rfl, SqT.of (x1.tk _ _ hca), fun n hn => upp x1 n (su.2 n (List.mem_filter.mp hn).1), x1.2, fun H2 p2 x2 t2 n2 => ?_⟩
  generalize hB : (ups.filter m.contains).mergeSort (cond false (leS (priceOf cs)) (leB (priceOf cs))) = B
  have Bm : ∀ n ∈ B, n < cs.length := fun n hn => by
    rw [← hB, List.mem_mergeSort] at hn
    exact su.2 n (List.mem_filter.mp hn).1
  have Bl : B.length ≤ 100 := by
    rw [← hB, List.length_mergeSort]
    exact Nat.le_trans (List.length_filter_le _ _) su.1
  generalize hG2 : upd H2 p2 (.lst (B.map nv)) = G2
  have y2 : Xt (Tt K) H1 G2 := by
    rw [← hG2]
    exact (show Xt (Tt K) H1 H2 from ⟨x2, t2⟩).same (same_new _ n2)
  have z2 := x1.trans y2
  have e2 : G2 p2 = some (.lst (B.map nv)) := by rw [← hG2, upd_same]
  refine ⟨_, rfl, _, rfl, da, b, downs, m, rfl, Xt.sqt z2 hd.sq, z2.num hb, Nat.le_trans sd.1 (by decide), fun H3 p3 s3 n3 e3 => ?_⟩
  have x3 : Xt (Tt K) H H3 := z2.same s3
  refine ⟨p3, ca, downs.filter m.contains, cxs, priceOf cs, rfl, SqL.of e3, rfl, SqT.of (x3.tk _ _ hca), fun n hn => upp x3 n (sd.2 n (List.mem_filter.mp hn).1), x3.2, fun H4 p4 x4 t4 n4 => ?_⟩
  generalize hS : (downs.filter m.contains).mergeSort (cond true (leS (priceOf cs)) (leB (priceOf cs))) = S
  have Sm : ∀ n ∈ S, n < cs.length := fun n hn => by
    rw [← hS, List.mem_mergeSort] at hn
    exact sd.2 n (List.mem_filter.mp hn).1
  generalize hG4 : upd H4 p4 (.lst (S.map nv)) = G4
  have y4 : Xt (Tt K) H3 G4 := by
    rw [← hG4]
    exact (show Xt (Tt K) H3 H4 from ⟨x4, t4⟩).same (same_new _ n4)
  have z4 := x3.trans y4
  have e4 : G4 p4 = some (.lst (S.map nv)) := by rw [← hG4, upd_same]
  have e24 : G4 p2 = some (.lst (B.map nv)) := y4.lst (s3 _ _ e2)
  refine ⟨_, rfl, _, rfl, p2, p4, _, _, rfl, SqL.of e24, SqL.of e4, fun D nD => ?_⟩
  refine lc_zipN (xs := B.map nv) (ys := S.map nv) (fun i H' => OvX (Tt K) G4 D H' ∧ ∃ rs, H' D = some (.lst rs) ∧ IsAll H' ((((B.zip S).take i).filter fun p => worth (priceOf cs) cost p.1 p.2).map pairT) rs) ⟨OvX.start z4.2 nD _, [], upd_same, rfl⟩
    (fun i H' p => ⟨p.1.2.sql (SqL.of e24), p.1.2.sql (SqL.of e4)⟩) (fun i x y T H' hx hy p nT => ?_) fun H' p => ?_
  · obtain ⟨bx, ebx, rfl⟩ := map_get hx
    obtain ⟨sy, esy, rfl⟩ := map_get hy
    obtain ⟨o, rs, eD, hrs⟩ := p
    have sT : Same H' (upd H' T (.tup [nv bx, nv sy])) := same_new _ nT
    have xT : Xt (Tt K) H (upd H' T (.tup [nv bx, nv sy])) := (z4.trans o.2).same sT
    have ez : (B.zip S)[i]? = some (bx, sy) := by rw [List.getElem?_zip_eq_some]; exact ⟨ebx, esy⟩
    have etz := take_snoc ez
    obtain ⟨ta, c1, _, ha2, ha3, ha4⟩ := upx xT sy (Sm sy (List.mem_of_getElem? esy))
    obtain ⟨tb2, c2, _, hb2, hb3, hb4⟩ := upx xT bx (Bm bx (List.mem_of_getElem? ebx))
    have cT : SqT K (upd H' T (.tup [nv bx, nv sy])) ca cxs := SqT.of (xT.tk _ _ hca)
    refine ⟨rfl, _, rfl, _, rfl, T, _, 1, nv sy, rfl, rfl, SqT.of upd_same, atI_nat (j := 1) rfl, ca, cxs, sy, .ref ta, rfl, rfl, cT, atI_nat (j := sy) ha2, ta, _, 2, .int c1.p, rfl, rfl, SqT.of ha3, atI_nat (j := 2) rfl, ?_⟩
    refine ⟨_, rfl, _, rfl, T, _, 0, nv bx, rfl, rfl, SqT.of upd_same, atI_nat (j := 0) rfl, ca, cxs, bx, .ref tb2, rfl, rfl, cT, atI_nat (j := bx) hb2, tb2, _, 2, .int c2.p, rfl, rfl, SqT.of hb3, atI_nat (j := 2) rfl, _, rfl, c2.p, cost, rfl, rfl, ?_⟩
    refine ⟨c1.p, c2.p + cost, rfl, rfl, _, rfl, ?_⟩
    rw [etz, List.filter_append, ← ha4, ← hb4]
    refine ite2 (fun hw => ?_) (fun hw => ?_)
    · rw [show List.filter (fun p : Nat × Nat => worth (priceOf cs) cost p.1 p.2) [(bx, sy)] = [(bx, sy)] from by rw [List.filter_cons, if_pos (show worth (priceOf cs) cost (bx, sy).1 (bx, sy).2 = true from hw)]; rfl, List.map_append]
      have eD2 := sT _ _ eD
      refine ⟨_, rfl, rs, eD2, ?_, OvX.put (OvX.xt o (Same.xt sT o.2.2)) eD2 _, rs ++ [.ref T], upd_same, ?_⟩
      · have h1 := hrs.length
        rw [List.length_map] at h1
        have h2 := List.length_filter_le (fun p : Nat × Nat => worth (priceOf cs) cost p.1 p.2) ((B.zip S).take i)
        rw [List.length_take, List.length_zip] at h2
        exact szk (by omega)
      · refine IsAll.append (hrs.k ((Same.tk sT).trans (TK.lst _ eD2))) (IsAll.one (is_pair.mpr ⟨T, rfl, TK.lst _ eD2 _ _ upd_same⟩))
    · rw [show List.filter (fun p : Nat × Nat => worth (priceOf cs) cost p.1 p.2) [(bx, sy)] = [] from by rw [List.filter_cons, if_neg (show ¬ worth (priceOf cs) cost (bx, sy).1 (bx, sy).2 = true from hw)]; rfl, List.append_nil]
      exact ⟨OvX.xt o (Same.xt sT o.2.2), rs, sT _ _ eD, hrs.k (Same.tk sT)⟩
  · obtain ⟨o, rs, eD, hrs⟩ := p
    rw [List.length_map, List.length_map, List.take_of_length_le (by rw [List.length_zip]; exact Nat.le_refl _)] at hrs
    refine ⟨_, rfl, room, rfl, D, rs, rfl, SqL.of eD, fun pp np => ?_⟩
    rw [cut_take]
    have hP : tpairs (priceOf cs) room cost ups downs m.contains = ((B.zip S).filter fun p => worth (priceOf cs) cost p.1 p.2).take room := by
      unfold tpairs
      rw [← hB, ← hS]
      rfl
    have hrs2 := (hrs.take room).k (Same.tk (same_new (.lst (rs.take room)) np))
    rw [← List.map_take, ← hP] at hrs2
    have zp : Xt (Tt K) H (upd H' pp (.lst (rs.take room))) := (z4.trans o.2).same (same_new _ np)
    generalize hG5 : upd H' pp (.lst (rs.take room)) = G5 at *
    have e5 : G5 pp = some (.lst (rs.take room)) := by rw [← hG5, upd_same]
    have lp : (tpairs (priceOf cs) room cost ups downs m.contains).length ≤ 100 := by
      rw [hP, List.length_take]
      have h2 := List.length_filter_le (fun p : Nat × Nat => worth (priceOf cs) cost p.1 p.2) (B.zip S)
      rw [List.length_zip] at h2
      omega
    generalize tpairs (priceOf cs) room cost ups downs m.contains = ps at *
    generalize rs.take room = rt at *
    exact trd_flat zp.2 e5 hrs2 lp fun H6 D2 x n e => q H6 D2 (zp.trans x) (zp.newL n) e
end
end KW

namespace KW
open PySem PySem.Spec PyProof.Rows L2 K39 LamX
theorem min3 (a b c : Nat) : nuMin3 (nv a) (nv b) (nv c) = some (nv (min a (min b c))) := by
  have h2 : ∀ x y : Nat, nuMin2 (nv x) (nv y) = some (nv (min x y)) := fun x y => by
    show some (if decide ((y : Int) < (x : Int)) = true then nv y else nv x) = _
    by_cases h : y < x
    · rw [if_pos (decide_eq_true (by omega)), Nat.min_eq_right (by omega)]
    · rw [if_neg (by intro z; exact h (by have := of_decide_eq_true z; omega)), Nat.min_eq_left (by omega)]
  unfold nuMin3
  rw [h2]
  show nuMin2 (nv (min a b)) (nv c) = _
  rw [h2, Nat.min_assoc]
section
variable {P : Program} {w : World} {K : PySem.W.Frag} {mg : Str → Option Value} {base : Heap}
theorem Has.up {j k : Nat} {x : Str} {ps : List Str} {sp : Sp} (h : Has P w K mg base j x ps sp) (hk : j ≤ k) : Has P w K mg base k x ps sp := by
  obtain ⟨f, fd, G, r⟩ := h.ex
  exact ⟨f, fd, KW.FnOk.up G hk, r⟩
/-- a def of the text, its function object known -/
theorem ok_of {x : Str} {i : Nat} {k : Nat} {N ps : List Str} {sp : Sp} {f : Addr} {fd : FuncData} (F : FnP K x i f fd) (S : FnScope N ps (defScope (top i))) (len : ∀ vs H Q E, sp vs H Q E → vs.length = ps.length)
    (body : ∀ (cdv : Value) (A : Around) (outer : List Env) (s : Shared) (H : Hp) (vs : List V) (Q : VK) (E : XK), Room k (A.deeper (envOfC x (defScope (top i)) s.heap.objs.size f cdv)) → sp vs H Q E →
      ∃ t, PSs (cxOf CX0 P w K mg base N x (defScope (top i)) f cdv A outer s H E).nox (defBody (top i)) t ∧ t { nx := fun _ H' => Q .non H', rt := Q } (start N vs) H) : FnOk P w K mg base CX0 (k + 1) f fd ps sp :=
  F.ok S len fun cdv A outer s H vs Q E hr h => by
    obtain ⟨t, h1, h2⟩ := body cdv A outer s H vs Q E hr h
    exact ⟨t, h1.nox, h2⟩
theorem FnOk.or {k : Nat} {f : Addr} {fd : FuncData} {ps : List Str} {sp sp1 sp2 : Sp} (h1 : FnOk P w K mg base CX0 k f fd ps sp1) (h2 : FnOk P w K mg base CX0 k f fd ps sp2) (h : ∀ vs H Q E, sp vs H Q E → sp1 vs H Q E ∨ sp2 vs H Q E) : FnOk P w K mg base CX0 k f fd ps sp where
  len := fun vs H Q E q => (h vs H Q E q).elim (h1.len vs H Q E) (h2.len vs H Q E)
  run := fun A outer s H args us vs Q E hr e r b q => (h _ _ _ _ q).elim (h1.run A outer s H args us vs Q E hr e r b) (h2.run A outer s H args us vs Q E hr e r b)
/-! ### chosen_by, of the plain kinds -/
theorem scCb : FnScope ["contracts", "choice", "offered", "kind", "part", "contract", "buys", "sells", "many"] ["contracts", "choice", "offered"] (defScope (top 9)) := ⟨rfl, rfl, rfl, by decide +kernel, rfl, by decide +kernel, by decide +kernel⟩
def spCbP (K : PySem.W.Frag) : Sp := fun vs H Q _ => ∃ (ca b : Addr) (v : V) (cs : List Con) (cxs : List V) (p : PCh) (m : List Nat), vs = [.ref ca, v, .ref b] ∧ H ca = some (.tup cxs) ∧ IsAll H (cs.map encCon) cxs ∧
  Is H (encP p) v ∧ NumSeq K H b m ∧ WFP cs.length p ∧ Tabs (Tt K) H ∧
  ∀ H' a, Xt (Tt K) H H' → NewL H a → H' a = some (.lst ((p.chosen (priceOf cs) m.contains).map nv)) → Q (.ref a) H'
theorem ok_CbP (bt : Bt mg) (hoff : Has P w K mg base 1 "offered_of" ["row", "offered"] (spOff K)) (hwish : Has P w K mg base 1 "wishes_of" ["choice"] (spWish K)) (hrow : Has P w K mg base 1 "chosen_row" ["rows", "offered"] (spRow K))
    (hcaps : Has P w K mg base 2 "within_caps" ["row", "groups", "offered"] (spCaps K)) (htrd : Has P w K mg base 2 "traded" ["contracts", "choice", "offered"] (spTrd K)) {f : Addr} {fd : FuncData} (F : FnP K "chosen_by" 9 f fd) : FnOk P w K mg base CX0 3 f fd ["contracts", "choice", "offered"] (spCbP K) := by
  obtain ⟨fO, fdO, GO, gO, kO, bO⟩ := (hoff.up (k := 2) (by decide)).ex
  obtain ⟨fW, fdW, GW, gW, kW, bW⟩ := (hwish.up (k := 2) (by decide)).ex
  obtain ⟨fR, fdR, GR, gR, kR, bR⟩ := (hrow.up (k := 2) (by decide)).ex
  obtain ⟨fC, fdC, GC, gC, kC, bC⟩ := hcaps.ex
  obtain ⟨fT, fdT, GT, gT, kT, bT⟩ := htrd.ex
  refine ok_of F scCb (fun vs H Q E h => ?_) fun cdv A outer s H vs Q E hr h => ?_
  · obtain ⟨ca, b, v, cs, cxs, p, m, rfl, _⟩ := h
    rfl
  obtain ⟨ca, b, v, cs, cxs, p, m, rfl, hca, hcs, hv, hb, wf, tb, q⟩ := h
  refine ⟨_, pss_cons (ps_set (i := 3) scCb.nd rfl (.inl rfl) (pe_ix ix_tup (pv 1) pe_int (fun _ _ => rfl)))
    (pss_cons (ps_if (pt_cmpR op_eq (pv 3) pe_str (nomark _)) (pss_one (ps_ret (pe_call GR hr rfl gR kR bR .nil pass0 (pa_cons (pe_ix ix_tup (pv 1) pe_int (fun _ _ => rfl)) (pa_cons (pv 2) pa_nil))))) pss_nil)
    (pss_cons (ps_if (pt_cmpR op_eq (pv 3) pe_str (nomark _)) (pss_one (ps_ret (pe_call GT hr rfl gT kT bT .nil pass0 (pa_cons (pv 0) (pa_cons (pv 1) (pa_cons (pv 2) pa_nil)))))) pss_nil)
    (pss_cons (ps_if (pt_cmpR op_eq (pv 3) pe_str (nomark _)) (pss_one (ps_ret (pe_op op_cat (pe_call GC hr rfl gC kC bC .nil pass0 (pa_cons (pe_ix ix_tup (pv 1) pe_int (fun _ _ => rfl)) (pa_cons (pe_ix ix_tup (pv 1) pe_int (fun _ _ => rfl)) (pa_cons (pv 2) pa_nil))))
        (pe_call GC hr rfl gC kC bC .nil pass0 (pa_cons (pe_ix ix_tup (pv 1) pe_int (fun _ _ => rfl)) (pa_cons (pe_ix ix_tup (pv 1) pe_int (fun _ _ => rfl)) (pa_cons (pv 2) pa_nil))))))) pss_nil)
    (pss_cons (ps_if (pt_cmpR op_eq (pv 3) pe_str (nomark _)) pss_never pss_nil)
    (pss_cons (ps_asg (g := gTup K 2 (gCons (gName 6) (gCons (gName 7) gNil))) (pe_call GW hr rfl gW kW bW .nil pass0 (pa_cons (pv 1) pa_nil)) (pg_tup rfl (pgs_cons (pg_name (i := 6) scCb.nd rfl (.inl rfl)) (pgs_cons (pg_name (i := 7) scCb.nd rfl (.inl rfl)) pgs_nil))))
    (pss_cons (ps_set (i := 6) scCb.nd rfl (.inl rfl) (pe_call GO hr rfl gO kO bO .nil pass0 (pa_cons (pv 6) (pa_cons (pv 2) pa_nil))))
    (pss_cons (ps_set (i := 7) scCb.nd rfl (.inl rfl) (pe_call GO hr rfl gO kO bO .nil pass0 (pa_cons (pv 7) (pa_cons (pv 2) pa_nil))))
    (pss_cons (ps_if (pt_cmpR op_eq (pv 3) pe_str (nomark _)) (pss_one (ps_ret (pe_op op_cat (pe_slice sl_list (pv 6) po_none (po_some (pe_ix ix_tup (pv 1) pe_int (fun _ _ => rfl)))) (pe_slice sl_list (pv 7) po_none (po_some (pe_ix ix_tup (pv 1) pe_int (fun _ _ => rfl))))))) pss_nil)
    (pss_cons (ps_set (i := 8) scCb.nd rfl (.inl rfl) (pe_callB (call_min3Nu rfl) rfl bt.min (by decide +kernel) (pa_cons (pe_ix ix_tup (pv 1) pe_int (fun _ _ => rfl)) (pa_cons (pe_callB (r := rLenS K) call_len_seq rfl bt.len (by decide +kernel) (pa_cons (pv 6) pa_nil)) (pa_cons (pe_callB (r := rLenS K) call_len_seq rfl bt.len (by decide +kernel) (pa_cons (pv 7) pa_nil)) pa_nil)))))
    (pss_one (ps_ret (pe_op op_cat (pe_slice sl_list (pv 6) po_none (po_some (pv 8))) (pe_slice sl_list (pv 7) po_none (po_some (pv 8))))))))))))))), ?_⟩
  cases p with
  | maker room u d =>
    obtain ⟨a, ua, da, rfl, h1, hu, hd⟩ := is_maker.mp hv
    refine ⟨_, rfl, a, _, 0, _, rfl, rfl, SqT.of h1, atI_nat (j := 0) rfl, _, rfl, rfl, _, rfl, ?_⟩
    refine iteF ⟨_, rfl, rfl, _, rfl, ?_⟩
    refine iteF ⟨_, rfl, rfl, _, rfl, ?_⟩
    refine iteF ⟨_, rfl, rfl, _, rfl, ?_⟩
    refine iteF ⟨_, rfl, _, .maker room u d, u, d, rfl, hv, rfl, fun H1 r1 u1 d1 s1 e1 hu1 hd1 => ?_⟩
    have x1 := Same.xt s1 tb
    refine ⟨r1, _, rfl, SqT.of e1, rfl, _, _, rfl, _, _, rfl, rfl, ?_⟩
    refine ⟨_, rfl, _, rfl, u1, b, u, m, rfl, hu1.sq, x1.num hb, Nat.le_trans wf.1.1 (by decide), fun H2 p2 s2 n2 e2 => ?_⟩
    have x2 := x1.same s2
    refine ⟨_, rfl, _, rfl, d1, b, d, m, rfl, SqT.of (s2 _ _ hd1), x2.num hb, Nat.le_trans wf.2.1 (by decide), fun H3 p3 s3 n3 e3 => ?_⟩
    have x3 := x2.same s3
    have e23 := s3 _ _ e2
    have l3 := List.length_filter_le m.contains u
    have l4 := List.length_filter_le m.contains d
    have l5 := wf.1.1
    have l6 := wf.2.1
    refine ⟨_, rfl, rfl, _, rfl, ?_⟩
    refine iteF ⟨_, rfl, a, _, 1, nv room, rfl, rfl, SqT.of (x3.tk _ _ h1), atI_nat (j := 1) rfl, _, rfl, p2, _, rfl, .inl (SqL.of e23), _, rfl, p3, _, rfl, .inl (SqL.of e3), ?_⟩
    rw [List.length_map, List.length_map]
    refine ⟨_, _, _, _, rfl, min3 _ _ _, ?_⟩
    generalize hk : min room (min (u.filter m.contains).length (d.filter m.contains).length) = k
    refine ⟨_, rfl, _, rfl, _, rfl, p2, _, rfl, SqL.of e23, fun p4 n4 => ?_⟩
    have s4 := same_new (.lst (cutV ((u.filter m.contains).map nv) none (some (k : Int)))) n4
    refine ⟨_, rfl, _, rfl, _, rfl, p3, _, rfl, SqL.of (s4 _ _ e3), fun p5 n5 => ?_⟩
    have s5 := same_new (.lst (cutV ((d.filter m.contains).map nv) none (some (k : Int)))) n5
    refine ⟨p4, p5, _, _, rfl, rfl, s5 _ _ upd_same, upd_same, ?_, fun p6 n6 => ?_⟩
    · rw [cut_take, cut_take, List.length_take, List.length_take, List.length_map, List.length_map]
      exact szl (by omega)
    · refine q _ p6 (((x3.same s4).same s5).same (same_new _ n6)) (((x3.same s4).same s5).newL n6) ?_
      rw [upd_same, cut_take, cut_take, ← List.map_take, ← List.map_take, ← List.map_append, ← hk]
      rfl
  | sides k1 u k2 d =>
    obtain ⟨a, ua, da, rfl, h1, hu, hd⟩ := is_sides.mp hv
    refine ⟨_, rfl, a, _, 0, _, rfl, rfl, SqT.of h1, atI_nat (j := 0) rfl, _, rfl, rfl, _, rfl, ?_⟩
    refine iteF ⟨_, rfl, rfl, _, rfl, ?_⟩
    refine iteF ⟨_, rfl, rfl, _, rfl, ?_⟩
    refine iteF ⟨_, rfl, rfl, _, rfl, ?_⟩
    refine iteF ⟨_, rfl, _, .sides k1 u k2 d, u, d, rfl, hv, rfl, fun H1 r1 u1 d1 s1 e1 hu1 hd1 => ?_⟩
    have x1 := Same.xt s1 tb
    refine ⟨r1, _, rfl, SqT.of e1, rfl, _, _, rfl, _, _, rfl, rfl, ?_⟩
    refine ⟨_, rfl, _, rfl, u1, b, u, m, rfl, hu1.sq, x1.num hb, Nat.le_trans wf.1.1 (by decide), fun H2 p2 s2 n2 e2 => ?_⟩
    have x2 := x1.same s2
    refine ⟨_, rfl, _, rfl, d1, b, d, m, rfl, SqT.of (s2 _ _ hd1), x2.num hb, Nat.le_trans wf.2.1 (by decide), fun H3 p3 s3 n3 e3 => ?_⟩
    have x3 := x2.same s3
    have e23 := s3 _ _ e2
    have l3 := List.length_filter_le m.contains u
    have l4 := List.length_filter_le m.contains d
    have l5 := wf.1.1
    have l6 := wf.2.1
    refine ⟨_, rfl, rfl, _, rfl, ?_⟩
    refine iteT ⟨_, rfl, _, rfl, a, _, 1, nv k1, rfl, rfl, SqT.of (x3.tk _ _ h1), atI_nat (j := 1) rfl, _, rfl, p2, _, rfl, SqL.of e23, fun p4 n4 => ?_⟩
    have s4 := same_new (.lst (cutV ((u.filter m.contains).map nv) none (some (k1 : Int)))) n4
    refine ⟨_, rfl, _, rfl, a, _, 3, nv k2, rfl, rfl, SqT.of ((x3.same s4).tk _ _ h1), atI_nat (j := 3) rfl, _, rfl, p3, _, rfl, SqL.of (s4 _ _ e3), fun p5 n5 => ?_⟩
    have s5 := same_new (.lst (cutV ((d.filter m.contains).map nv) none (some (k2 : Int)))) n5
    refine ⟨p4, p5, _, _, rfl, rfl, s5 _ _ upd_same, upd_same, ?_, fun p6 n6 => ?_⟩
    · rw [cut_take, cut_take, List.length_take, List.length_take, List.length_map, List.length_map]
      exact szl (by omega)
    · refine q _ p6 (((x3.same s4).same s5).same (same_new _ n6)) (((x3.same s4).same s5).newL n6) ?_
      rw [upd_same, cut_take, cut_take, ← List.map_take, ← List.map_take, ← List.map_append]
      rfl
  | table rows =>
    obtain ⟨a, r, rfl, h1, hr1⟩ := is_table.mp hv
    refine ⟨_, rfl, a, _, 0, _, rfl, rfl, SqT.of h1, atI_nat (j := 0) rfl, _, rfl, rfl, _, rfl, ?_⟩
    refine iteT ⟨_, rfl, a, _, 1, r, rfl, rfl, SqT.of h1, atI_nat (j := 1) rfl, _, rfl, r, b, rows, m, rfl, hr1, hb, wf.1, fun r hr => (wf.2 r hr).1, fun H' p s1 n e => q H' p (Same.xt s1 tb) (.of n) e⟩
  | trader room cost u d =>
    obtain ⟨a, ua, da, rfl, h1, hu, hd⟩ := is_trader.mp hv
    refine ⟨_, rfl, a, _, 0, _, rfl, rfl, SqT.of h1, atI_nat (j := 0) rfl, _, rfl, rfl, _, rfl, ?_⟩
    refine iteF ⟨_, rfl, rfl, _, rfl, ?_⟩
    exact iteT ⟨_, rfl, _, rfl, _, rfl, ca, b, _, cs, cxs, room, cost, u, d, m, rfl, hca, hcs, hv, hb, wf.1, wf.2, tb, q⟩
  | caps u ug d dg =>
    obtain ⟨a, ua, da, gu, gd, rfl, h1, hu, hd, hgu, hgd⟩ := is_caps.mp hv
    refine ⟨_, rfl, a, _, 0, _, rfl, rfl, SqT.of h1, atI_nat (j := 0) rfl, _, rfl, rfl, _, rfl, ?_⟩
    refine iteF ⟨_, rfl, rfl, _, rfl, ?_⟩
    refine iteF ⟨_, rfl, rfl, _, rfl, ?_⟩
    refine iteT ⟨_, rfl, a, _, 1, .ref ua, rfl, rfl, SqT.of h1, atI_nat (j := 1) rfl, _, rfl, a, _, 2, gu, rfl, rfl, SqT.of h1, atI_nat (j := 2) rfl, _, rfl, ua, b, gu, u, m, ug, rfl, hu, hgu, hb, wf.1.1.1, wf.2.1.1, wf.2.1.2, fun H1 p1 s1 n1 e1 => ?_⟩
    have x1 := Same.xt s1 tb
    refine ⟨_, rfl, a, _, 3, .ref da, rfl, rfl, SqT.of (x1.tk _ _ h1), atI_nat (j := 3) rfl, _, rfl, a, _, 4, gd, rfl, rfl, SqT.of (x1.tk _ _ h1), atI_nat (j := 4) rfl, _, rfl, da, b, gd, d, m, dg, rfl, x1.tk _ _ hd, hgd.k x1.tk, x1.num hb, wf.1.2.1, wf.2.2.1, wf.2.2.2, fun H2 p2 s2 n2 e2 => ?_⟩
    have e12 := s2 _ _ e1
    have l1 := capped_len ug (u.filter m.contains) []
    have l2 := capped_len dg (d.filter m.contains) []
    have l3 := List.length_filter_le m.contains u
    have l4 := List.length_filter_le m.contains d
    have l5 := wf.1.1.1
    have l6 := wf.1.2.1
    refine ⟨p1, p2, _, _, rfl, rfl, e12, e2, ?_, fun p3 n3 => ?_⟩
    · rw [List.length_map, List.length_map]
      simp only [List.length_nil] at l1 l2
      exact szl (by omega)
    · refine q _ p3 ((x1.same s2).same (same_new _ n3)) ((x1.same s2).newL n3) ?_
      rw [upd_same, ← List.map_append]
      rfl
end
end KW

namespace KW
open PySem PySem.Spec PyProof.Rows L2 K39 LamX
theorem chosen_len {n : Nat} {price : Nat → Int} {p : PCh} (wf : WFP n p) (Y : CS) : (p.chosen price Y).length ≤ 200 := by
  cases p with
  | maker room u d =>
    have l3 := List.length_filter_le Y u
    have l4 := List.length_filter_le Y d
    have l5 := wf.1.1
    have l6 := wf.2.1
    show ((u.filter Y).take _ ++ (d.filter Y).take _).length ≤ 200
    rw [List.length_append, List.length_take, List.length_take]
    omega
  | sides r1 u r2 d =>
    have l3 := List.length_filter_le Y u
    have l4 := List.length_filter_le Y d
    have l5 := wf.1.1
    have l6 := wf.2.1
    show ((u.filter Y).take _ ++ (d.filter Y).take _).length ≤ 200
    rw [List.length_append, List.length_take, List.length_take]
    omega
  | table rows =>
    show ((rows.find? fun r => r.all Y).getD []).length ≤ 200
    cases h : rows.find? fun r => r.all Y with
    | none => exact Nat.zero_le _
    | some r => exact Nat.le_trans (wf.2 r (List.mem_of_find?_eq_some h)).1 (by decide)
  | trader room cost u d =>
    show (flat2 (tpairs price room cost u d Y)).length ≤ 200
    rw [flat2_len]
    have l5 := wf.1.1
    have l3 := List.length_filter_le Y u
    have : (tpairs price room cost u d Y).length ≤ u.length := by
      unfold tpairs
      rw [List.length_take]
      have h := List.length_filter_le (fun p : Nat × Nat => worth price cost p.1 p.2) (((u.filter Y).mergeSort (leB price)).zip ((d.filter Y).mergeSort (leS price)))
      rw [List.length_zip, List.length_mergeSort, List.length_mergeSort] at h
      omega
    omega
  | caps u ug d dg =>
    show (capped ug (u.filter Y) [] ++ capped dg (d.filter Y) []).length ≤ 200
    have l1 := capped_len ug (u.filter Y) []
    have l2 := capped_len dg (d.filter Y) []
    have l3 := List.length_filter_le Y u
    have l4 := List.length_filter_le Y d
    have l5 := wf.1.1.1
    have l6 := wf.1.2.1
    simp only [List.length_nil] at l1 l2
    rw [List.length_append]
    omega
theorem flat_len {n : Nat} {price : Nat → Int} {Y : CS} : ∀ {ps : List PCh}, (∀ p ∈ ps, WFP n p) → (ps.flatMap fun p => p.chosen price Y).length ≤ 200 * ps.length
  | [], _ => Nat.zero_le _
  | p :: ps, h => by
    rw [List.flatMap_cons, List.length_append, List.length_cons]
    have h1 := chosen_len (price := price) (h p List.mem_cons_self) Y
    have h2 := flat_len (price := price) (Y := Y) (ps := ps) fun q hq => h q (List.mem_cons_of_mem _ hq)
    omega
section
variable {P : Program} {w : World} {K : PySem.W.Frag} {mg : Str → Option Value} {base : Heap}
def spCbS (K : PySem.W.Frag) : Sp := fun vs H Q _ => ∃ (ca b : Addr) (v : V) (cs : List Con) (cxs : List V) (ps : List PCh) (m : List Nat), vs = [.ref ca, v, .ref b] ∧ H ca = some (.tup cxs) ∧ IsAll H (cs.map encCon) cxs ∧
  Is H (encCh (.split ps)) v ∧ NumSeq K H b m ∧ WFC cs.length (.split ps) ∧ Tabs (Tt K) H ∧
  ∀ H' a, Xt (Tt K) H H' → NewL H a → H' a = some (.lst (((Ch.split ps).chosen (priceOf cs) m.contains).map nv)) → Q (.ref a) H'
theorem ok_CbS {f : Addr} {fd : FuncData} (F : FnP K "chosen_by" 9 f fd) (gF : mg "chosen_by" = some (.ref f)) (h3 : FnOk P w K mg base CX0 3 f fd ["contracts", "choice", "offered"] (spCbP K)) (bF : Binds K fd ["contracts", "choice", "offered"] []) : FnOk P w K mg base CX0 4 f fd ["contracts", "choice", "offered"] (spCbS K) := by
  refine ok_of F scCb (fun vs H Q E h => ?_) fun cdv A outer s H vs Q E hr h => ?_
  · obtain ⟨ca, b, v, cs, cxs, p, m, rfl, _⟩ := h
    rfl
  obtain ⟨ca, b, v, cs, cxs, ps, m, rfl, hca, hcs, hv, hb, wf, tb, q⟩ := h
  refine ⟨_, pss_cons (ps_set (i := 3) scCb.nd rfl (.inl rfl) (pe_ix ix_tup (pv 1) pe_int (fun _ _ => rfl)))
    (pss_cons (ps_if (pt_cmpR op_eq (pv 3) pe_str (nomark _)) pss_never pss_nil)
    (pss_cons (ps_if (pt_cmpR op_eq (pv 3) pe_str (nomark _)) pss_never pss_nil)
    (pss_cons (ps_if (pt_cmpR op_eq (pv 3) pe_str (nomark _)) pss_never pss_nil)
    (pss_cons (ps_if (pt_cmpR op_eq (pv 3) pe_str (nomark _)) (pss_one (ps_ret (pe_lc2 (own := [("part", 4), ("contract", 5)]) (vs1 := [5]) (wi1 := iList K (tCall (spCbP K) [] E0 (tCons (tVar 0) (tCons (tVar 4) (tCons (tVar 2) tNil))))) (g := gName 4) (g1 := gName 5) (tt := tYes) (tt1 := tYes) rfl scCb.nd (pi_tup (pe_ix ix_tup (pv 1) pe_int (fun _ _ => rfl)))
        (blkOk_by (N := ["contracts", "choice", "offered", "kind", "part", "contract", "buys", "sells", "many"]) (sc := defScope (top 9)) (by decide +kernel)) (by decide)
        (fun _ _ _ _ _ => pg_name (i := 4) scCb.nd rfl (.inl rfl)) (fun _ _ _ _ _ => pts_nil) (fun _ _ _ _ _ => pi_list (pe_call h3 hr rfl gF F.kp bF .nil pass0 (pa_cons (pv 0) (pa_cons (pv 4) (pa_cons (pv 2) pa_nil))))) (fun _ _ _ _ _ => pg_name (i := 5) scCb.nd rfl (.inl rfl)) (fun _ _ _ _ _ => pts_nil) (fun _ _ _ _ _ => pv 5)))) pss_nil)
    pss_never)))), ?_⟩
  obtain ⟨a, r, rfl, h1, hr1⟩ := is_split.mp hv
  obtain ⟨ra, rxs, rfl, hra, hrx⟩ := hr1
  refine ⟨_, rfl, a, _, 0, _, rfl, rfl, SqT.of h1, atI_nat (j := 0) rfl, _, rfl, rfl, _, rfl, ?_⟩
  refine iteF ⟨_, rfl, rfl, _, rfl, ?_⟩
  refine iteF ⟨_, rfl, rfl, _, rfl, ?_⟩
  refine iteF ⟨_, rfl, rfl, _, rfl, ?_⟩
  refine iteT ⟨_, rfl, a, _, 1, .ref ra, rfl, rfl, SqT.of h1, atI_nat (j := 1) rfl, ra, rfl, ⟨_, SqT.of hra⟩, fun D nD => ?_⟩
  have rl : rxs.length = ps.length := by rw [hrx.length, List.length_map]
  refine lc2_raw (G := OvX (Tt K) H D) (l := rxs) (enc := id) (itOf_tup fun H3 g => by rw [List.map_id]; exact g.2.sqt (SqT.of hra)) (fun k H3 => OvX (Tt K) H D H3 ∧ H3 D = some (.lst (((ps.take k).flatMap fun p => p.chosen (priceOf cs) m.contains).map nv))) ⟨OvX.start tb nD _, upd_same⟩ (fun k H3 p => p.1) (fun k x H3 hx p => ?_) fun H3 p => ?_
  · obtain ⟨o2, eD2⟩ := p
    obtain ⟨t, gt, ht⟩ := hrx.get' hx
    obtain ⟨pr, epr, rfl⟩ := map_get gt
    have hk : k < ps.length := (List.getElem?_eq_some_iff.mp epr).1
    have pm : pr ∈ ps := List.mem_of_getElem? epr
    have wfp := wf.2 pr pm
    refine ⟨rfl, yes_of ⟨_, rfl, _, rfl, _, rfl, ca, b, x, cs, cxs, pr, m, rfl, o2.2.tk _ _ hca, hcs.k o2.2.tk, ht.k o2.2.tk, o2.2.num hb, wfp, o2.2.2, fun H4 p4 x4 n4 e4 => ⟨p4, rfl, ⟨_, SqL.of e4⟩, ?_⟩⟩⟩
    refine in_walk (G := fun H5 => OvX (Tt K) H D H5 ∧ H5 p4 = some (.lst ((pr.chosen (priceOf cs) m.contains).map nv))) (l := pr.chosen (priceOf cs) m.contains) (acc := ((ps.take k).flatMap fun p => p.chosen (priceOf cs) m.contains).map nv) (itOf_list fun H5 g => SqL.of g.2) ⟨o2.xt x4, e4⟩ (x4.lst eD2) (fun H5 xs ys g e => ⟨g.1.put e ys, ?_⟩) ?_ (fun _ _ => rfl) (fun n H5 Q2 hn g k => ⟨_, rfl, k⟩) fun H5 g e => ⟨g.1, ?_⟩
    · rw [upd_ne (n4.ne eD2)]
      exact g.2
    · rw [List.length_map]
      have h1 := flat_len (price := priceOf cs) (Y := m.contains) (ps := ps.take k) fun p hp => wf.2 p (List.mem_of_mem_take hp)
      have h2 := chosen_len (price := priceOf cs) wfp m.contains
      have h3 := wf.1
      rw [List.length_take] at h1
      exact szl (by omega)
    · rw [e, take_snoc epr, List.flatMap_append, List.map_append]
      congr 3
      simp
  · obtain ⟨o2, eD2⟩ := p
    rw [rl, List.take_length] at eD2
    exact q _ _ o2.2 (.of nD) eD2
/-- chosen_by of a choice -/
def spCb (K : PySem.W.Frag) : Sp := fun vs H Q _ => ∃ (ca b : Addr) (v : V) (cs : List Con) (cxs : List V) (ch : Ch) (m : List Nat), vs = [.ref ca, v, .ref b] ∧ H ca = some (.tup cxs) ∧ IsAll H (cs.map encCon) cxs ∧
  Is H (encCh ch) v ∧ NumSeq K H b m ∧ WFC cs.length ch ∧ Tabs (Tt K) H ∧
  ∀ H' a, Xt (Tt K) H H' → NewL H a → H' a = some (.lst ((ch.chosen (priceOf cs) m.contains).map nv)) → Q (.ref a) H'
theorem has_Cb (bt : Bt mg) (hoff : Has P w K mg base 1 "offered_of" ["row", "offered"] (spOff K)) (hwish : Has P w K mg base 1 "wishes_of" ["choice"] (spWish K)) (hrow : Has P w K mg base 1 "chosen_row" ["rows", "offered"] (spRow K))
    (hcaps : Has P w K mg base 2 "within_caps" ["row", "groups", "offered"] (spCaps K)) (htrd : Has P w K mg base 2 "traded" ["contracts", "choice", "offered"] (spTrd K)) (d : At K mg "chosen_by" 9) : Has P w K mg base 4 "chosen_by" ["contracts", "choice", "offered"] (spCb K) := by
  obtain ⟨f, fd, F, e⟩ := d.ex
  have bF : Binds K fd ["contracts", "choice", "offered"] [] := F.bindsN fun _ _ _ _ _ _ us hl => match us, hl with | [_, _, _], _ => rfl
  have h3 := ok_CbP (P := P) (w := w) (base := base) bt hoff hwish hrow hcaps htrd F
  have h4 := ok_CbS (P := P) (w := w) (base := base) F e h3 bF
  refine ⟨f, fd, KW.FnOk.or (KW.FnOk.up h3 (by decide)) h4 fun vs H Q E h => ?_, e, F.kp, bF⟩
  obtain ⟨ca, b, v, cs, cxs, ch, m, ev, h1, h2, h3, h4, h5, h6, q⟩ := h
  cases ch with
  | plain p => exact .inl ⟨ca, b, v, cs, cxs, p, m, ev, h1, h2, h3, h4, h5, h6, q⟩
  | split ps => exact .inr ⟨ca, b, v, cs, cxs, ps, m, ev, h1, h2, h3, h4, h5, h6, q⟩
end
end KW

namespace KW
open PySem PySem.Spec PyProof.Rows L2 K39 LamX
/-! ### sorted numbers -/
theorem srt_int {l : List Nat} {ns : List Int} (p : ns.Perm (l.map fun n : Nat => (n : Int))) (s : ns.Pairwise (· ≤ ·)) : ns.map V.int = (srt l).map nv := by
  have nn : ∀ x ∈ ns, 0 ≤ x := fun x hx => by
    obtain ⟨n, _, rfl⟩ := List.mem_map.mp (p.mem_iff.mp hx)
    omega
  have e1 : ns.map V.int = (ns.map Int.toNat).map nv := by
    rw [List.map_map]
    refine List.map_congr_left fun x hx => ?_
    show V.int x = V.int ((x.toNat : Nat) : Int)
    rw [Int.toNat_of_nonneg (nn x hx)]
  have e2 : ns.map Int.toNat = srt l := by
    refine srt_of ?_ ?_
    · have h := p.map Int.toNat
      rw [List.map_map] at h
      have : l.map (Int.toNat ∘ fun n : Nat => (n : Int)) = l := by
        rw [show (Int.toNat ∘ fun n : Nat => (n : Int)) = id from funext fun n => Int.toNat_natCast n, List.map_id]
      rwa [this] at h
    · exact List.pairwise_map.mpr (s.imp fun {a b} h => Int.toNat_le_toNat h)
  rw [e1, e2]
def rSrt (K : PySem.W.Frag) : List V → Hp → VK → Prop := fun vs H Q => ∃ (a : Addr) (l : List Nat), vs = [V.ref a] ∧ SqL K H a (l.map nv) ∧ ∀ p : Addr, H p = none → Q (.ref p) (upd H p (.lst ((srt l).map nv)))
theorem cr_srt {X : Cx} : CallR X (.builtin "sorted") (rSrt X.K) := by
  intro pins s σ H vs us Q I r h
  obtain ⟨a, l, e, hs, q⟩ := h
  refine cr_sortedI pins s σ H vs us Q I r ⟨a, l.map fun n : Nat => (n : Int), e, ?_, fun ns' p h1 h2 h3 => ?_⟩
  · rw [List.map_map]
    exact hs
  · rw [srt_int h1 h2]
    exact q p h3
theorem srt_len (l : List Nat) : (srt l).length = l.length := (srt_perm l).length_eq
theorem srt_mem {l : List Nat} {c : Nat} : c ∈ srt l ↔ c ∈ l := (srt_perm l).mem_iff
/-! ### the web, in plain lists -/
def Web.ch (W : Web) (h : Nat) : Ch := match W.hs[h]? with
  | some x => x.ch
  | none => .split []
def chosenL (W : Web) (h : Nat) (m : List Nat) : List Nat := srt ((W.ch h).chosen (priceOf W.cs) m.contains)
def offL (W : Web) (h : Nat) (O A : List Nat) : List Nat := srt ((Buysof W h).filter O.contains ++ (Sellsof W h).filter A.contains)
/-- what the program may be given -/
structure WFW (W : Web) : Prop where
  n : W.cs.length ≤ 20
  m : W.hs.length ≤ 20
  ch : ∀ h, h < W.hs.length → WFC W.cs.length (W.ch h)
  sb : ∀ c ∈ W.cs, c.s < W.hs.length ∧ c.b < W.hs.length
theorem buys_len {W : Web} (h : Nat) : (Buysof W h).length ≤ W.cs.length := by
  have := List.length_filter_le (fun c => (W.cs.map fun c => c.b)[c]? == some h) (List.range W.cs.length)
  rwa [List.length_range] at this
theorem sells_len {W : Web} (h : Nat) : (Sellsof W h).length ≤ W.cs.length := by
  have := List.length_filter_le (fun c => (W.cs.map fun c => c.s)[c]? == some h) (List.range W.cs.length)
  rwa [List.length_range] at this
theorem offL_len {W : Web} (h : Nat) (O A : List Nat) : (offL W h O A).length ≤ 2 * W.cs.length := by
  unfold offL
  rw [srt_len, List.length_append]
  have h1 := List.length_filter_le O.contains (Buysof W h)
  have h2 := List.length_filter_le A.contains (Sellsof W h)
  have h3 := buys_len (W := W) h
  have h4 := sells_len (W := W) h
  omega
section
variable {P : Program} {w : World} {K : PySem.W.Frag} {mg : Str → Option Value} {base : Heap}
/-! ### choose -/
theorem scCh : FnScope ["web", "house", "offered"] ["web", "house", "offered"] (defScope (top 10)) := ⟨rfl, rfl, rfl, by decide +kernel, rfl, by decide +kernel, by decide +kernel⟩
def spCh (K : PySem.W.Frag) : Sp := fun vs H Q _ => ∃ (v : V) (W : Web) (h : Nat) (b : Addr) (m : List Nat), vs = [v, nv h, .ref b] ∧ Is H (encWeb W) v ∧ h < W.hs.length ∧ WFW W ∧ NumSeq K H b m ∧ Tabs (Tt K) H ∧
  ∀ H' p, Xt (Tt K) H H' → NT H' p (chosenL W h m) → Q (.ref p) H'
theorem has_Ch (bt : Bt mg) (hcb : Has P w K mg base 4 "chosen_by" ["contracts", "choice", "offered"] (spCb K)) (d : At K mg "choose" 10) : Has P w K mg base 5 "choose" ["web", "house", "offered"] (spCh K) := by
  obtain ⟨fC, fdC, GC, gC, kC, bC⟩ := hcb.ex
  refine has_of d scCh (fun vs H Q E h => ?_) (fun _ _ _ _ _ _ us hl => match us, hl with | [_, _, _], _ => rfl) (fun f cdv A outer s H vs Q E hr h => ?_)
  · obtain ⟨v, W, h, b, m, rfl, _⟩ := h
    rfl
  obtain ⟨v, W, h, b, m, rfl, hW, hh, wf, hb, tb, q⟩ := h
  refine ⟨_, pss_one (ps_ret (pe_callTy call_tuple_of rfl bt.tuple (by decide +kernel) (pa_cons (pe_callB (r := rSrt K) cr_srt rfl bt.sorted (by decide +kernel) (pa_cons (pe_call GC hr rfl gC kC bC .nil pass0
    (pa_cons (pe_ix ix_tup (pv 0) pe_int (fun _ _ => rfl)) (pa_cons (pe_ix ix_tup (pe_ix ix_tup (pe_ix ix_tup (pv 0) pe_int (fun _ _ => rfl)) (pv 1) (fun _ _ => rfl)) pe_int (fun _ _ => rfl)) (pa_cons (pv 2) pa_nil)))) pa_nil)) pa_nil))), ?_⟩
  obtain ⟨a, hb', ca, rfl, ha, ⟨xs, hxb, hxs⟩, ys, hc, hys⟩ := is_web.mp hW
  have e := List.getElem?_eq_getElem hh
  obtain ⟨x, h1, h2⟩ := hxs.get (i := h) (t := encH W.hs[h]) (by rw [List.getElem?_map, e]; rfl)
  obtain ⟨ha2, cv, rfl, h3, h4⟩ := is_house.mp h2
  have ech : W.ch h = W.hs[h].ch := by unfold Web.ch; rw [e]
  refine ⟨_, rfl, a, _, 1, .ref ca, rfl, rfl, SqT.of ha, atI_nat (j := 1) rfl, _, rfl, a, _, 0, .ref hb', rfl, rfl, SqT.of ha, atI_nat (j := 0) rfl, _, rfl, hb', xs, h, .ref ha2, rfl, rfl, SqT.of hxb, atI_nat (j := h) h1, ha2, _, 1, cv, rfl, rfl, SqT.of h3, atI_nat (j := 1) rfl, _, rfl, ?_⟩
  refine ⟨ca, b, cv, W.cs, ys, W.hs[h].ch, m, rfl, hc, hys, h4, hb, ech ▸ wf.ch h hh, tb, fun H1 p1 x1 n1 e1 => ?_⟩
  refine ⟨p1, _, rfl, SqL.of e1, fun p2 n2 => ⟨p2, _, rfl, .inl ⟨SqL.of upd_same, fun p3 n3 => ?_⟩⟩⟩
  refine q _ p3 ((x1.same (same_new _ n2)).same (same_new _ n3)) ?_
  show upd _ _ _ _ = _
  rw [upd_same]
  unfold chosenL
  rw [ech]
/-! ### offered_to -/
theorem scOt : FnScope ["web", "house", "offers", "asked", "contract", "buys", "sells"] ["web", "house", "offers", "asked"] (defScope (top 12)) := ⟨rfl, rfl, rfl, by decide +kernel, rfl, by decide +kernel, by decide +kernel⟩
def spOt (K : PySem.W.Frag) : Sp := fun vs H Q _ => ∃ (v : V) (W : Web) (h : Nat) (oa aa : Addr) (O A : List Nat), vs = [v, nv h, .ref oa, .ref aa] ∧ Is H (encWeb W) v ∧ WFW W ∧ NumSeq K H oa O ∧ NumSeq K H aa A ∧
  ∀ H' p, Same H H' → NT H' p (offL W h O A) → Q (.ref p) H'
theorem has_Ot (bt : Bt mg) (hB : Has P w K mg base 1 "buys_of" ["web", "house"] (spBuys K)) (hS : Has P w K mg base 1 "sells_of" ["web", "house"] (spSells K)) (d : At K mg "offered_to" 12) : Has P w K mg base 2 "offered_to" ["web", "house", "offers", "asked"] (spOt K) := by
  obtain ⟨fB, fdB, GB, gB, kB, bB⟩ := hB.ex
  obtain ⟨fS, fdS, GS, gS, kS, bS⟩ := hS.ex
  refine has_of d scOt (fun vs H Q E h => ?_) (fun _ _ _ _ _ _ us hl => match us, hl with | [_, _, _, _], _ => rfl) (fun f cdv A outer s H vs Q E hr h => ?_)
  · obtain ⟨v, W, h, oa, aa, O, A, rfl, _⟩ := h
    rfl
  obtain ⟨v, W, h, oa, aa, O, A, rfl, hW, wf, hO, hA, q⟩ := h
  refine ⟨_, pss_cons (ps_setLc (i := 5) (own := [("contract", 4)]) (g := gName 4) rfl scOt.nd rfl rfl (sw_true rfl rfl rfl (by decide +kernel)) (pi_tup (pe_call GB hr rfl gB kB bB .nil pass0 (pa_cons (pv 0) (pa_cons (pv 1) pa_nil))))
        (blkOk_by (N := ["web", "house", "offers", "asked", "contract", "buys", "sells"]) (sc := defScope (top 12)) (by decide +kernel))
        (fun _ _ _ _ _ => pg_name (i := 4) scOt.nd rfl (.inl rfl)) (fun _ _ _ _ _ => pts_one (pt_cmpR (r := rIn K false) op_in_seq (pv 4) (pv 2) rfl)) (fun _ _ _ _ _ => pv 4))
    (pss_cons (ps_setLc (i := 6) (own := [("contract", 4)]) (g := gName 4) rfl scOt.nd rfl rfl (sw_true rfl rfl rfl (by decide +kernel)) (pi_tup (pe_call GS hr rfl gS kS bS .nil pass0 (pa_cons (pv 0) (pa_cons (pv 1) pa_nil))))
        (blkOk_by (N := ["web", "house", "offers", "asked", "contract", "buys", "sells"]) (sc := defScope (top 12)) (by decide +kernel))
        (fun _ _ _ _ _ => pg_name (i := 4) scOt.nd rfl (.inl rfl)) (fun _ _ _ _ _ => pts_one (pt_cmpR (r := rIn K false) op_in_seq (pv 4) (pv 3) rfl)) (fun _ _ _ _ _ => pv 4))
    (pss_one (ps_ret (pe_callTy call_tuple_of rfl bt.tuple (by decide +kernel) (pa_cons (pe_callB (r := rSrt K) cr_srt rfl bt.sorted (by decide +kernel) (pa_cons (pe_op op_cat (pv 5) (pv 6)) pa_nil)) pa_nil))))), ?_⟩
  have hn := wf.n
  refine ⟨_, rfl, _, rfl, v, W, h, rfl, hW, by omega, fun H1 p1 s1 e1 => ⟨p1, rfl, ⟨_, SqT.of e1⟩, fun D nD => ?_⟩⟩
  have bl := buys_len (W := W) h
  have sl := sells_len (W := W) h
  refine lc_filt (G := Over H1 D) (l := Buysof W h) (enc := nv) (itOf_tup fun H' g => Same.sqt g.2 (SqT.of e1)) O.contains nv (Over.start nD _) (fun H' ys g => g.put ys) (szk (by omega)) (fun _ _ => rfl) (fun n ys H2 Q1 hn g eD k => ?_) (fun n ys H2 Q2 hn _ g eD k => ⟨_, rfl, k H2 g eD⟩) fun H2 g eD => ?_
  · refine ⟨_, rfl, _, rfl, oa, O.map nv, rfl, NumSeq.same (s1.trans g.2) hO, rfl, flat_nvs _, ?_⟩
    show ∃ c, V.bl (inV (nv n) (O.map nv)) = .bl c ∧ Q1 c H2
    rw [inV_nv]
    exact ⟨_, rfl, k H2 g eD⟩
  have s2 := s1.trans g.2
  refine ⟨_, rfl, _, rfl, v, W, h, rfl, hW.k (Same.tk s2), by omega, fun H3 p3 s3 e3 => ⟨p3, rfl, ⟨_, SqT.of e3⟩, fun D2 nD2 => ?_⟩⟩
  refine lc_filt (G := Over H3 D2) (l := Sellsof W h) (enc := nv) (itOf_tup fun H' g => Same.sqt g.2 (SqT.of e3)) A.contains nv (Over.start nD2 _) (fun H' ys g => g.put ys) (szk (by omega)) (fun _ _ => rfl) (fun n ys H2 Q1 hn g eD k => ?_) (fun n ys H2 Q2 hn _ g eD k => ⟨_, rfl, k H2 g eD⟩) fun H4 g4 eD4 => ?_
  · refine ⟨_, rfl, _, rfl, aa, A.map nv, rfl, NumSeq.same ((s2.trans s3).trans g.2) hA, rfl, flat_nvs _, ?_⟩
    show ∃ c, V.bl (inV (nv n) (A.map nv)) = .bl c ∧ Q1 c H2
    rw [inV_nv]
    exact ⟨_, rfl, k H2 g eD⟩
  have s4 := (s2.trans s3).trans g4.2
  refine ⟨_, rfl, _, rfl, D, D2, _, _, rfl, rfl, g4.2 _ _ (s3 _ _ eD), eD4, ?_, fun p5 n5 => ?_⟩
  · rw [List.length_map, List.length_map]
    have h1 := List.length_filter_le O.contains (Buysof W h)
    have h2 := List.length_filter_le A.contains (Sellsof W h)
    exact szl (by omega)
  refine ⟨p5, (Buysof W h).filter O.contains ++ (Sellsof W h).filter A.contains, rfl, ?_, fun p6 n6 => ⟨p6, _, rfl, .inl ⟨SqL.of upd_same, fun p7 n7 => ?_⟩⟩⟩
  · rw [List.map_append]
    exact SqL.of upd_same
  · exact q _ p7 (((s4.trans (same_new _ n5)).trans (same_new _ n6)).trans (same_new _ n7)) upd_same
/-! ### common, network_of, all_contracts -/
theorem scCo : FnScope ["one", "other", "contract"] ["one", "other"] (defScope (top 15)) := ⟨rfl, rfl, rfl, by decide +kernel, rfl, by decide +kernel, by decide +kernel⟩
def spCo (K : PySem.W.Frag) : Sp := fun vs H Q _ => ∃ (a b : Addr) (l m : List Nat), vs = [.ref a, .ref b] ∧ NT H a l ∧ NT H b m ∧ l.length ≤ 100 ∧
  ∀ H' p, Same H H' → NT H' p (l.filter m.contains) → Q (.ref p) H'
theorem has_Co (bt : Bt mg) (d : At K mg "common" 15) : Has P w K mg base 1 "common" ["one", "other"] (spCo K) := by
  refine has_of d scCo (fun vs H Q E h => ?_) (fun _ _ _ _ _ _ us hl => match us, hl with | [_, _], _ => rfl) (fun f cdv A outer s H vs Q E hr h => ?_)
  · obtain ⟨a, b, l, m, rfl, _⟩ := h
    rfl
  obtain ⟨a, b, l, m, rfl, ha, hb, hl, q⟩ := h
  refine ⟨_, pss_one (ps_ret (pe_callTy call_tuple_of rfl bt.tuple (by decide +kernel) (pa_cons (pe_lc (own := [("contract", 2)]) (g := gName 2) rfl scCo.nd (pi_tup (pv 0)) (blkOk_by (N := ["one", "other", "contract"]) (sc := defScope (top 15)) (by decide +kernel))
    (fun _ _ _ _ _ => pg_name (i := 2) scCo.nd rfl (.inl rfl)) (fun _ _ _ _ _ => pts_one (pt_cmpR (r := rIn K false) op_in_seq (pv 2) (pv 1) rfl)) (fun _ _ _ _ _ => pv 2)) pa_nil))), ?_⟩
  refine ⟨.ref a, rfl, a, rfl, ⟨_, ha.sq⟩, fun D nD => ?_⟩
  refine lc_filt (G := Over H D) (l := l) (enc := nv) (itOf_tup fun H' g => Same.sqt g.2 ha.sq) m.contains nv (Over.start nD _) (fun H' ys g => g.put ys) (szk (by omega)) (fun _ _ => rfl) (fun n ys H2 Q1 hn g eD k => ?_) (fun n ys H2 Q2 hn _ g eD k => ⟨_, rfl, k H2 g eD⟩) fun H' g eD => ⟨D, _, rfl, .inl ⟨SqL.of eD, fun p np => q _ p (g.2.trans (same_new _ np)) upd_same⟩⟩
  refine ⟨_, rfl, _, rfl, b, m.map nv, rfl, NumSeq.same g.2 (.inr hb.sq), rfl, flat_nvs m, ?_⟩
  show ∃ c, V.bl (inV (nv n) (m.map nv)) = .bl c ∧ Q1 c H2
  rw [inV_nv]
  exact ⟨_, rfl, k H2 g eD⟩
/-- a stand: two tuples of numbers -/
def St2 (H : Hp) (v : V) (O A : List Nat) : Prop := ∃ p oa aa, v = .ref p ∧ H p = some (.tup [.ref oa, .ref aa]) ∧ NT H oa O ∧ NT H aa A
theorem St2.k {H H' : Hp} {v : V} {O A : List Nat} (h : St2 H v O A) (k : TK H H') : St2 H' v O A := by
  obtain ⟨p, oa, aa, e, h1, h2, h3⟩ := h
  exact ⟨p, oa, aa, e, k _ _ h1, k _ _ h2, k _ _ h3⟩
theorem scNw : FnScope ["stand"] ["stand"] (defScope (top 16)) := ⟨rfl, rfl, rfl, by decide +kernel, rfl, by decide +kernel, by decide +kernel⟩
def spNw (K : PySem.W.Frag) : Sp := fun vs H Q _ => ∃ (v : V) (O A : List Nat), vs = [v] ∧ St2 H v O A ∧ O.length ≤ 100 ∧ ∀ H' p, Same H H' → NT H' p (O.filter A.contains) → Q (.ref p) H'
theorem has_Nw (hco : Has P w K mg base 1 "common" ["one", "other"] (spCo K)) (d : At K mg "network_of" 16) : Has P w K mg base 2 "network_of" ["stand"] (spNw K) := by
  obtain ⟨fC, fdC, GC, gC, kC, bC⟩ := hco.ex
  refine has_of d scNw (fun vs H Q E h => ?_) (fun _ _ _ _ _ _ us hl => match us, hl with | [_], _ => rfl) (fun f cdv A outer s H vs Q E hr h => ?_)
  · obtain ⟨v, O, A, rfl, _⟩ := h
    rfl
  obtain ⟨v, O, A, rfl, ⟨p, oa, aa, rfl, h1, h2, h3⟩, hl, q⟩ := h
  refine ⟨_, pss_one (ps_ret (pe_call GC hr rfl gC kC bC .nil pass0 (pa_cons (pe_ix ix_tup (pv 0) pe_int (fun _ _ => rfl)) (pa_cons (pe_ix ix_tup (pv 0) pe_int (fun _ _ => rfl)) pa_nil)))), ?_⟩
  exact ⟨_, rfl, p, _, 0, .ref oa, rfl, rfl, SqT.of h1, atI_nat (j := 0) rfl, _, rfl, p, _, 1, .ref aa, rfl, rfl, SqT.of h1, atI_nat (j := 1) rfl, oa, aa, O, A, rfl, h2, h3, hl, q⟩
theorem scAl : FnScope ["web"] ["web"] (defScope (top 18)) := ⟨rfl, rfl, rfl, by decide +kernel, rfl, by decide +kernel, by decide +kernel⟩
def spAl (K : PySem.W.Frag) : Sp := fun vs H Q _ => ∃ (v : V) (W : Web), vs = [v] ∧ Is H (encWeb W) v ∧ WFW W ∧ ∀ H' p, Same H H' → NT H' p (List.range W.cs.length) → Q (.ref p) H'
theorem has_Al (bt : Bt mg) (d : At K mg "all_contracts" 18) : Has P w K mg base 1 "all_contracts" ["web"] (spAl K) := by
  refine has_of d scAl (fun vs H Q E h => ?_) (fun _ _ _ _ _ _ us hl => match us, hl with | [_], _ => rfl) (fun f cdv A outer s H vs Q E hr h => ?_)
  · obtain ⟨v, W, rfl, _⟩ := h
    rfl
  obtain ⟨v, W, rfl, hW, wf, q⟩ := h
  refine ⟨_, pss_one (ps_ret (pe_tupRg rfl rfl bt.tuple (prg_1 rfl bt.range (pe_callB (r := rLenS K) call_len_seq rfl bt.len (by decide +kernel) (pa_cons (pe_ix ix_tup (pv 0) pe_int (fun _ _ => rfl)) pa_nil))))), ?_⟩
  obtain ⟨a, hb', ca, rfl, ha, _, ys, hc, hys⟩ := is_web.mp hW
  have yl : ys.length = W.cs.length := by rw [hys.length, List.length_map]
  have hn := wf.n
  refine ⟨_, rfl, a, _, 1, .ref ca, rfl, rfl, SqT.of ha, atI_nat (j := 1) rfl, ca, ys, rfl, .inr (SqT.of hc), _, rfl, RgOk.of_le (by omega) (by omega) (by omega) (by omega), fun p np => ?_⟩
  refine q _ p (same_new _ np) ?_
  show upd _ _ _ _ = _
  rw [upd_same, yl]
  unfold rgV
  rw [show ((W.cs.length : Int) - 0).toNat = W.cs.length by omega]
  congr 2
  refine List.map_congr_left fun n _ => ?_
  show V.int (0 + (n : Int)) = nv n
  rw [Int.zero_add]
  rfl
end
end KW

namespace KW
open PySem PySem.Spec PyProof.Rows L2 K39 LamX
def slOf (W : Web) (c : Nat) : Nat := ((W.cs.map fun c => c.s)[c]?).getD 0
def buOf (W : Web) (c : Nat) : Nat := ((W.cs.map fun c => c.b)[c]?).getD 0
def gotL (W : Web) (h : Nat) (O A : List Nat) : List Nat := chosenL W h (offL W h O A)
def opP (W : Web) (O A : List Nat) (c : Nat) : Bool := !A.contains c || (gotL W (slOf W c) O A).contains c
def asP (W : Web) (O A : List Nat) (c : Nat) : Bool := !O.contains c || (gotL W (buOf W c) O A).contains c
def nextO (W : Web) (O A : List Nat) : List Nat := (List.range W.cs.length).filter (opP W O A)
def nextA (W : Web) (O A : List Nat) : List Nat := (List.range W.cs.length).filter (asP W O A)
section
variable {P : Program} {w : World} {K : PySem.W.Frag} {mg : Str → Option Value} {base : Heap}
theorem scNx : FnScope ["web", "stand", "is_open", "asked", "house", "chosen", "open_then", "asked_then", "contract", "seller", "buyer", "_"] ["web", "stand"] (defScope (top 14)) := ⟨rfl, rfl, rfl, by decide +kernel, rfl, by decide +kernel, by decide +kernel⟩
def spNx (K : PySem.W.Frag) : Sp := fun vs H Q _ => ∃ (v st : V) (W : Web) (O A : List Nat), vs = [v, st] ∧ Is H (encWeb W) v ∧ WFW W ∧ St2 H st O A ∧ Tabs (Tt K) H ∧
  ∀ H' r, Xt (Tt K) H H' → St2 H' r (nextO W O A) (nextA W O A) → Q r H'
theorem filt_snoc (n : Nat) (p : Nat → Bool) : (List.range (n + 1)).filter p = (List.range n).filter p ++ if p n = true then [n] else [] := by
  rw [List.range_succ, List.filter_append, List.filter_cons, List.filter_nil]
theorem filt_len (n : Nat) (p : Nat → Bool) : ((List.range n).filter p).length ≤ n := by
  have := List.length_filter_le p (List.range n)
  rwa [List.length_range] at this
theorem upd_self {H : Hp} {a : Addr} {o : HO} (h : H a = some o) : upd H a o = H := by
  funext b
  by_cases e : b = a
  · subst e
    rw [upd_same, h]
  · rw [upd_ne e]
/-- if contract not in t or contract in chosen[side]: row.append(contract) -/
theorem rd_step {K : PySem.W.Frag} {σ : L2.St} {H : Hp} {D : Ends} {ja js jl : Nat} {c s : Nat} {aa Dl la l : Addr} {A L xs : List Nat} {rs : List V} (h8 : σ[8]? = some (some (nv c))) (ha : σ[ja]? = some (some (.ref aa))) (h5 : σ[5]? = some (some (.ref Dl))) (hs : σ[js]? = some (some (nv s))) (hj : σ[jl]? = some (some (.ref l)))
    (nA : NT H aa A) (eD : H Dl = some (.lst rs)) (er : rs[s]? = some (.ref la)) (nL : NT H la L) (el : H l = some (.lst (xs.map nv))) (len : xs.length < sizeLine) (q : D.nx σ (upd H l (.lst ((xs ++ if (!A.contains c || L.contains c) = true then [c] else []).map nv)))) :
    tIfS (tOr (tTest (tOp (rIn K true) (tVar 8) (tVar ja))) (tTest (tOp (rIn K false) (tVar 8) (tOp (rIxL K) (tVar 5) (tVar js))))) (tDrop (tBM K "list" rAppend (tVar jl) (tCons (tVar 8) tNil))) tNext D σ H := by
  have app : (!A.contains c || L.contains c) = true → tDrop (tBM K "list" rAppend (tVar jl) (tCons (tVar 8) tNil)) D σ H := fun h => by
    rw [if_pos h, List.map_append] at q
    exact ⟨_, hj, .inl ⟨rfl, _, SqL.of el⟩, _, h8, l, _, _, rfl, rfl, el, by rw [List.length_map]; exact len, q⟩
  have no : (!A.contains c || L.contains c) ≠ true → D.nx σ H := fun h => by
    rw [if_neg h, List.append_nil, upd_self el] at q
    exact q
  refine ⟨_, h8, _, ha, aa, A.map nv, rfl, .inr nA.sq, rfl, flat_nvs _, ?_⟩
  show ∃ k, V.bl (!inV (nv c) (A.map nv)) = .bl k ∧ _
  rw [inV_nv]
  refine ⟨_, rfl, ?_⟩
  cases hA : A.contains c with
  | false => exact iteT (B := True) (iteT (B := True) (app (by rw [hA]; rfl)))
  | true =>
    refine iteF (A := True) ⟨_, h8, _, h5, _, hs, Dl, rs, s, .ref la, rfl, rfl, SqL.of eD, atI_nat (j := s) er, la, L.map nv, rfl, .inr nL.sq, rfl, flat_nvs _, ?_⟩
    show ∃ k, V.bl (inV (nv c) (L.map nv)) = .bl k ∧ _
    rw [inV_nv]
    refine ⟨_, rfl, ?_⟩
    cases hL : L.contains c with
    | true => exact iteT (B := True) (app (by rw [hA, hL]; rfl))
    | false => exact iteF (A := True) (no (by rw [hA, hL]; decide))
theorem has_Nx (bt : Bt mg) (hot : Has P w K mg base 2 "offered_to" ["web", "house", "offers", "asked"] (spOt K)) (hch : Has P w K mg base 5 "choose" ["web", "house", "offered"] (spCh K)) (d : At K mg "next_stand" 14) : Has P w K mg base 6 "next_stand" ["web", "stand"] (spNx K) := by
  obtain ⟨fO, fdO, GO, gO, kO, bO⟩ := (hot.up (k := 5) (by decide)).ex
  obtain ⟨fC, fdC, GC, gC, kC, bC⟩ := hch.ex
  refine has_of d scNx (fun vs H Q E h => ?_) (fun _ _ _ _ _ _ us hl => match us, hl with | [_, _], _ => rfl) (fun f cdv A0 outer s H vs Q E hr h => ?_)
  · obtain ⟨v, st, W, O, A, rfl, _⟩ := h
    rfl
  obtain ⟨v, st, W, O, A, rfl, hW, wf, ⟨sp, oa, aa, rfl, hst, hO, hA⟩, tb, q⟩ := h
  refine ⟨_, pss_cons (ps_asg (g := gTup K 2 (gCons (gName 2) (gCons (gName 3) gNil))) (pv 1) (pg_tup rfl (pgs_cons (pg_name (i := 2) scNx.nd rfl (Or.inr rfl)) (pgs_cons (pg_name (i := 3) scNx.nd rfl (Or.inr rfl)) pgs_nil))))
    (pss_cons (ps_setLc (i := 5) (own := [("house", 4)]) (g := gName 4) (tt := tYes) rfl scNx.nd rfl rfl (sw_true rfl rfl rfl (by decide +kernel)) (pi_range1 rfl bt.range (pa_cons (pe_callB (r := rLenS K) call_len_seq rfl bt.len (by decide +kernel) (pa_cons (pe_ix ix_tup (pv 0) pe_int (fun _ _ => rfl)) pa_nil)) pa_nil))
        (blkOk_by (N := ["web", "stand", "is_open", "asked", "house", "chosen", "open_then", "asked_then", "contract", "seller", "buyer", "_"]) (sc := defScope (top 14)) (by decide +kernel))
        (fun _ _ _ _ _ => pg_name (i := 4) scNx.nd rfl (.inl rfl)) (fun _ _ _ _ _ => pts_nil)
        (fun _ _ _ _ _ => pe_call GC hr rfl gC kC bC .nil pass0 (pa_cons (pv 0) (pa_cons (pv 4) (pa_cons (pe_call GO hr rfl gO kO bO .nil pass0 (pa_cons (pv 0) (pa_cons (pv 4) (pa_cons (pv 2) (pa_cons (pv 3) pa_nil))))) pa_nil)))))
    (pss_cons (ps_set (i := 6) scNx.nd rfl (.inl rfl) (pe_lst pa_nil))
    (pss_cons (ps_set (i := 7) scNx.nd rfl (.inl rfl) (pe_lst pa_nil))
    (pss_cons (ps_for PassesOwn.never rfl (pi_enumT rfl bt.enumerate (pa_cons (pe_ix ix_tup (pv 0) pe_int (fun _ _ => rfl)) pa_nil))
        (g := gTup K 2 (gCons (gName 8) (gCons (gTup K 3 (gCons (gName 9) (gCons (gName 10) (gCons (gName 11) gNil)))) gNil)))
        (pg_tup rfl (pgs_cons (pg_name (i := 8) scNx.nd rfl (.inl rfl)) (pgs_cons (pg_tup rfl (pgs_cons (pg_name (i := 9) scNx.nd rfl (.inl rfl)) (pgs_cons (pg_name (i := 10) scNx.nd rfl (.inl rfl)) (pgs_cons (pg_name (i := 11) scNx.nd rfl (.inl rfl)) pgs_nil)))) pgs_nil)))
        (pss_cons (ps_if (PW.pt (pw_or (pt_cmpR (r := rIn K true) op_notIn_seq (pv 8) (pv 3) rfl) (pw_or1 (pt_cmpR (r := rIn K false) op_in_seq (pv 8) (pe_ix ix_list (pv 5) (pv 9) (fun _ _ => rfl)) rfl))))
            (pss_one (ps_expr (pe_bm PySem.F.plainAttrs_list PySem.F.slot_list_append PySem.F.type_list_append mt_append (pv 6) (pa_cons (pv 8) pa_nil)))) pss_nil)
        (pss_one (ps_if (PW.pt (pw_or (pt_cmpR (r := rIn K true) op_notIn_seq (pv 8) (pv 2) rfl) (pw_or1 (pt_cmpR (r := rIn K false) op_in_seq (pv 8) (pe_ix ix_list (pv 5) (pv 10) (fun _ _ => rfl)) rfl))))
            (pss_one (ps_expr (pe_bm PySem.F.plainAttrs_list PySem.F.slot_list_append PySem.F.type_list_append mt_append (pv 7) (pa_cons (pv 8) pa_nil)))) pss_nil))))
    (pss_one (ps_ret (pe_tup (pa_cons (pe_callTy call_tuple_of rfl bt.tuple (by decide +kernel) (pa_cons (pv 6) pa_nil)) (pa_cons (pe_callTy call_tuple_of rfl bt.tuple (by decide +kernel) (pa_cons (pv 7) pa_nil)) pa_nil))))))))), ?_⟩
  obtain ⟨wa, hb', ca, rfl, ha, ⟨xs, hxb, hxs⟩, ys, hc, hys⟩ := is_web.mp hW
  have xl : xs.length = W.hs.length := by rw [hxs.length, List.length_map]
  have yl : ys.length = W.cs.length := by rw [hys.length, List.length_map]
  have hn := wf.n
  have hm := wf.m
  refine ⟨_, rfl, sp, _, rfl, SqT.of hst, rfl, _, _, rfl, _, _, rfl, rfl, ?_⟩
  refine ⟨_, rfl, wa, _, 0, .ref hb', rfl, rfl, SqT.of ha, atI_nat (j := 0) rfl, hb', xs, rfl, .inr (SqT.of hxb), _, rfl, by omega, by omega, fun D nD => ?_⟩
  rw [Int.toNat_natCast, xl]
  refine lc_raw (G := fun _ => True) (l := List.range W.hs.length) (enc := nv) itOf_range (fun k H' => OvX (Tt K) H D H' ∧ ∃ rs, H' D = some (.lst rs) ∧ IsAll H' ((List.range k).map fun h => nums (gotL W h O A)) rs) ⟨OvX.start tb nD _, [], upd_same, rfl⟩ (fun _ _ _ => trivial) (fun k x H' hx p => ?_) fun H' p => ?_
  · obtain ⟨o, rs, eD, hrs⟩ := p
    have hk : k < W.hs.length := by
      have := (List.getElem?_eq_some_iff.mp hx).1
      rwa [List.length_range] at this
    rw [List.getElem?_range hk] at hx
    cases hx
    refine ⟨rfl, yes_of ⟨_, rfl, _, rfl, _, rfl, _, rfl, _, rfl, _, rfl, .ref wa, W, k, oa, aa, O, A, rfl, hW.k o.2.tk, wf, o.2.num (.inr hO.sq), o.2.num (.inr hA.sq), fun H1 p1 s1 e1 => ?_⟩⟩
    have o1 := o.xt (Same.xt s1 o.2.2)
    refine ⟨.ref wa, W, k, p1, offL W k O A, rfl, hW.k o1.2.tk, hk, wf, .inr (SqT.of e1), o1.2.2, fun H2 p2 x2 e2 => ?_⟩
    have o2 := o1.xt x2
    have eD2 := x2.lst (s1 _ _ eD)
    refine ⟨rs, eD2, ?_, o2.put eD2 _, rs ++ [.ref p2], upd_same, ?_⟩
    · rw [hrs.length, List.length_map, List.length_range]
      exact szk (by omega)
    · rw [List.range_succ, List.map_append]
      exact IsAll.append (hrs.k (((Same.tk s1).trans x2.tk).trans (TK.lst _ eD2))) (IsAll.one (is_nums.mpr ⟨p2, rfl, TK.lst _ eD2 _ _ e2⟩))
  obtain ⟨o, rs, eD, hrs⟩ := p
  rw [List.length_range] at hrs
  refine ⟨(by show 0 ≤ sizeLine; decide), fun l6 n6 => ⟨(by show 0 ≤ sizeLine; decide), fun l7 n7 => ?_⟩⟩
  have s67 : Same H' (upd (upd H' l6 (.lst [])) l7 (.lst [])) := (same_new _ n6).trans (same_new _ n7)
  have x67 := o.2.same s67
  have ne67 : l6 ≠ l7 := fun z => by rw [z, upd_same] at n7; cases n7
  have n7' : H' l7 = none := by
    rw [upd_ne (fun z => ne67 z.symm)] at n7
    exact n7
  have ne6 : D ≠ l6 := fun z => by rw [z, n6] at eD; cases eD
  have ne7 : D ≠ l7 := fun z => by rw [z, n7'] at eD; cases eD
  have e67 : upd (upd H' l6 (.lst [])) l7 (.lst []) l6 = some (.lst []) := by rw [upd_ne ne67, upd_same]
  generalize hG : upd (upd H' l6 (.lst [])) l7 (.lst []) = G at *
  have e7 : G l7 = some (.lst []) := by rw [← hG, upd_same]
  have eDG := s67 _ _ eD
  refine ⟨_, rfl, wa, _, 1, .ref ca, rfl, rfl, SqT.of (x67.tk _ _ ha), atI_nat (j := 1) rfl, ca, ys, rfl, SqT.of (x67.tk _ _ hc), ?_⟩
  refine for_enumT (xs := ys) (fun i σ H2 => (∃ x4 x8 x9 x10 x11, σ = [some (.ref wa), some (.ref sp), some (.ref oa), some (.ref aa), x4, some (.ref D), some (.ref l6), some (.ref l7), x8, x9, x10, x11]) ∧ Xt (Tt K) H H2 ∧ TK H' H2 ∧ H2 D = some (.lst rs) ∧
      H2 l6 = some (.lst (((List.range i).filter (opP W O A)).map nv)) ∧ H2 l7 = some (.lst (((List.range i).filter (asP W O A)).map nv))) ⟨⟨_, _, _, _, _, rfl⟩, x67, Same.tk s67, eDG, e67, e7⟩ (fun i σ H2 _ p => p.2.1.sqt (SqT.of hc)) (fun i x T σ H2 hx p nT => ?_) fun σ H2 p => ?_
  · obtain ⟨⟨x4, x8, x9, x10, x11, rfl⟩, x2, k2, f1, f2, f3⟩ := p
    obtain ⟨t, gt, ht⟩ := hys.get' hx
    obtain ⟨cc, ec, rfl⟩ := map_get gt
    obtain ⟨ta, rfl, hta⟩ := is_con.mp (ht.k x2.tk)
    have hi : i < W.cs.length := (List.getElem?_eq_some_iff.mp ec).1
    have hsb := wf.sb cc (List.mem_of_getElem? ec)
    have s3 : Same H2 (upd H2 T (.tup [.int (i : Nat), .ref ta])) := same_new _ nT
    have x3 := x2.same s3
    have k3 := k2.trans (Same.tk s3)
    have g1 := s3 _ _ f1
    have g2 := s3 _ _ f2
    have g3 := s3 _ _ f3
    have gta := s3 _ _ hta
    have eT : upd H2 T (.tup [.int (i : Nat), .ref ta]) T = some (.tup [.int (i : Nat), .ref ta]) := upd_same
    generalize upd H2 T (.tup [.int (i : Nat), .ref ta]) = H3 at *
    have es : slOf W i = cc.s := by
      unfold slOf
      rw [List.getElem?_map, ec]
      rfl
    have eb : buOf W i = cc.b := by
      unfold buOf
      rw [List.getElem?_map, ec]
      rfl
    have row : ∀ h, h < W.hs.length → ∃ la, rs[h]? = some (.ref la) ∧ NT H' la (gotL W h O A) := fun h hh => by
      obtain ⟨y, y1, y2⟩ := hrs.get (i := h) (t := nums (gotL W h O A)) (by rw [List.getElem?_map, List.getElem?_range hh]; rfl)
      obtain ⟨la, rfl, y3⟩ := is_nums.mp y2
      exact ⟨la, y1, y3⟩
    obtain ⟨la, er1, nL1⟩ := row _ hsb.1
    obtain ⟨lb, er2, nL2⟩ := row _ hsb.2
    refine ⟨T, _, rfl, SqT.of eT, rfl, _, _, rfl, _, _, rfl, ⟨ta, _, rfl, SqT.of gta, rfl, _, _, rfl, _, _, rfl, _, _, rfl, rfl, rfl, ?_⟩⟩
    refine rd_step (σ := [some (.ref wa), some (.ref sp), some (.ref oa), some (.ref aa), x4, some (.ref D), some (.ref l6), some (.ref l7), some (nv i), some (nv cc.s), some (nv cc.b), some (.int cc.p)]) (ja := 3) (js := 9) (jl := 6) (c := i) (s := cc.s) (L := gotL W cc.s O A) rfl rfl rfl rfl rfl (x3.tk _ _ hA) g1 er1 (k3 _ _ nL1) g2 (szk (Nat.le_trans (filt_len _ _) (by omega))) ?_
    have g4 := TK.lst (.lst (((List.range i).filter (opP W O A) ++ if (!A.contains i || (gotL W cc.s O A).contains i) = true then [i] else []).map nv)) g2
    have e6 : (List.range i).filter (opP W O A) ++ (if (!A.contains i || (gotL W cc.s O A).contains i) = true then [i] else []) = (List.range (i + 1)).filter (opP W O A) := by
      rw [filt_snoc]
      show _ = _ ++ if (!A.contains i || (gotL W (slOf W i) O A).contains i) = true then [i] else []
      rw [es]
    have e7 : (List.range i).filter (asP W O A) ++ (if (!O.contains i || (gotL W cc.b O A).contains i) = true then [i] else []) = (List.range (i + 1)).filter (asP W O A) := by
      rw [filt_snoc]
      show _ = _ ++ if (!O.contains i || (gotL W (buOf W i) O A).contains i) = true then [i] else []
      rw [eb]
    rw [e6] at g4 ⊢
    have t4 : Xt (Tt K) H (upd H3 l6 (.lst (((List.range (i + 1)).filter (opP W O A)).map nv))) := ⟨fun b u h n => by
      rw [upd_ne (fun z => by rw [z] at h; have z2 := o.2.1 _ _ h n; rw [n6] at z2; cases z2)]
      exact x3.1 b u h n, Tabs.put x3.2 g2 _⟩
    have u4 := k3.trans g4
    refine rd_step (σ := [some (.ref wa), some (.ref sp), some (.ref oa), some (.ref aa), x4, some (.ref D), some (.ref l6), some (.ref l7), some (nv i), some (nv cc.s), some (nv cc.b), some (.int cc.p)]) (ja := 2) (js := 10) (jl := 7) (c := i) (s := cc.b) (L := gotL W cc.b O A) rfl rfl rfl rfl rfl (t4.tk _ _ hO) (by rw [upd_ne ne6]; exact g1) er2 (u4 _ _ nL2) (by rw [upd_ne (fun z => ne67 z.symm)]; exact g3) (szk (Nat.le_trans (filt_len _ _) (by omega))) ?_
    rw [e7]
    have h7 : upd H3 l6 (.lst (((List.range (i + 1)).filter (opP W O A)).map nv)) l7 = some (.lst (((List.range i).filter (asP W O A)).map nv)) := by
      rw [upd_ne (fun z => ne67 z.symm)]
      exact g3
    have hD6 : upd H3 l6 (.lst (((List.range (i + 1)).filter (opP W O A)).map nv)) D = some (.lst rs) := by
      rw [upd_ne ne6]
      exact g1
    refine ⟨⟨_, _, _, _, _, rfl⟩, ⟨fun b u h n => ?_, Tabs.put t4.2 h7 _⟩, u4.trans (TK.lst _ h7), ?_, ?_, upd_same⟩
    · rw [upd_ne (fun z => by rw [z] at h; have z2 := o.2.1 _ _ h n; rw [n7'] at z2; cases z2)]
      exact t4.1 b u h n
    · rw [upd_ne ne7]
      exact hD6
    · rw [upd_ne ne67, upd_same]
  · obtain ⟨⟨x4, x8, x9, x10, x11, rfl⟩, x2, k2, f1, f2, f3⟩ := p
    rw [yl] at f2 f3
    refine ⟨_, rfl, l6, _, rfl, .inl ⟨SqL.of f2, fun p1 m1 => ⟨_, rfl, l7, _, rfl, .inl ⟨SqL.of (same_new _ m1 _ _ f3), fun p2 m2 => ⟨(by show 2 ≤ sizeLine; decide), fun p3 m3 => ?_⟩⟩⟩⟩⟩
    have s5 := same_new (.tup ((nextO W O A).map nv)) m1
    have s6 := same_new (.tup ((nextA W O A).map nv)) m2
    have s7 := same_new (.tup [.ref p1, .ref p2]) m3
    exact q _ _ (((x2.same s5).same s6).same s7) ⟨p3, p1, p2, rfl, upd_same, s7 _ _ (s6 _ _ upd_same), s7 _ _ upd_same⟩
end
end KW

namespace KW
open PySem PySem.Spec PyProof.Rows L2 K39 LamX
/-! ### the web as a market -/
def BuyAt (W : Web) (h c : Nat) : Prop := c < W.cs.length ∧ buOf W c = h
def SellAt (W : Web) (h c : Nat) : Prop := c < W.cs.length ∧ slOf W c = h
structure GoodW (W : Web) : Prop where
  ne : ∀ c, c < W.cs.length → slOf W c ≠ buOf W c
  good : ∀ h, h < W.hs.length → GoodCh (priceOf W.cs) (BuyAt W h) (SellAt W h) (W.ch h)
structure Fits (W : Web) (M : Mkt) : Prop where
  n : M.n = W.cs.length
  m : M.m = W.hs.length
  sl : M.sl = slOf W
  bu : M.bu = buOf W
  ok : M.Ok
  perm : ∀ h, h < M.m → ∀ Y, ((W.ch h).chosen (priceOf W.cs) Y).Perm (M.b h Y ++ M.s h Y)
theorem sl_get {W : Web} {c : Nat} (h : c < W.cs.length) : (W.cs.map fun c => c.s)[c]? = some (slOf W c) ∧ slOf W c = W.cs[c].s := by
  unfold slOf
  rw [List.getElem?_map, List.getElem?_eq_getElem h]
  exact ⟨rfl, rfl⟩
theorem bu_get {W : Web} {c : Nat} (h : c < W.cs.length) : (W.cs.map fun c => c.b)[c]? = some (buOf W c) ∧ buOf W c = W.cs[c].b := by
  unfold buOf
  rw [List.getElem?_map, List.getElem?_eq_getElem h]
  exact ⟨rfl, rfl⟩
theorem mem_buys {W : Web} {h c : Nat} : c ∈ Buysof W h ↔ BuyAt W h c := by
  unfold Buysof BuyAt
  rw [List.mem_filter, List.mem_range]
  constructor
  · rintro ⟨h1, h2⟩
    rw [(bu_get h1).1] at h2
    exact ⟨h1, by simpa using h2⟩
  · rintro ⟨h1, h2⟩
    rw [(bu_get h1).1, h2]
    exact ⟨h1, by simp⟩
theorem mem_sells {W : Web} {h c : Nat} : c ∈ Sellsof W h ↔ SellAt W h c := by
  unfold Sellsof SellAt
  rw [List.mem_filter, List.mem_range]
  constructor
  · rintro ⟨h1, h2⟩
    rw [(sl_get h1).1] at h2
    exact ⟨h1, by simpa using h2⟩
  · rintro ⟨h1, h2⟩
    rw [(sl_get h1).1, h2]
    exact ⟨h1, by simp⟩
theorem has_mkt {W : Web} (wf : WFW W) (g : GoodW W) : ∃ M, Fits W M := by
  have e : ∀ h : Nat, ∃ bs : (CS → List Nat) × (CS → List Nat), h < W.hs.length → Good (BuyAt W h) (SellAt W h) bs.1 bs.2 ∧ ∀ Y, ((W.ch h).chosen (priceOf W.cs) Y).Perm (bs.1 Y ++ bs.2 Y) := fun h => by
    by_cases hh : h < W.hs.length
    · obtain ⟨b, s, h1, h2⟩ := g.good h hh
      exact ⟨(b, s), fun _ => ⟨h1, h2⟩⟩
    · exact ⟨(fun _ => [], fun _ => []), fun z => absurd z hh⟩
  obtain ⟨f, hf⟩ : ∃ f : Nat → (CS → List Nat) × (CS → List Nat), ∀ h, h < W.hs.length → Good (BuyAt W h) (SellAt W h) (f h).1 (f h).2 ∧ ∀ Y, ((W.ch h).chosen (priceOf W.cs) Y).Perm ((f h).1 Y ++ (f h).2 Y) := ⟨fun h => Classical.choose (e h), fun h => Classical.choose_spec (e h)⟩
  refine ⟨⟨W.cs.length, W.hs.length, slOf W, buOf W, fun h => (f h).1, fun h => (f h).2⟩, rfl, rfl, rfl, rfl, ⟨fun c hc => ?_, fun c hc => ?_, g.ne, fun h hh => (hf h hh).1⟩, fun h hh => (hf h hh).2⟩
  · show slOf W c < _
    rw [(sl_get hc).2]
    exact (wf.sb _ (List.getElem_mem hc)).1
  · show buOf W c < _
    rw [(bu_get hc).2]
    exact (wf.sb _ (List.getElem_mem hc)).2
section
variable {W : Web} {M : Mkt} (F : Fits W M)
include F
theorem off_eq (h : Nat) (O A : List Nat) : (offL W h O A).contains = M.off h O.contains A.contains := by
  funext c
  rw [Bool.eq_iff_iff, List.contains_iff_mem]
  unfold offL Mkt.off
  rw [srt_mem, List.mem_append, List.mem_filter, List.mem_filter, mem_buys, mem_sells, F.n, F.sl, F.bu]
  unfold BuyAt SellAt
  simp only [Bool.and_eq_true, Bool.or_eq_true, decide_eq_true_eq, beq_iff_eq]
  constructor
  · rintro (⟨⟨h1, h2⟩, h3⟩ | ⟨⟨h1, h2⟩, h3⟩)
    · exact ⟨h1, .inl ⟨h2, h3⟩⟩
    · exact ⟨h1, .inr ⟨h2, h3⟩⟩
  · rintro ⟨h1, ⟨h2, h3⟩ | ⟨h2, h3⟩⟩
    · exact .inl ⟨⟨h1, h2⟩, h3⟩
    · exact .inr ⟨⟨h1, h2⟩, h3⟩
theorem got_mem {h : Nat} (hh : h < M.m) (O A : List Nat) (c : Nat) : c ∈ gotL W h O A ↔ c ∈ M.b h (M.off h O.contains A.contains) ∨ c ∈ M.s h (M.off h O.contains A.contains) := by
  unfold gotL chosenL
  rw [srt_mem, (F.perm h hh _).mem_iff, List.mem_append, off_eq F]
theorem opP_eq (O A : List Nat) {c : Nat} (hc : c < M.n) : opP W O A c = M.nO O.contains A.contains c := by
  unfold opP Mkt.nO
  have hs : M.sl c < M.m := F.ok.sm c hc
  rw [Bool.eq_iff_iff, Bool.or_eq_true, Bool.or_eq_true, List.contains_iff_mem, List.contains_iff_mem, ← F.sl, got_mem F hs]
  have e : c ∉ M.b (M.sl c) (M.off (M.sl c) O.contains A.contains) := fun z => F.ok.ne c hc ((F.ok.good _ hs).bsub _ _ z).2.2.symm
  constructor
  · rintro (h | h | h)
    · exact .inl h
    · exact absurd h e
    · exact .inr h
  · rintro (h | h)
    · exact .inl h
    · exact .inr (.inr h)
theorem asP_eq (O A : List Nat) {c : Nat} (hc : c < M.n) : asP W O A c = M.nA O.contains A.contains c := by
  unfold asP Mkt.nA
  have hs : M.bu c < M.m := F.ok.bm c hc
  rw [Bool.eq_iff_iff, Bool.or_eq_true, Bool.or_eq_true, List.contains_iff_mem, List.contains_iff_mem, ← F.bu, got_mem F hs]
  have e : c ∉ M.s (M.bu c) (M.off (M.bu c) O.contains A.contains) := fun z => F.ok.ne c hc ((F.ok.good _ hs).ssub _ _ z).2.2
  constructor
  · rintro (h | h | h)
    · exact .inl h
    · exact .inr h
    · exact absurd h e
  · rintro (h | h)
    · exact .inl h
    · exact .inr (.inl h)
end
/-! ### canonical lists -/
def Can (n : Nat) (O : List Nat) : Prop := O = (List.range n).filter O.contains
theorem filt_contains (n : Nat) (p : Nat → Bool) {c : Nat} (hc : c < n) : ((List.range n).filter p).contains c = p c := by
  rw [Bool.eq_iff_iff, List.contains_iff_mem, List.mem_filter, List.mem_range]
  exact ⟨fun h => h.2, fun h => ⟨hc, h⟩⟩
theorem can_filt (n : Nat) (p : Nat → Bool) : Can n ((List.range n).filter p) := by
  unfold Can
  refine List.filter_congr fun c hc => ?_
  rw [filt_contains n p (List.mem_range.mp hc)]
theorem Can.eq {n : Nat} {O O' : List Nat} (h : Can n O) (h' : Can n O') (e : ∀ c, c < n → O.contains c = O'.contains c) : O = O' := by
  rw [h, h']
  exact List.filter_congr fun c hc => e c (List.mem_range.mp hc)
theorem can_range (n : Nat) : Can n (List.range n) := by
  unfold Can
  rw [List.filter_eq_self.mpr]
  intro c hc
  rw [List.contains_iff_mem]
  exact hc
theorem can_nil (n : Nat) : Can n [] := by
  unfold Can
  rw [List.filter_eq_nil_iff.mpr]
  intro c _
  simp
theorem Can.len {n : Nat} {O : List Nat} (h : Can n O) : O.length ≤ n := by
  rw [h]
  exact filt_len n _
theorem off_agree {M : Mkt} {O A O' A' : CS} (h : ∀ c, c < M.n → O c = O' c ∧ A c = A' c) (d : Nat) : M.off d O A = M.off d O' A' := by
  funext c
  unfold Mkt.off
  by_cases hc : c < M.n
  · rw [(h c hc).1, (h c hc).2]
  · simp [hc]
theorem next_agree {M : Mkt} {O A O' A' : CS} (h : ∀ c, c < M.n → O c = O' c ∧ A c = A' c) {c : Nat} (hc : c < M.n) : M.nO O A c = M.nO O' A' c ∧ M.nA O A c = M.nA O' A' c := by
  unfold Mkt.nO Mkt.nA
  rw [off_agree h, off_agree h, (h c hc).1, (h c hc).2]
  exact ⟨rfl, rfl⟩
theorem down_agree {M : Mkt} {O A O' A' : CS} (h : ∀ c, c < M.n → O c = O' c ∧ A c = A' c) (d : M.Down O A) : M.Down O' A' where
  falls := fun c hc => by
    have e := next_agree h hc
    rw [← e.1, ← e.2, ← (h c hc).1, ← (h c hc).2]
    exact d.falls c hc
  above := fun P R s c hc => by
    rw [← (h c hc).1, ← (h c hc).2]
    exact d.above P R s c hc
section
variable {W : Web} {M : Mkt} (F : Fits W M)
include F
theorem next_cs (O A : List Nat) : ∀ c, c < M.n → M.nO O.contains A.contains c = (nextO W O A).contains c ∧ M.nA O.contains A.contains c = (nextA W O A).contains c := fun c hc => by
  have hc' : c < W.cs.length := by rw [← F.n]; exact hc
  unfold nextO nextA
  rw [filt_contains _ _ hc', filt_contains _ _ hc', opP_eq F O A hc, asP_eq F O A hc]
  exact ⟨rfl, rfl⟩
theorem downL_next {O A : List Nat} (d : M.Down O.contains A.contains) : M.Down (nextO W O A).contains (nextA W O A).contains := down_agree (next_cs F O A) (down_next F.ok d)
theorem downL_top : M.Down (List.range W.cs.length).contains ([] : List Nat).contains := by
  refine down_agree (fun c hc => ⟨?_, ?_⟩) (down_top (M := M))
  · have hc' : c < W.cs.length := by rw [← F.n]; exact hc
    rw [eq_comm, List.contains_iff_mem, List.mem_range]
    exact hc'
  · rfl
theorem downL_end {O A : List Nat} (d : M.Down O.contains A.contains) (e1 : nextO W O A = O) (e2 : nextA W O A = A) : M.Greatest O.contains A.contains :=
  down_end d fun c hc => by
    have := next_cs F O A c hc
    rw [e1, e2] at this
    exact this
theorem sizeL {O A : List Nat} (cO : Can W.cs.length O) (cA : Can W.cs.length A) (d : M.Down O.contains A.contains) (ne : ¬ (nextO W O A = O ∧ nextA W O A = A)) : size M.n (nextO W O A).contains (nextA W O A).contains < size M.n O.contains A.contains := by
  have q : ∃ c, c < M.n ∧ ((nextO W O A).contains c ≠ O.contains c ∨ (nextA W O A).contains c ≠ A.contains c) := by
    apply Classical.byContradiction
    intro no
    apply ne
    have all : ∀ c, c < M.n → (nextO W O A).contains c = O.contains c ∧ (nextA W O A).contains c = A.contains c := fun c hc => by
      apply Classical.byContradiction
      intro z
      apply no
      refine ⟨c, hc, ?_⟩
      by_cases e : (nextO W O A).contains c = O.contains c
      · exact .inr fun e2 => z ⟨e, e2⟩
      · exact .inl e
    rw [F.n] at all
    exact ⟨Can.eq (can_filt _ _) cO fun c hc => (all c hc).1, Can.eq (can_filt _ _) cA fun c hc => (all c hc).2⟩
  obtain ⟨c, hc, h⟩ := q
  refine size_lt (fun c hc => ?_) hc h
  have e := next_cs F O A c hc
  rw [← e.1, ← e.2]
  exact d.falls c hc
end
/-! ### comparing stands -/
def dNum (l : List Nat) : PyData := .tuple (l.map fun n : Nat => .int (n : Int))
theorem dp_nums {K : PySem.W.Frag} {H : Hp} : ∀ (l : List Nat), DpAll K H (l.map nv) (l.map fun n : Nat => .int (n : Int))
  | [] => .nil
  | n :: l => .cons (.int _) (dp_nums l)
theorem dp_nt {K : PySem.W.Frag} {H : Hp} {a : Addr} {l : List Nat} (h : NT H a l) : Dp K H (.ref a) (dNum l) := .tup h.sq (dp_nums l)
theorem dp_st {K : PySem.W.Frag} {H : Hp} {v : V} {O A : List Nat} (h : St2 H v O A) : Dp K H v (.tuple [dNum O, dNum A]) := by
  obtain ⟨p, oa, aa, rfl, h1, h2, h3⟩ := h
  exact .tup (SqT.of h1) (.cons (dp_nt h2) (.cons (dp_nt h3) .nil))
end KW

namespace KW
open PySem PySem.Spec PyProof.Rows L2 K39 LamX
theorem eqv_nums : ∀ (l m : List Nat), PyData.eqvAll (l.map fun n : Nat => PyData.int (n : Int)) (m.map fun n : Nat => PyData.int (n : Int)) = decide (l = m)
  | [], [] => rfl
  | [], m :: ms => by simp [PyData.eqvAll]
  | l :: ls, [] => by simp [PyData.eqvAll]
  | l :: ls, m :: ms => by
    rw [List.map_cons, List.map_cons, PyData.eqvAll, eqv_nums ls ms, PyData.eqv, Bool.eq_iff_iff]
    simp only [Bool.and_eq_true, beq_iff_eq, decide_eq_true_eq, List.cons.injEq]
    constructor
    · rintro ⟨h1, h2⟩
      exact ⟨by omega, h2⟩
    · rintro ⟨h1, h2⟩
      exact ⟨by omega, h2⟩
theorem eqv_dNum (l m : List Nat) : PyData.eqv (dNum l) (dNum m) = decide (l = m) := by
  unfold dNum
  rw [PyData.eqv, eqv_nums]
theorem eqv_st (O A O' A' : List Nat) : PyData.eqv (.tuple [dNum O, dNum A]) (.tuple [dNum O', dNum A']) = decide (O = O' ∧ A = A') := by
  rw [PyData.eqv, PyData.eqvAll, PyData.eqvAll, PyData.eqvAll, eqv_dNum, eqv_dNum, Bool.eq_iff_iff]
  simp only [Bool.and_true, Bool.and_eq_true, decide_eq_true_eq]
theorem lay_nums : ∀ l : List Nat, PyData.canLayAll0 (l.map fun n : Nat => PyData.int (n : Int)) = true ∧ PyData.depthAll (l.map fun n : Nat => PyData.int (n : Int)) = 0
  | [] => ⟨rfl, rfl⟩
  | n :: l => by
    rw [List.map_cons, PyData.canLayAll0, PyData.depthAll, (lay_nums l).1, (lay_nums l).2]
    exact ⟨rfl, rfl⟩
theorem lay_dNum (l : List Nat) : (dNum l).canLay0 = true ∧ (dNum l).depth = 1 := by
  unfold dNum
  rw [PyData.canLay0, PyData.depth, (lay_nums l).1, (lay_nums l).2]
  exact ⟨rfl, rfl⟩
theorem shaped_dNum (l : List Nat) : SeqAt.shaped (dNum l) = true := by
  unfold SeqAt.shaped
  rw [(lay_dNum l).1, (lay_dNum l).2]
  rfl
theorem shaped_st (O A : List Nat) : SeqAt.shaped (.tuple [dNum O, dNum A]) = true := by
  unfold SeqAt.shaped
  rw [PyData.canLay0, PyData.canLayAll0, PyData.canLayAll0, PyData.canLayAll0, PyData.depth, PyData.depthAll, PyData.depthAll, PyData.depthAll, (lay_dNum O).1, (lay_dNum O).2, (lay_dNum A).1, (lay_dNum A).2]
  rfl
section
variable {P : Program} {w : World} {K : PySem.W.Frag} {mg : Str → Option Value} {base : Heap}
theorem scSe : FnScope ["web", "stand", "behind"] ["web", "stand"] (defScope (top 17)) := ⟨rfl, rfl, rfl, by decide +kernel, rfl, by decide +kernel, by decide +kernel⟩
def spSe (K : PySem.W.Frag) : Sp := fun vs H Q _ => ∃ (v st : V) (W : Web) (M : Mkt) (O A : List Nat), vs = [v, st] ∧ Is H (encWeb W) v ∧ WFW W ∧ Fits W M ∧ St2 H st O A ∧ Can W.cs.length O ∧ Can W.cs.length A ∧ M.Down O.contains A.contains ∧ Tabs (Tt K) H ∧
  ∀ H' r O' A', Xt (Tt K) H H' → St2 H' r O' A' → Can W.cs.length O' → M.Greatest O'.contains A'.contains → Q r H'
theorem has_Se (hnx : Has P w K mg base 6 "next_stand" ["web", "stand"] (spNx K)) (d : At K mg "settled_from" 17) : Has P w K mg base 7 "settled_from" ["web", "stand"] (spSe K) := by
  obtain ⟨fN, fdN, GN, gN, kN, bN⟩ := hnx.ex
  refine has_of d scSe (fun vs H Q E h => ?_) (fun _ _ _ _ _ _ us hl => match us, hl with | [_, _], _ => rfl) (fun f cdv A0 outer s H vs Q E hr h => ?_)
  · obtain ⟨v, st, W, M, O, A, rfl, _⟩ := h
    rfl
  obtain ⟨v, st, W, M, O, A, rfl, hW, wf, F, hst, cO, cA, dn, tb, q⟩ := h
  have ru : (A0.deeper (envOfC "settled_from" (defScope (top 17)) s.heap.objs.size f cdv)).units + 64 < cLine := by have := hr.un; omega
  refine ⟨_, pss_cons (ps_set (i := 2) scSe.nd rfl (Or.inl rfl) (pe_call GN hr rfl gN kN bN .nil pass0 (pa_cons (pv 0) (pa_cons (pv 1) pa_nil))))
    (pss_cons (ps_while PassesOwn.never (pt_cmpR (op_neD ru) (pv 2) (pv 1) (nomark _)) (pss_cons (ps_set (i := 1) scSe.nd rfl (Or.inl rfl) (pv 2)) (pss_one (ps_set (i := 2) scSe.nd rfl (Or.inl rfl) (pe_call GN hr rfl gN kN bN .nil pass0 (pa_cons (pv 0) (pa_cons (pv 1) pa_nil)))))))
    (pss_one (ps_ret (pv 1)))), ?_⟩
  refine ⟨_, rfl, _, rfl, v, st, W, O, A, rfl, hW, wf, hst, tb, fun H1 r1 x1 e1 => ?_⟩
  refine ⟨fun k σ H' => ∃ st' be O' A', σ = [some v, some st', some be] ∧ Xt (Tt K) H H' ∧ St2 H' st' O' A' ∧ St2 H' be (nextO W O' A') (nextA W O' A') ∧ Can W.cs.length O' ∧ Can W.cs.length A' ∧ M.Down O'.contains A'.contains ∧ k = size M.n O'.contains A'.contains,
    ⟨_, st, r1, O, A, rfl, x1, hst.k x1.tk, e1, cO, cA, dn, rfl⟩, fun k σ H' p => ?_⟩
  obtain ⟨st', be, O', A', rfl, x2, g1, g2, cO', cA', dn', rfl⟩ := p
  refine ⟨_, rfl, _, rfl, _, _, dp_st g2, dp_st g1, shaped_st _ _, shaped_st _ _, _, rfl, ?_⟩
  rw [eqv_st]
  by_cases e : nextO W O' A' = O' ∧ nextA W O' A' = A'
  · rw [decide_eq_true e]
    refine iteF (A := True) ⟨_, rfl, q H' st' O' A' x2 g1 cO' (downL_end F dn' e.1 e.2)⟩
  · rw [decide_eq_false e]
    refine iteT (B := True) ⟨fun σ' H2 => ∃ be2, σ' = [some v, some be, some be2] ∧ Xt (Tt K) H H2 ∧ St2 H2 be (nextO W O' A') (nextA W O' A') ∧ St2 H2 be2 (nextO W (nextO W O' A') (nextA W O' A')) (nextA W (nextO W O' A') (nextA W O' A')), fun σ' H2 p => ?_, ?_⟩
    · obtain ⟨be2, rfl, x3, g3, g4⟩ := p
      exact ⟨_, sizeL F cO' cA' dn' e, be, be2, _, _, rfl, x3, g3, g4, can_filt _ _, can_filt _ _, downL_next F dn', rfl⟩
    · refine ⟨_, rfl, _, rfl, _, rfl, v, be, W, _, _, rfl, hW.k x2.tk, wf, g2, x2.2, fun H3 r3 x3 e3 => ⟨r3, rfl, x2.trans x3, g2.k x3.tk, e3⟩⟩
theorem scBe : FnScope ["web"] ["web"] (defScope (top 19)) := ⟨rfl, rfl, rfl, by decide +kernel, rfl, by decide +kernel, by decide +kernel⟩
def spBe (K : PySem.W.Frag) : Sp := fun vs H Q _ => ∃ (v : V) (W : Web) (M : Mkt), vs = [v] ∧ Is H (encWeb W) v ∧ WFW W ∧ Fits W M ∧ Tabs (Tt K) H ∧
  ∀ H' r O' A', Xt (Tt K) H H' → St2 H' r O' A' → Can W.cs.length O' → M.Greatest O'.contains A'.contains → Q r H'
theorem has_Be (hal : Has P w K mg base 1 "all_contracts" ["web"] (spAl K)) (hse : Has P w K mg base 7 "settled_from" ["web", "stand"] (spSe K)) (d : At K mg "best_for_buyers" 19) : Has P w K mg base 8 "best_for_buyers" ["web"] (spBe K) := by
  obtain ⟨fA, fdA, GA, gA, kA, bA⟩ := (hal.up (k := 7) (by decide)).ex
  obtain ⟨fS, fdS, GS, gS, kS, bS⟩ := hse.ex
  refine has_of d scBe (fun vs H Q E h => ?_) (fun _ _ _ _ _ _ us hl => match us, hl with | [_], _ => rfl) (fun f cdv A0 outer s H vs Q E hr h => ?_)
  · obtain ⟨v, W, M, rfl, _⟩ := h
    rfl
  obtain ⟨v, W, M, rfl, hW, wf, F, tb, q⟩ := h
  refine ⟨_, pss_one (ps_ret (pe_call GS hr rfl gS kS bS .nil pass0 (pa_cons (pv 0) (pa_cons (pe_tup (pa_cons (pe_call GA hr rfl gA kA bA .nil pass0 (pa_cons (pv 0) pa_nil)) (pa_cons (pe_tup pa_nil) pa_nil))) pa_nil)))), ?_⟩
  refine ⟨_, rfl, _, rfl, v, W, rfl, hW, wf, fun H1 p1 s1 e1 => ?_⟩
  refine ⟨(by show 0 ≤ sizeLine; decide), fun p2 n2 => ⟨(by show 2 ≤ sizeLine; decide), fun p3 n3 => ?_⟩⟩
  have s2 := same_new (.tup []) n2
  have s3 := same_new (.tup [.ref p1, .ref p2]) n3
  have ss := (s1.trans s2).trans s3
  refine ⟨v, .ref p3, W, M, List.range W.cs.length, [], rfl, hW.k (Same.tk ss), wf, F, ⟨p3, p1, p2, rfl, upd_same, s3 _ _ (s2 _ _ e1), s3 _ _ upd_same⟩, can_range _, can_nil _, downL_top F, tb.ext ss, fun H' r O' A' x => q H' r O' A' ((Same.xt ss tb).trans x)⟩
end
end KW

namespace KW
open PySem PySem.Spec PyProof.Rows L2 K39 LamX
/-! ### a new tuple whose object is known: its methods can be called -/
/-- tuple(x), x a list: a new tuple, its object known -/
def rTupFz (K : PySem.W.Frag) : List V → Hp → VK → Prop := fun xs H Q => ∃ p ys, xs = [.ref p] ∧ SqL K H p ys ∧ ∀ l o, o.cls = .type "tuple" → o.dict = none → H l = none → Q (.ref l) (upd H l (.frz o (.tup ys)))
theorem cr_tupFz {X : Cx} : CallR X (.type "tuple") (rTupFz X.K) := by
  intro pins s σ H xs us Q I r h
  obtain ⟨p, ys, rfl, hq, q⟩ := h
  obtain rfl := Vals.ref1 r
  obtain ⟨its, r', pl, hz⟩ := I.list hq
  have hlen := r'.length
  refine call_tuple_list pl.isList (fun h' kp => ?_) (by simp only [List.size_toArray] <;> omega)
  have I1 : Inv X pins σ H { s with heap := h' } := I.kept (t' := s.toks) kp
  have I2 : Inv X pins σ (upd H h'.objs.size (.frz { cls := .type "tuple", data := .seq its.toArray } (.tup ys))) { s with heap := h'.push { cls := .type "tuple", data := .seq its.toArray } } :=
    I1.laid (t' := s.toks) (fun b o e => Heap.get?_push_of_some _ e) (Nat.le_refl _)
      (show ObjOk X.prog X.w _ _ _ (.frz { cls := .type "tuple", data := .seq its.toArray } (.tup ys)) from ⟨Heap.get?_push_size _ rfl, hz, its, r', IsTup.new _ _⟩)
  exact ⟨.ref h'.objs.size, _, I2, rfl, q _ _ rfl rfl (I1.hok.fresh (Nat.le_refl _))⟩
/-- the tuple at a: its object is known, it has no dict -/
def Fz (H : Hp) (a : Addr) (xs : List V) : Prop := ∃ o, H a = some (.frz o (.tup xs)) ∧ o.cls = .type "tuple" ∧ o.dict = none
theorem Fz.sqt {K : PySem.W.Frag} {H : Hp} {a : Addr} {xs : List V} (h : Fz H a xs) : SqT K H a xs := by
  obtain ⟨o, e, _⟩ := h
  exact .inl (.inr ⟨o, e⟩)
theorem Fz.same {H H' : Hp} {a : Addr} {xs : List V} (h : Fz H a xs) (s : Same H H') : Fz H' a xs := by
  obtain ⟨o, e, r⟩ := h
  exact ⟨o, s _ _ e, r⟩
/-- o.m(e, ..), o such a tuple -/
def tBMF (r : V → List V → Hp → VK → Prop) (to : TE) (t : TA) : TE := fun σ H Q => to σ H fun x H1 => (∃ a xs, x = .ref a ∧ Fz H1 a xs) ∧ t σ H1 fun ys H2 => r x ys H2 Q
theorem pe_bmF {X : Cx} {o e : Expr} {es : List Expr} {to : TE} {t : TA} {name : Str} {apos cpos : Pos} {id : String} {r : V → List V → Hp → VK → Prop} (pa : PlainAttrs "tuple") (slot : Slot "tuple" name id) (hty : typeOf (.builtin id) = pure (.type "method_descriptor")) (hm : MtR X id r) (ho : PE X o to) (ha : PA X (e :: es) t)
    (hbase : attributeBase o name X.env (eval o X.env) = eval o X.env := by rfl)
    (hfew : ((backTo cpos (starEach (e :: es) X.env)).all (fun x => !x.1) && (backToKw cpos (keywordEach [] X.env)).all (fun x => x.1.isSome)
      && decide ((e :: es).length + ([] : List Keyword).length + (if ([] : List Keyword).isEmpty then 0 else 1) < 30)) = true := by rfl)
    (hline : (apos.endLine == cpos.line) = true := by rfl) (hs : starEach (e :: es) X.env = (false, eval e X.env) :: starEach es X.env := by rfl) (hplain : (backTo cpos (starEach es X.env)).any (·.1) = false := by rfl) :
    PE X (.Call (.Attribute o name apos) (e :: es) [] cpos) (tBMF r to t) := by
  refine ⟨fun pins s σ H Q I h => ?_⟩
  refine wpAny_Call_method_late hbase hfew hline rfl (thn (ho.run pins s σ H _ I h) fun v s1 ⟨x, H1, I1, r1, ty, q1⟩ => ?_)
  obtain ⟨a, xs, rfl, ob, hf, hc, hd⟩ := ty
  cases r1
  have eo : s1.heap.get? a = some ob := (show s1.heap.get? a = some ob ∧ _ from I1.hok a _ hf).1
  refine ⟨"tuple", id, pa, slot, hty, ⟨ob, eo, hc⟩, fun b e => ?_, ?_⟩
  · cases e
    exact ⟨ob, eo, hd⟩
  have hA := ha.run cpos pins s1 σ H1 _ I1 q1
  rw [hs] at hA ⊢
  refine Calls.callWith_builtin (by show (false || (backTo cpos (starEach es X.env)).any (·.1)) = false; rw [hplain] <;> rfl) (Calls.evalArgs_plain ?_)
  exact thn hA fun us s2 ⟨vs, H2, I2, r2, q2⟩ => hm pins s2 σ H2 (.ref a) vs (.ref a) us Q I2 rfl r2 q2
/-! ### forgetting the object -/
theorem Inv.thaw {X : Cx} {pins : List (Addr × Obj)} {σ : L2.St} {H : Hp} {s : Shared} {a : Addr} {o : Obj} {xs : List V} (I : Inv X pins σ H s) (h0 : X.H_0 a = none) (h : H a = some (.frz o (.tup xs))) : Inv X pins σ (upd H a (.tup xs)) s := by
  have ne : ∀ {b : Addr}, H b = none → b ≠ a := fun n z => by rw [z, h] at n; cases n
  refine ⟨I.ok, I.os, I.bare, ⟨I.base.keep, I.base.slot, fun b ob q n hx => ?_, I.base.there, fun b ys q => ?_, fun b ob u q => ?_, fun b ps q => ?_⟩, I.loc, I.cell, ?_, fun x c e => ?_, fun p hp => ?_, fun b u e => ?_, I.len⟩
  · have z := I.base.free b ob q n hx
    rw [upd_ne (ne z)]
    exact z
  · rw [upd_ne (fun z => by rw [z, h0] at q; cases q)]
    exact I.base.tups b ys q
  · rw [upd_ne (fun z => by rw [z, h0] at q; cases q)]
    exact I.base.frzs b ob u q
  · rw [upd_ne (fun z => by rw [z, h0] at q; cases q)]
    exact I.base.tbls b ps q
  · rw [upd_ne (ne I.free)]
    exact I.free
  · rw [upd_ne (ne (I.freeC x c e))]
    exact I.freeC x c e
  · obtain ⟨p1, p2, p3⟩ := I.pin p hp
    exact ⟨p1, by rw [upd_ne (ne p2)]; exact p2, p3⟩
  · have stay : ∀ {c : Addr} {v : HO}, ObjOk X.prog X.w H s.heap c v → ObjOk X.prog X.w (upd H a (.tup xs)) s.heap c v := fun ok =>
      ok.stay (fun _ _ _ q => q) (fun c q => by rw [upd_ne (fun z => by rw [z, h] at q; cases q)]; exact q) (fun c ys q => by rw [upd_ne (fun z => by rw [z, h] at q; cases q)]; exact q)
    by_cases hb : b = a
    · subst hb
      rw [upd_same] at e
      cases e
      exact stay (show s.heap.get? b = some o ∧ ObjOk X.prog X.w H s.heap b (.tup xs) from I.hok b _ h).2
    · rw [upd_ne hb] at e
      exact stay (I.hok b u e)
/-- the object of a tuple that is new in this call is forgotten, then e -/
def tThaw (H0 : Hp) (t : TE) : TE := fun σ H Q => ∃ a o xs, H0 a = none ∧ H a = some (.frz o (.tup xs)) ∧ t σ (upd H a (.tup xs)) Q
theorem pe_thaw {X : Cx} {e : Expr} {t : TE} (h : PE X e t) : PE X e (tThaw X.H_0 t) := ⟨fun pins s σ H Q I hw => by
  obtain ⟨a, o, xs, h0, hf, q⟩ := hw
  exact h.run pins s σ _ Q (Inv.thaw I h0 hf) q⟩
end KW

namespace KW
open PySem PySem.Spec PyProof.Rows L2 K39 LamX
/-! ### the draws: a list of numbers that only shrinks -/
def Drw (H : Hp) (da : Addr) : Prop := ∃ ds : List Int, H da = some (.lst (ds.map V.int))
/-- all stays but the draws at da -/
structure Kp (da : Addr) (H H' : Hp) : Prop where
  old : Keep da H H'
  drw : Drw H' da
section
variable {da : Addr} {H H1 H2 H' : Hp}
theorem Kp.trans (a : Kp da H H1) (b : Kp da H1 H2) : Kp da H H2 := ⟨a.old.trans b.old, b.drw⟩
theorem Kp.refl (d : Drw H da) : Kp da H H := ⟨Keep.refl da H, d⟩
theorem Same.kp (s : Same H H') (d : Drw H da) : Kp da H H' := ⟨KW.Same.keep s, by obtain ⟨ds, e⟩ := d; exact ⟨ds, s _ _ e⟩⟩
theorem Kp.same (a : Kp da H H1) (s : Same H1 H2) : Kp da H H2 := a.trans (Same.kp s a.drw)
theorem Kp.tk (a : Kp da H H') (d : Drw H da) : TK H H' := by obtain ⟨ds, e⟩ := d; exact a.old.tk e
theorem Kp.at_ (a : Kp da H H') {b : Addr} {o : HO} (n : b ≠ da) (h : H b = some o) : H' b = some o := a.old b o n h
/-- a new list: it is not the draws -/
theorem Drw.ne (d : Drw H da) {b : Addr} (h : H b = none) : b ≠ da := fun z => by obtain ⟨ds, e⟩ := d; rw [← z, h] at e; cases e
theorem Kp.none (a : Kp da H H') (d : Drw H da) {b : Addr} (h : H' b = none) : H b = none := by
  have n := a.drw.ne h
  cases z : H b with
  | none => rfl
  | some o => rw [a.old b o n z] at h; cases h
/-- a list that is new over H is written -/
theorem Kp.put (a : Kp da H H') {l : Addr} (n : H l = Option.none) (d : Drw H da) (o : HO) : Kp da H (upd H' l o) := by
  have ne := d.ne n
  refine ⟨fun b u nb e => ?_, ?_⟩
  · rw [upd_ne (ne_of_none e n)]
    exact a.old b u nb e
  · obtain ⟨ds, e⟩ := a.drw
    exact ⟨ds, by rw [upd_ne (fun z => ne z.symm)]; exact e⟩
theorem Kp.put' (a : Kp da H H') {l : Addr} (n : H l = Option.none) (d : Drw H da) (o : HO) : Kp da H (upd H' l o) := a.put n d o
theorem Tabs.kp {T : List (Addr × Str)} (t : Tabs T H) (d : Drw H da) (k : Kp da H H') : Tabs T H' := fun p hp => by
  obtain ⟨ds, e⟩ := d
  obtain ⟨ps, h1, h2, h3⟩ := t p hp
  refine ⟨ps, k.at_ (fun z => by rw [z, e] at h1; cases h1) h1, h2, fun pos cv hc => ?_⟩
  obtain ⟨c, e1, e2⟩ := h3 pos cv hc
  exact ⟨c, e1, k.at_ (fun z => by rw [z, e] at e2; cases e2) e2⟩
end
section
variable {P : Program} {w : World} {K : PySem.W.Frag} {mg : Str → Option Value} {base : Heap}
/-! ### _law_take -/
theorem scTk : FnScope ["_law_draws_here", "_law_many"] ["_law_draws_here", "_law_many"] (defScope (top 21)) := ⟨rfl, rfl, rfl, by decide +kernel, rfl, by decide +kernel, by decide +kernel⟩
def spTk : Sp := fun vs H Q _ => ∃ (da : Addr) (k : Nat), vs = [.ref da, nv k] ∧ 0 < k ∧ Drw H da ∧ ∀ H' r, Kp da H H' → r < k → Q (nv r) H'
theorem has_Tk (bt : Bt mg) (d : At K mg "_law_take" 21) : Has P w K mg base 1 "_law_take" ["_law_draws_here", "_law_many"] spTk := by
  refine has_of d scTk (fun vs H Q E h => ?_) (fun _ _ _ _ _ _ us hl => match us, hl with | [_, _], _ => rfl) (fun f cdv A0 outer s H vs Q E hr h => ?_)
  · obtain ⟨da, k, rfl, _⟩ := h
    rfl
  obtain ⟨da, k, rfl, hk, ⟨ds, ed⟩, q⟩ := h
  refine ⟨_, pss_cons (ps_if (pt_cmpR op_eq (pe_callB (r := rLenS K) call_len_seq rfl bt.len (by decide +kernel) (pa_cons (pv 0) pa_nil)) pe_int (nomark _)) (pss_one (ps_ret pe_int)) pss_nil)
    (pss_one (ps_ret (pe_op op_mod (pe_callTy call_int1 rfl bt.int (by decide +kernel) (pa_cons (pe_bm0 PySem.F.plainAttrs_list PySem.F.slot_list_pop PySem.F.type_list_pop mt_pop (pv 0)) pa_nil)) (pv 1)))), ?_⟩
  refine ⟨_, rfl, da, _, rfl, .inl (SqL.of ed), rfl, _, rfl, ?_⟩
  rw [List.length_map]
  refine ite2 (fun e => ?_) (fun e => ?_)
  · exact q H 0 (Kp.refl ⟨ds, ed⟩) hk
  · have hne : ds ≠ [] := fun z => e (by rw [z]; rfl)
    have hl : 0 < ds.length := List.length_pos_iff.mpr hne
    have hlt : ds.length - 1 < ds.length := by omega
    refine ⟨_, rfl, .inl ⟨rfl, _, SqL.of ed⟩, da, ds.map V.int, .int ds[ds.length - 1], rfl, rfl, ed, ?_, ?_⟩
    · rw [List.length_map, List.getElem?_map, List.getElem?_eq_getElem hlt]
      rfl
    refine .inl ⟨_, rfl, _, rfl, _, k, rfl, rfl, by omega, ?_⟩
    have h1 := Int.emod_nonneg (ds[ds.length - 1]) (show (k : Int) ≠ 0 by omega)
    have h2 := Int.emod_lt_of_pos (ds[ds.length - 1]) (show (0 : Int) < k by omega)
    have e2 : ds[ds.length - 1] % (k : Int) = (((ds[ds.length - 1] % (k : Int)).toNat : Nat) : Int) := by omega
    show Q (.int (ds[ds.length - 1] % (k : Int))) _
    rw [e2]
    refine q _ _ ⟨Keep.upd _, ds.dropLast, ?_⟩ (by omega)
    rw [upd_same, List.map_dropLast]
/-! ### _law_wishes -/
theorem scWs : FnScope ["_law_draws_here", "_law_contracts", "_law_row", "_law_c"] ["_law_draws_here", "_law_contracts"] (defScope (top 22)) := ⟨rfl, rfl, rfl, by decide +kernel, rfl, by decide +kernel, by decide +kernel⟩
def spWs (K : PySem.W.Frag) : Sp := fun vs H Q _ => ∃ (da a : Addr) (l : List Nat), vs = [.ref da, .ref a] ∧ a ≠ da ∧ H a = some (.lst (l.map nv)) ∧ l.Nodup ∧ l.length ≤ 100 ∧ Drw H da ∧
  ∀ H' p row, Kp da H H' → NT H' p row → row.Nodup → (∀ c ∈ row, c ∈ l) → Q (.ref p) H'
/-- the same, the tuple's object known -/
def spWsF : Sp := fun vs H Q _ => ∃ (da a : Addr) (l : List Nat), vs = [.ref da, .ref a] ∧ a ≠ da ∧ H a = some (.lst (l.map nv)) ∧ l.Nodup ∧ l.length ≤ 100 ∧ Drw H da ∧
  ∀ H' p (row : List Nat), Kp da H H' → Fz H' p (row.map nv) → row.Nodup → (∀ c ∈ row, c ∈ l) → H p = none → Q (.ref p) H'
theorem nd_take {l : List Nat} {i c : Nat} (nd : l.Nodup) (e : l[i]? = some c) : c ∉ l.take i := fun h => by
  have h1 : (l.take (i + 1)).Nodup := nd.sublist (List.take_sublist _ _)
  rw [take_snoc e] at h1
  exact (List.nodup_append.mp h1).2.2 c h c List.mem_cons_self rfl
theorem ins_perm (l : List Nat) (c i : Nat) : (l.take i ++ [c] ++ l.drop i).Perm (c :: l) := by
  have h : (l.take i ++ [c] ++ l.drop i).Perm (c :: (l.take i ++ l.drop i)) := by
    rw [List.append_assoc]
    exact List.perm_middle
  rwa [List.take_append_drop] at h
theorem has_Ws (bt : Bt mg) (htk : Has P w K mg base 1 "_law_take" ["_law_draws_here", "_law_many"] spTk) (d : At K mg "_law_wishes" 22) : Has P w K mg base 2 "_law_wishes" ["_law_draws_here", "_law_contracts"] (spWs K) := by
  obtain ⟨fT, fdT, GT, gT, kT, bT⟩ := htk.ex
  refine has_of d scWs (fun vs H Q E h => ?_) (fun _ _ _ _ _ _ us hl => match us, hl with | [_, _], _ => rfl) (fun f cdv A0 outer s H vs Q E hr h => ?_)
  · obtain ⟨da, a, l, rfl, _⟩ := h
    rfl
  obtain ⟨da, a, l, rfl, hne, ha, nd, hl, dr, q⟩ := h
  refine ⟨_, pss_cons (ps_set (i := 2) scWs.nd rfl (Or.inl rfl) (pe_lst pa_nil))
    (pss_cons (ps_for PassesOwn.never rfl (pi_list (pv 1)) (pg_name (i := 3) scWs.nd rfl (Or.inl rfl))
      (pss_one (ps_if (pt_cmpR op_gt (pe_call GT hr rfl gT kT bT .nil pass0 (pa_cons (pv 0) (pa_cons pe_int pa_nil))) pe_int (nomark _))
        (pss_one (ps_expr (pe_bm PySem.F.plainAttrs_list PySem.F.slot_list_insert PySem.F.type_list_insert mt_insert (pv 2) (pa_cons (pe_call GT hr rfl gT kT bT .nil pass0 (pa_cons (pv 0) (pa_cons (pe_op op_add (pe_callB (r := rLenS K) call_len_seq rfl bt.len (by decide +kernel) (pa_cons (pv 2) pa_nil)) pe_int) pa_nil))) (pa_cons (pv 3) pa_nil))))) pss_nil)))
    (pss_one (ps_ret (pe_callTy call_tuple_of rfl bt.tuple (by decide +kernel) (pa_cons (pv 2) pa_nil))))), ?_⟩
  refine ⟨(by show 0 ≤ sizeLine; decide), fun ra nr => ⟨.ref a, rfl, a, rfl, ⟨_, SqL.of (same_new _ nr _ _ ha)⟩, ?_⟩⟩
  have dr0 : Kp da H (upd H ra (.lst [])) := Same.kp (same_new _ nr) dr
  have rne := dr.ne nr
  have rna : ra ≠ a := fun z => by rw [z, ha] at nr; cases nr
  refine for_list (xs := l.map nv) (fun i σ H' => (∃ y, σ = [some (.ref da), some (.ref a), some (.ref ra), y]) ∧ Kp da H H' ∧ ∃ row, H' ra = some (.lst (row.map nv)) ∧ row.Nodup ∧ (∀ c ∈ row, c ∈ l.take i) ∧ row.length ≤ i)
    ⟨⟨none, rfl⟩, dr0, [], upd_same, List.nodup_nil, (fun c h => by cases h), Nat.le_refl _⟩ (fun i σ H' _ p => SqL.of (p.2.1.at_ hne ha)) (fun i x σ H' hx p => ?_) fun σ H' p => ?_
  · obtain ⟨⟨y, rfl⟩, kp, row, er, rnd, rin, rlen⟩ := p
    obtain ⟨c, ec, rfl⟩ := map_get hx
    have et := take_snoc ec
    have hi : i < l.length := (List.getElem?_eq_some_iff.mp ec).1
    have cm : c ∈ l := List.mem_of_getElem? ec
    refine ⟨_, rfl, da, 7, rfl, by decide, kp.drw, fun H1 r1 k1 h1 => ⟨r1, 0, rfl, rfl, _, rfl, ?_⟩⟩
    have er1 := k1.at_ rne er
    refine ite2 (fun e => ?_) (fun e => ?_)
    · refine ⟨_, rfl, .inl ⟨rfl, _, SqL.of er1⟩, _, rfl, _, rfl, ra, _, rfl, .inl (SqL.of er1), _, _, rfl, rfl, ?_⟩
      rw [List.length_map]
      refine ⟨da, row.length + 1, rfl, by omega, k1.drw, fun H2 r2 k2 h2 => ⟨_, rfl, ra, row.map nv, r2, nv c, rfl, rfl, k2.at_ rne er1, by rw [List.length_map]; exact szk (by omega), by omega, by omega, ?_⟩⟩
      rw [Int.toNat_natCast, ← List.map_take, ← List.map_drop]
      have ep := ins_perm row c r2
      have cn : c ∉ row := fun h => nd_take nd ec (rin c h)
      refine ⟨⟨_, rfl⟩, ((kp.trans k1).trans k2).put nr dr _, row.take r2 ++ [c] ++ row.drop r2, ?_, ?_, fun b hb => ?_, ?_⟩
      · rw [upd_same, List.map_append, List.map_append]
        rfl
      · exact ep.nodup_iff.mpr (List.nodup_cons.mpr ⟨cn, rnd⟩)
      · rw [et]
        rcases List.mem_cons.mp (ep.mem_iff.mp hb) with h | h
        · rw [h]
          simp
        · exact List.mem_append_left _ (rin b h)
      · rw [ep.length_eq, List.length_cons]
        omega
    · refine ⟨⟨_, rfl⟩, kp.trans k1, row, er1, rnd, fun b hb => ?_, by omega⟩
      rw [et]
      exact List.mem_append_left _ (rin b hb)
  · obtain ⟨⟨y, rfl⟩, kp, row, er, rnd, rin, rlen⟩ := p
    rw [List.length_map, List.take_length] at rin
    exact ⟨_, rfl, ra, _, rfl, .inl ⟨SqL.of er, fun p np => q _ p row (kp.same (same_new _ np)) upd_same rnd rin⟩⟩
theorem has_WsF (bt : Bt mg) (htk : Has P w K mg base 1 "_law_take" ["_law_draws_here", "_law_many"] spTk) (d : At K mg "_law_wishes" 22) : Has P w K mg base 2 "_law_wishes" ["_law_draws_here", "_law_contracts"] spWsF := by
  obtain ⟨fT, fdT, GT, gT, kT, bT⟩ := htk.ex
  refine has_of d scWs (fun vs H Q E h => ?_) (fun _ _ _ _ _ _ us hl => match us, hl with | [_, _], _ => rfl) (fun f cdv A0 outer s H vs Q E hr h => ?_)
  · obtain ⟨da, a, l, rfl, _⟩ := h
    rfl
  obtain ⟨da, a, l, rfl, hne, ha, nd, hl, dr, q⟩ := h
  refine ⟨_, pss_cons (ps_set (i := 2) scWs.nd rfl (Or.inl rfl) (pe_lst pa_nil))
    (pss_cons (ps_for PassesOwn.never rfl (pi_list (pv 1)) (pg_name (i := 3) scWs.nd rfl (Or.inl rfl))
      (pss_one (ps_if (pt_cmpR op_gt (pe_call GT hr rfl gT kT bT .nil pass0 (pa_cons (pv 0) (pa_cons pe_int pa_nil))) pe_int (nomark _))
        (pss_one (ps_expr (pe_bm PySem.F.plainAttrs_list PySem.F.slot_list_insert PySem.F.type_list_insert mt_insert (pv 2) (pa_cons (pe_call GT hr rfl gT kT bT .nil pass0 (pa_cons (pv 0) (pa_cons (pe_op op_add (pe_callB (r := rLenS K) call_len_seq rfl bt.len (by decide +kernel) (pa_cons (pv 2) pa_nil)) pe_int) pa_nil))) (pa_cons (pv 3) pa_nil))))) pss_nil)))
    (pss_one (ps_ret (pe_callTy (r := rTupFz K) cr_tupFz rfl bt.tuple (by decide +kernel) (pa_cons (pv 2) pa_nil))))), ?_⟩
  refine ⟨(by show 0 ≤ sizeLine; decide), fun ra nr => ⟨.ref a, rfl, a, rfl, ⟨_, SqL.of (same_new _ nr _ _ ha)⟩, ?_⟩⟩
  have dr0 : Kp da H (upd H ra (.lst [])) := Same.kp (same_new _ nr) dr
  have rne := dr.ne nr
  have rna : ra ≠ a := fun z => by rw [z, ha] at nr; cases nr
  refine for_list (xs := l.map nv) (fun i σ H' => (∃ y, σ = [some (.ref da), some (.ref a), some (.ref ra), y]) ∧ Kp da H H' ∧ ∃ row, H' ra = some (.lst (row.map nv)) ∧ row.Nodup ∧ (∀ c ∈ row, c ∈ l.take i) ∧ row.length ≤ i)
    ⟨⟨none, rfl⟩, dr0, [], upd_same, List.nodup_nil, (fun c h => by cases h), Nat.le_refl _⟩ (fun i σ H' _ p => SqL.of (p.2.1.at_ hne ha)) (fun i x σ H' hx p => ?_) fun σ H' p => ?_
  · obtain ⟨⟨y, rfl⟩, kp, row, er, rnd, rin, rlen⟩ := p
    obtain ⟨c, ec, rfl⟩ := map_get hx
    have et := take_snoc ec
    have hi : i < l.length := (List.getElem?_eq_some_iff.mp ec).1
    have cm : c ∈ l := List.mem_of_getElem? ec
    refine ⟨_, rfl, da, 7, rfl, by decide, kp.drw, fun H1 r1 k1 h1 => ⟨r1, 0, rfl, rfl, _, rfl, ?_⟩⟩
    have er1 := k1.at_ rne er
    refine ite2 (fun e => ?_) (fun e => ?_)
    · refine ⟨_, rfl, .inl ⟨rfl, _, SqL.of er1⟩, _, rfl, _, rfl, ra, _, rfl, .inl (SqL.of er1), _, _, rfl, rfl, ?_⟩
      rw [List.length_map]
      refine ⟨da, row.length + 1, rfl, by omega, k1.drw, fun H2 r2 k2 h2 => ⟨_, rfl, ra, row.map nv, r2, nv c, rfl, rfl, k2.at_ rne er1, by rw [List.length_map]; exact szk (by omega), by omega, by omega, ?_⟩⟩
      rw [Int.toNat_natCast, ← List.map_take, ← List.map_drop]
      have ep := ins_perm row c r2
      have cn : c ∉ row := fun h => nd_take nd ec (rin c h)
      refine ⟨⟨_, rfl⟩, ((kp.trans k1).trans k2).put nr dr _, row.take r2 ++ [c] ++ row.drop r2, ?_, ?_, fun b hb => ?_, ?_⟩
      · rw [upd_same, List.map_append, List.map_append]
        rfl
      · exact ep.nodup_iff.mpr (List.nodup_cons.mpr ⟨cn, rnd⟩)
      · rw [et]
        rcases List.mem_cons.mp (ep.mem_iff.mp hb) with h | h
        · rw [h]
          simp
        · exact List.mem_append_left _ (rin b h)
      · rw [ep.length_eq, List.length_cons]
        omega
    · refine ⟨⟨_, rfl⟩, kp.trans k1, row, er1, rnd, fun b hb => ?_, by omega⟩
      rw [et]
      exact List.mem_append_left _ (rin b hb)
  · obtain ⟨⟨y, rfl⟩, kp, row, er, rnd, rin, rlen⟩ := p
    rw [List.length_map, List.take_length] at rin
    exact ⟨_, rfl, ra, _, rfl, SqL.of er, fun p o o1 o2 np => q _ p row (kp.same (same_new _ np)) ⟨o, upd_same, o1, o2⟩ rnd rin (kp.none dr np)⟩
end
end KW

namespace KW
open PySem PySem.Spec PyProof.Rows L2 K39 LamX
section
variable {P : Program} {w : World} {K : PySem.W.Frag} {mg : Str → Option Value} {base : Heap}
/-! ### _law_word -/
theorem scWd : FnScope ["_law_number", "_law_word_here", "_law_k"] ["_law_number"] (defScope (top 24)) := ⟨rfl, rfl, rfl, by decide +kernel, rfl, by decide +kernel, by decide +kernel⟩
def spWd : Sp := fun vs H Q _ => ∃ n : Int, vs = [.int n] ∧ ∀ z, Q (.str z) H
theorem letter (j : Nat) (h : j < 26) : ∃ c, atI (PySem.Str.ofString "abcdefghijklmnopqrstuvwxyz").cps.toList (j : Int) = some c := by
  have hl : (PySem.Str.ofString "abcdefghijklmnopqrstuvwxyz").cps.toList.length = 26 := by decide +kernel
  exact ⟨_, atI_nat (j := j) (List.getElem?_eq_getElem (by rw [hl]; exact h))⟩
theorem has_Wd (bt : Bt mg) (d : At K mg "_law_word" 24) : Has P w K mg base 1 "_law_word" ["_law_number"] spWd := by
  refine has_of d scWd (fun vs H Q E h => ?_) (fun _ _ _ _ _ _ us hl => match us, hl with | [_], _ => rfl) (fun f cdv A0 outer s H vs Q E hr h => ?_)
  · obtain ⟨n, rfl, _⟩ := h
    rfl
  obtain ⟨n, rfl, q⟩ := h
  refine ⟨_, pss_cons (ps_set (i := 1) scWd.nd rfl (Or.inl rfl) pe_str)
    (pss_cons (ps_for PassesOwn.never rfl (pi_range1 rfl bt.range (pa_cons pe_int pa_nil)) (pg_name (i := 2) scWd.nd rfl (Or.inl rfl))
      (pss_cons (ps_if (pt_cmpR op_lt (pv 0) pe_int (nomark _)) (pss_one ps_break) pss_nil)
      (pss_cons (ps_set (i := 1) scWd.nd rfl (Or.inl rfl) (pe_op op_add_str (pe_ix ix_str pe_str (pe_op op_mod (pe_callTy call_int1 rfl bt.int (by decide +kernel) (pa_cons (pe_op op_sub (pv 0) pe_int) pa_nil)) pe_int) (fun _ _ => rfl)) (pv 1)))
      (pss_one (ps_set (i := 0) scWd.nd rfl (Or.inl rfl) (pe_op op_fdiv (pe_op op_sub (pv 0) pe_int) pe_int))))))
    (pss_one (ps_ret (pv 1)))), ?_⟩
  refine ⟨60, rfl, by decide, by decide, ?_⟩
  refine for_range (fun i σ H' => H' = H ∧ ∃ (m : Int) (z : Str) (y : Option V), σ = [some (.int m), some (.str z), y] ∧ z.length ≤ i) ⟨rfl, n, _, none, rfl, Nat.le_refl _⟩ (fun i σ H' hi p => ?_) fun σ H' p => ?_
  · obtain ⟨rfl, m, z, y, rfl, hz⟩ := p
    have hi' : i < 60 := hi
    refine ⟨_, rfl, m, 1, rfl, rfl, _, rfl, ?_⟩
    refine ite2 (fun e => ?_) (fun e => ?_)
    · exact ⟨_, rfl, q z⟩
    · have h1 := Int.emod_nonneg (m - 1) (show (26 : Int) ≠ 0 by decide)
      have h2 := Int.emod_lt_of_pos (m - 1) (show (0 : Int) < 26 by decide)
      obtain ⟨c, hc⟩ := letter ((m - 1) % 26).toNat (by omega)
      rw [Int.toNat_of_nonneg h1] at hc
      refine ⟨_, rfl, m, 1, rfl, rfl, .inl ⟨_, rfl, _, 26, rfl, rfl, (show (0 : Int) < 26 from by decide), ?_⟩⟩
      refine ⟨_, _, c, rfl, rfl, by decide +kernel, hc, _, rfl, _, z, rfl, rfl, ?_, ?_⟩
      · show 1 + z.length ≤ sizeLine
        exact szl (by omega)
      · refine ⟨_, rfl, m, 1, rfl, rfl, _, 26, rfl, rfl, ⟨by decide, by decide⟩, rfl, _, _, _, rfl, ?_⟩
        have hz' : z.cps.size ≤ i := hz
        show (#[c] ++ z.cps).size ≤ i + 1
        rw [Array.size_append]
        show 1 + z.cps.size ≤ i + 1
        omega
  · obtain ⟨rfl, m, z, y, rfl, hz⟩ := p
    exact ⟨_, rfl, q z⟩
/-! ### _law_own -/
theorem scOw : FnScope ["_law_web_here", "_law_house", "_law_contracts", "_law_c"] ["_law_web_here", "_law_house", "_law_contracts"] (defScope (top 33)) := ⟨rfl, rfl, rfl, by decide +kernel, rfl, by decide +kernel, by decide +kernel⟩
def ownP (W : Web) (h c : Nat) : Bool := slOf W c == h || buOf W c == h
def spOw (K : PySem.W.Frag) : Sp := fun vs H Q _ => ∃ (v : V) (W : Web) (h : Nat) (a : Addr) (l : List Nat), vs = [v, nv h, .ref a] ∧ Is H (encWeb W) v ∧ NT H a l ∧ (∀ c ∈ l, c < W.cs.length) ∧ l.length ≤ 1000 ∧
  ∀ H' p, Same H H' → NT H' p (l.filter (ownP W h)) → Q (.ref p) H'
theorem con_at {H : Hp} {cs : List Con} {cxs : List V} (h : IsAll H (cs.map encCon) cxs) {n : Nat} (hn : n < cs.length) : ∃ ta, cxs[n]? = some (.ref ta) ∧ H ta = some (.tup [nv cs[n].s, nv cs[n].b, .int cs[n].p]) := by
  have e := List.getElem?_eq_getElem hn
  obtain ⟨x, h1, h2⟩ := h.get (i := n) (t := encCon cs[n]) (by rw [List.getElem?_map, e]; rfl)
  obtain ⟨a, rfl, h3⟩ := is_con.mp h2
  exact ⟨a, h1, h3⟩
theorem has_Ow (bt : Bt mg) (d : At K mg "_law_own" 33) : Has P w K mg base 1 "_law_own" ["_law_web_here", "_law_house", "_law_contracts"] (spOw K) := by
  refine has_of d scOw (fun vs H Q E h => ?_) (fun _ _ _ _ _ _ us hl => match us, hl with | [_, _, _], _ => rfl) (fun f cdv A0 outer s H vs Q E hr h => ?_)
  · obtain ⟨v, W, h, a, l, rfl, _⟩ := h
    rfl
  obtain ⟨v, W, h, a, l, rfl, hW, ha, hb, hl, q⟩ := h
  refine ⟨_, pss_one (ps_ret (pe_callTy call_tuple_of rfl bt.tuple (by decide +kernel) (pa_cons (pe_lc (own := [("_law_c", 3)]) (g := gName 3) rfl scOw.nd (pi_tup (pv 2)) (blkOk_by (N := ["_law_web_here", "_law_house", "_law_contracts", "_law_c"]) (sc := defScope (top 33)) (by decide +kernel))
    (fun _ _ _ _ _ => pg_name (i := 3) scOw.nd rfl (.inl rfl))
    (fun _ _ _ _ _ => pts_one (pt_cmpR (r := rIn K false) op_in_seq (pv 1) (pe_slice (r := rSlA K) sl_tupA (pe_ix (r := rIxT K) ix_tup (pe_ix (r := rIxT K) ix_tup (pv 0) pe_int (fun _ _ => rfl)) (pv 3) (fun _ _ => rfl)) po_none (po_some pe_int)) rfl)) (fun _ _ _ _ _ => pv 3)) pa_nil))), ?_⟩
  obtain ⟨wa, hb', ca, rfl, hwa, _, ys, hc, hys⟩ := is_web.mp hW
  refine ⟨.ref a, rfl, a, rfl, ⟨_, ha.sq⟩, fun D nD => ?_⟩
  refine lc_filt (G := Over H D) (l := l) (enc := nv) (itOf_tup fun H' g => Same.sqt g.2 ha.sq) (ownP W h) nv (Over.start nD _) (fun H' ys g => g.put ys) (szk (by omega)) (fun _ _ => rfl) (fun n zs H2 Q1 hn g eD k => ?_) (fun n ys H2 Q2 hn _ g eD k => ⟨_, rfl, k H2 g eD⟩) fun H' g eD => ⟨D, _, rfl, .inl ⟨SqL.of eD, fun p np => q _ p (g.2.trans (same_new _ np)) upd_same⟩⟩
  have hlt := hb n hn
  obtain ⟨ta, t1, t2⟩ := con_at hys hlt
  refine ⟨_, rfl, _, rfl, wa, _, 1, .ref ca, rfl, rfl, SqT.of (g.2 _ _ hwa), atI_nat (j := 1) rfl, _, rfl, ca, ys, n, .ref ta, rfl, rfl, SqT.of (g.2 _ _ hc), atI_nat (j := n) t1, 2, rfl, ta, _, rfl, SqT.of (g.2 _ _ t2), fun z => ?_, fun _ r nr => ?_⟩
  · exact absurd (show (2 : Nat) = 3 from z.2) (by decide)
  · have s3 := same_new (.tup [nv W.cs[n].s, nv W.cs[n].b]) nr
    refine ⟨r, [nv W.cs[n].s, nv W.cs[n].b], rfl, .inr (SqT.of upd_same), rfl, rfl, _, rfl, ?_⟩
    have e : inV (nv h) [nv W.cs[n].s, nv W.cs[n].b] = ownP W h n := by
      rw [show [nv W.cs[n].s, nv W.cs[n].b] = [W.cs[n].s, W.cs[n].b].map nv from rfl, inV_nv]
      unfold ownP
      rw [(sl_get hlt).2, (bu_get hlt).2, Bool.eq_iff_iff, List.contains_iff_mem]
      simp only [List.mem_cons, List.not_mem_nil, or_false, Bool.or_eq_true, beq_iff_eq]
      constructor <;> rintro (h | h) <;> first | exact .inl h.symm | exact .inr h.symm
    show Q1 (inV (nv h) [nv W.cs[n].s, nv W.cs[n].b]) _
    rw [e]
    exact k _ ⟨g.1, g.2.trans s3⟩ (s3 _ _ eD)
/-! ### _law_both -/
theorem scBo : FnScope ["_law_one", "_law_other"] ["_law_one", "_law_other"] (defScope (top 35)) := ⟨rfl, rfl, rfl, by decide +kernel, rfl, by decide +kernel, by decide +kernel⟩
def spBo (K : PySem.W.Frag) : Sp := fun vs H Q _ => ∃ (a b : Addr) (l m : List Nat), vs = [.ref a, .ref b] ∧ NT H a l ∧ NT H b m ∧ l.length + m.length ≤ 40 ∧
  ∀ H' p r, Same H H' → NT H' p r → (∀ c, c ∈ r ↔ c ∈ l ∨ c ∈ m) → r.length ≤ 60 → Q (.ref p) H'
theorem has_Bo (bt : Bt mg) (d : At K mg "_law_both" 35) : Has P w K mg base 1 "_law_both" ["_law_one", "_law_other"] (spBo K) := by
  refine has_of d scBo (fun vs H Q E h => ?_) (fun _ _ _ _ _ _ us hl => match us, hl with | [_, _], _ => rfl) (fun f cdv A0 outer s H vs Q E hr h => ?_)
  · obtain ⟨a, b, l, m, rfl, _⟩ := h
    rfl
  obtain ⟨a, b, l, m, rfl, ha, hb, hl, q⟩ := h
  refine ⟨_, pss_one (ps_ret (pe_callTy call_tuple_of rfl bt.tuple (by decide +kernel) (pa_cons (pe_callB (cr_sortedSet rfl) rfl bt.sorted (by decide +kernel) (pa_cons (pe_callTy (cr_setTup rfl) rfl bt.set (by decide +kernel) (pa_cons (pe_op op_catA (pv 0) (pv 1)) pa_nil)) pa_nil)) pa_nil))), ?_⟩
  have fin : ∀ (H1 : Hp) (p : Addr), Same H H1 → NT H1 p (l ++ m) → (rSetTup K w) [.ref p] H1 fun x H2 => (rSortedSet w) [x] H2 fun y H3 => ∃ p ys, [y] = [V.ref p] ∧ ((SqL K H3 p ys ∧ ∀ l, H3 l = none → Q (.ref l) (upd H3 l (.tup ys))) ∨ (SqT K H3 p ys ∧ Q (.ref p) H3)) := fun H1 p s1 e1 => by
    refine ⟨p, (l ++ m).map fun n : Nat => (n : Int), rfl, ?_, by rw [List.length_map, List.length_append]; omega, fun a2 c n2 hc => ?_⟩
    · rw [List.map_map]
      exact SqT.of e1
    rw [List.length_map, List.length_append] at hc
    refine ⟨a2, _, c, rfl, upd_same, by omega, fun ns p3 hs hk hlen n3 => ?_⟩
    have nn : ∀ x ∈ ns, 0 ≤ x := fun x hx => by
      have := (hk x).mp hx
      have := of_decide_eq_true this
      obtain ⟨n, _, rfl⟩ := List.mem_map.mp this
      omega
    have en : ns.map V.int = (ns.map Int.toNat).map nv := by
      rw [List.map_map]
      refine List.map_congr_left fun x hx => ?_
      show V.int x = V.int ((x.toNat : Nat) : Int)
      rw [Int.toNat_of_nonneg (nn x hx)]
    refine ⟨p3, _, rfl, .inl ⟨SqL.of upd_same, fun p4 n4 => ?_⟩⟩
    refine q _ p4 (ns.map Int.toNat) (((s1.trans (same_new _ n2)).trans (same_new _ n3)).trans (same_new _ n4)) ?_ (fun c => ?_) ?_
    · show upd _ _ _ _ = _
      rw [upd_same, en]
    · rw [List.mem_map]
      constructor
      · rintro ⟨x, hx, rfl⟩
        have := of_decide_eq_true ((hk x).mp hx)
        obtain ⟨n, hn, rfl⟩ := List.mem_map.mp this
        rw [Int.toNat_natCast]
        exact List.mem_append.mp hn
      · intro h
        refine ⟨(c : Int), (hk _).mpr (decide_eq_true (List.mem_map.mpr ⟨c, List.mem_append.mpr h, rfl⟩)), Int.toNat_natCast c⟩
    · rw [List.length_map, hlen]
      omega
  refine ⟨_, rfl, _, rfl, a, b, _, _, rfl, rfl, ha.sq, hb.sq, ?_, fun e => ?_, fun e1 e2 => ?_, fun e1 e2 p np => ?_⟩
  · rw [List.length_map, List.length_map]
    exact szl (by omega)
  · refine fin H b (Same.refl H) ?_
    rw [List.map_eq_nil_iff.mp e]
    exact hb
  · refine fin H a (Same.refl H) ?_
    rw [List.map_eq_nil_iff.mp e2, List.append_nil]
    exact ha
  · refine fin _ p (same_new _ np) ?_
    show upd _ _ _ _ = _
    rw [upd_same, List.map_append]
/-! ### _law_network_of -/
theorem scLn : FnScope ["_law_web_here", "_law_stand"] ["_law_web_here"] (defScope (top 37)) := ⟨rfl, rfl, rfl, by decide +kernel, rfl, by decide +kernel, by decide +kernel⟩
def spLn (K : PySem.W.Frag) : Sp := fun vs H Q _ => ∃ (v : V) (W : Web) (M : Mkt), vs = [v] ∧ Is H (encWeb W) v ∧ WFW W ∧ Fits W M ∧ Tabs (Tt K) H ∧
  ∀ H' p (O A : List Nat), Xt (Tt K) H H' → NT H' p (O.filter A.contains) → Can W.cs.length O → M.Greatest O.contains A.contains → Q (.ref p) H'
theorem has_Ln (hbe : Has P w K mg base 8 "best_for_buyers" ["web"] (spBe K)) (hnw : Has P w K mg base 2 "network_of" ["stand"] (spNw K)) (d : At K mg "_law_network_of" 37) : Has P w K mg base 9 "_law_network_of" ["_law_web_here"] (spLn K) := by
  obtain ⟨fB, fdB, GB, gB, kB, bB⟩ := hbe.ex
  obtain ⟨fN, fdN, GN, gN, kN, bN⟩ := (hnw.up (k := 8) (by decide)).ex
  refine has_of d scLn (fun vs H Q E h => ?_) (fun _ _ _ _ _ _ us hl => match us, hl with | [_], _ => rfl) (fun f cdv A0 outer s H vs Q E hr h => ?_)
  · obtain ⟨v, W, M, rfl, _⟩ := h
    rfl
  obtain ⟨v, W, M, rfl, hW, wf, F, tb, q⟩ := h
  refine ⟨_, pss_cons (ps_set (i := 1) scLn.nd rfl (Or.inl rfl) (pe_call GB hr rfl gB kB bB .nil pass0 (pa_cons (pv 0) pa_nil))) (pss_one (ps_ret (pe_call GN hr rfl gN kN bN .nil pass0 (pa_cons (pv 1) pa_nil)))), ?_⟩
  have hn := wf.n
  refine ⟨_, rfl, v, W, M, rfl, hW, wf, F, tb, fun H1 r O A x1 st cO gr => ⟨_, rfl, r, O, A, rfl, st, Nat.le_trans cO.len (by omega), fun H2 p s2 e2 => q H2 p O A (x1.same s2) e2 cO gr⟩⟩
end
end KW

namespace KW
open PySem PySem.Spec PyProof.Rows L2 K39 LamX
section
variable {P : Program} {w : World} {K : PySem.W.Frag} {mg : Str → Option Value} {base : Heap}
/-! ### _law_chosen_by, of makers and sides -/
theorem scLc : FnScope ["_law_contracts", "_law_choice_here", "_law_offered", "_law_kind", "_law_taken", "_law_part", "_law_row", "_law_c", "_law_buys", "_law_sells", "_law_k"] ["_law_contracts", "_law_choice_here", "_law_offered"] (defScope (top 27)) := ⟨rfl, rfl, rfl, by decide +kernel, rfl, by decide +kernel, by decide +kernel⟩
def lawC (p : PCh) (m : List Nat) : List Nat := srt (p.chosen (fun _ => 0) m.contains)
/-- a maker or a house of sides, its lists known or not -/
def IsMS (K : PySem.W.Frag) (H : Hp) (p : PCh) (v : V) : Prop := match p with
  | .maker room ups downs => ∃ a u d, v = .ref a ∧ H a = some (.tup [.str "maker", nv room, .ref u, .ref d]) ∧ SqT K H u (ups.map nv) ∧ SqT K H d (downs.map nv)
  | .sides r1 ups r2 downs => ∃ a u d, v = .ref a ∧ H a = some (.tup [.str "sides", nv r1, .ref u, nv r2, .ref d]) ∧ SqT K H u (ups.map nv) ∧ SqT K H d (downs.map nv)
  | _ => False
theorem isMS_of {K : PySem.W.Frag} {H : Hp} {p : PCh} {v : V} {l : List Nat × List Nat} (h : Is H (encP p) v) (e : two p = some l) : IsMS K H p v := by
  cases p with
  | maker room u d =>
    obtain ⟨a, ua, da, e, h1, hu, hd⟩ := is_maker.mp h
    exact ⟨a, ua, da, e, h1, hu.sq, hd.sq⟩
  | sides k1 u k2 d =>
    obtain ⟨a, ua, da, e, h1, hu, hd⟩ := is_sides.mp h
    exact ⟨a, ua, da, e, h1, hu.sq, hd.sq⟩
  | table rows => cases e
  | trader room cost u d => cases e
  | caps u ug d dg => cases e
def spLc (K : PySem.W.Frag) : Sp := fun vs H Q _ => ∃ (cv v : V) (b : Addr) (p : PCh) (ups downs m : List Nat), vs = [cv, v, .ref b] ∧ IsMS K H p v ∧ two p = some (ups, downs) ∧ ups.length ≤ 100 ∧ downs.length ≤ 100 ∧ NumSeq K H b m ∧
  ∀ H' q, Same H H' → NT H' q (lawC p m) → Q (.ref q) H'
theorem has_Lc (bt : Bt mg) (d : At K mg "_law_chosen_by" 27) : Has P w K mg base 1 "_law_chosen_by" ["_law_contracts", "_law_choice_here", "_law_offered"] (spLc K) := by
  refine has_of d scLc (fun vs H Q E h => ?_) (fun _ _ _ _ _ _ us hl => match us, hl with | [_, _, _], _ => rfl) (fun f cdv A0 outer s H vs Q E hr h => ?_)
  · obtain ⟨cv, v, b, p, ups, downs, m, rfl, _⟩ := h
    rfl
  obtain ⟨cv, v, b, p, ups, downs, m, rfl, hv, e2, lu, ld, hb, q⟩ := h
  refine ⟨_, pss_cons (ps_set (i := 3) scLc.nd rfl (.inl rfl) (pe_ix ix_tup (pv 1) pe_int (fun _ _ => rfl)))
    (pss_cons (ps_if (pt_cmpR op_eq (pv 3) pe_str (nomark _)) pss_never pss_nil)
    (pss_cons (ps_if (pt_cmpR op_eq (pv 3) pe_str (nomark _)) pss_never pss_nil)
    (pss_cons (ps_if (pt_cmpR op_eq (pv 3) pe_str (nomark _)) pss_never pss_nil)
    (pss_cons (ps_if (pt_cmpR op_eq (pv 3) pe_str (nomark _)) pss_never pss_nil)
    (pss_cons (ps_setLc (i := 8) (own := [("_law_c", 7)]) (g := gName 7) rfl scLc.nd rfl rfl (sw_true rfl rfl rfl (by decide +kernel)) (pi_tup (pe_ix ix_tup (pv 1) pe_int (fun _ _ => rfl)))
        (blkOk_by (N := ["_law_contracts", "_law_choice_here", "_law_offered", "_law_kind", "_law_taken", "_law_part", "_law_row", "_law_c", "_law_buys", "_law_sells", "_law_k"]) (sc := defScope (top 27)) (by decide +kernel))
        (fun _ _ _ _ _ => pg_name (i := 7) scLc.nd rfl (.inl rfl)) (fun _ _ _ _ _ => pts_one (pt_cmpR (r := rIn K false) op_in_seq (pv 7) (pv 2) rfl)) (fun _ _ _ _ _ => pv 7))
    (pss_cons (ps_setLc (i := 9) (own := [("_law_c", 7)]) (g := gName 7) rfl scLc.nd rfl rfl (sw_true rfl rfl rfl (by decide +kernel)) (pi_tup (pe_ix ix_tup (pv 1) (pe_un un_neg pe_int) (fun _ _ => rfl)))
        (blkOk_by (N := ["_law_contracts", "_law_choice_here", "_law_offered", "_law_kind", "_law_taken", "_law_part", "_law_row", "_law_c", "_law_buys", "_law_sells", "_law_k"]) (sc := defScope (top 27)) (by decide +kernel))
        (fun _ _ _ _ _ => pg_name (i := 7) scLc.nd rfl (.inl rfl)) (fun _ _ _ _ _ => pts_one (pt_cmpR (r := rIn K false) op_in_seq (pv 7) (pv 2) rfl)) (fun _ _ _ _ _ => pv 7))
    (pss_cons (ps_if (pt_cmpR op_eq (pv 3) pe_str (nomark _)) (pss_cons (ps_set (i := 10) scLc.nd rfl (.inl rfl) (pe_callB (call_minL3 rfl) rfl bt.min (by decide +kernel) (pa_cons (pe_lst (pa_cons (pe_ix ix_tup (pv 1) pe_int (fun _ _ => rfl)) (pa_cons (pe_callB (r := rLenS K) call_len_seq rfl bt.len (by decide +kernel) (pa_cons (pv 8) pa_nil)) (pa_cons (pe_callB (r := rLenS K) call_len_seq rfl bt.len (by decide +kernel) (pa_cons (pv 9) pa_nil)) pa_nil)))) pa_nil)))
        (pss_one (ps_ret (pe_callTy call_tuple_of rfl bt.tuple (by decide +kernel) (pa_cons (pe_callB (r := rSrt K) cr_srt rfl bt.sorted (by decide +kernel) (pa_cons (pe_op op_cat (pe_slice sl_list (pv 8) po_none (po_some (pv 10))) (pe_slice sl_list (pv 9) po_none (po_some (pv 10)))) pa_nil)) pa_nil))))) pss_nil)
    (pss_one (ps_ret (pe_callTy call_tuple_of rfl bt.tuple (by decide +kernel) (pa_cons (pe_callB (r := rSrt K) cr_srt rfl bt.sorted (by decide +kernel) (pa_cons (pe_op op_cat (pe_slice sl_list (pv 8) po_none (po_some (pe_ix ix_tup (pv 1) pe_int (fun _ _ => rfl)))) (pe_slice sl_list (pv 9) po_none (po_some (pe_ix ix_tup (pv 1) pe_int (fun _ _ => rfl))))) pa_nil)) pa_nil))))))))))), ?_⟩
  have filt : ∀ {σ : L2.St} {G1 : Hp} {Qd : Addr → Hp → Prop} {ta : Addr} {l : List Nat} (e7 : ∀ n : Nat, wipe ((wipe σ [7]).set 7 (some (nv n))) [7] = wipe σ [7]) (h7 : ∀ n : Nat, ((wipe σ [7]).set 7 (some (nv n)))[7]? = some (some (nv n))) (h2 : ∀ n : Nat, ((wipe σ [7]).set 7 (some (nv n)))[2]? = some (some (.ref b))) (s1 : Same H G1) (ht : SqT K G1 ta (l.map nv)) (hl : l.length ≤ 100)
      (k : ∀ D G2, Same G1 G2 → G2 D = some (.lst ((l.filter m.contains).map nv)) → Qd D G2), ∀ D, G1 D = none → LcGoal (Itt K ta) (gName 7) (tTest (tOp (rIn K false) (tVar 7) (tVar 2))) (tVar 7) [7] σ G1 D (Qd D) := by
    intro σ G1 Qd ta l e7 h7 h2 s1 ht hl k D nD
    refine lc_filt (G := Over G1 D) (l := l) (enc := nv) (itOf_tup fun H' g => Same.sqt g.2 ht) m.contains nv (Over.start nD _) (fun H' ys g => g.put ys) (szk (by omega)) (fun n _ => e7 n) (fun n zs H2 Q1 hn g eD k => ?_) (fun n ys H2 Q2 hn _ g eD k => ⟨_, h7 n, k H2 g eD⟩) fun H' g eD => k D H' g.2 eD
    refine ⟨_, h7 n, _, h2 n, b, m.map nv, rfl, NumSeq.same (s1.trans g.2) hb, rfl, flat_nvs m, ?_⟩
    show ∃ c, V.bl (inV (nv n) (m.map nv)) = .bl c ∧ Q1 c H2
    rw [inV_nv]
    exact ⟨_, rfl, k H2 g eD⟩
  cases p with
  | maker room u d =>
    cases e2
    obtain ⟨a, ua, da, rfl, h1, hu, hd⟩ := hv
    refine ⟨_, rfl, a, _, 0, _, rfl, rfl, SqT.of h1, atI_nat (j := 0) rfl, _, rfl, rfl, _, rfl, ?_⟩
    refine iteF ⟨_, rfl, rfl, _, rfl, ?_⟩
    refine iteF ⟨_, rfl, rfl, _, rfl, ?_⟩
    refine iteF ⟨_, rfl, rfl, _, rfl, ?_⟩
    refine iteF ⟨_, rfl, a, _, 2, .ref ua, rfl, rfl, SqT.of h1, atI_nat (j := 2) rfl, ua, rfl, ⟨_, hu⟩, ?_⟩
    refine filt (l := ups) (fun _ => rfl) (fun _ => rfl) (fun _ => rfl) (Same.refl H) hu lu fun D1 G1 s1 eD1 => ?_
    refine ⟨_, rfl, 1, rfl, a, _, -1, .ref da, rfl, rfl, SqT.of (s1 _ _ h1), rfl, da, rfl, ⟨_, Same.sqt s1 hd⟩, ?_⟩
    refine filt (l := downs) (fun _ => rfl) (fun _ => rfl) (fun _ => rfl) s1 (Same.sqt s1 hd) ld fun D2 G2 s2 eD2 => ?_
    have s12 := s1.trans s2
    have eD1' := s2 _ _ eD1
    have l3 := List.length_filter_le m.contains ups
    have l4 := List.length_filter_le m.contains downs
    refine ⟨_, rfl, rfl, _, rfl, ?_⟩
    refine iteT ⟨_, rfl, a, _, 1, nv room, rfl, rfl, SqT.of (s12 _ _ h1), atI_nat (j := 1) rfl, _, rfl, D1, _, rfl, .inl (SqL.of eD1'), _, rfl, D2, _, rfl, .inl (SqL.of eD2), (by show 3 ≤ sizeLine; decide), fun lm nm => ?_⟩
    rw [List.length_map, List.length_map]
    refine ⟨lm, _, _, _, _, rfl, SqL.of upd_same, min3 _ _ _, ?_⟩
    have s3 := same_new (.lst [nv room, .int ((ups.filter m.contains).length : Nat), .int ((downs.filter m.contains).length : Nat)]) nm
    generalize hk : min room (min (ups.filter m.contains).length (downs.filter m.contains).length) = k
    refine ⟨_, rfl, _, rfl, _, rfl, D1, _, rfl, SqL.of (s3 _ _ eD1'), fun p4 n4 => ?_⟩
    have s4 := same_new (.lst (cutV ((ups.filter m.contains).map nv) none (some (k : Int)))) n4
    refine ⟨_, rfl, _, rfl, _, rfl, D2, _, rfl, SqL.of (s4 _ _ (s3 _ _ eD2)), fun p5 n5 => ?_⟩
    have s5 := same_new (.lst (cutV ((downs.filter m.contains).map nv) none (some (k : Int)))) n5
    refine ⟨p4, p5, _, _, rfl, rfl, s5 _ _ upd_same, upd_same, ?_, fun p6 n6 => ?_⟩
    · rw [cut_take, cut_take, List.length_take, List.length_take, List.length_map, List.length_map]
      exact szl (by omega)
    refine ⟨p6, (ups.filter m.contains).take k ++ (downs.filter m.contains).take k, rfl, SqL.of ?_, fun p7 n7 => ⟨p7, _, rfl, .inl ⟨SqL.of upd_same, fun p8 n8 => ?_⟩⟩⟩
    · rw [upd_same, cut_take, cut_take, ← List.map_take, ← List.map_take, ← List.map_append]
    · refine q _ p8 ((((((s12.trans s3).trans s4).trans s5).trans (same_new _ n6)).trans (same_new _ n7)).trans (same_new _ n8)) ?_
      show upd _ _ _ _ = _
      rw [upd_same, ← hk]
      rfl
  | sides k1 u k2 d =>
    cases e2
    obtain ⟨a, ua, da, rfl, h1, hu, hd⟩ := hv
    refine ⟨_, rfl, a, _, 0, _, rfl, rfl, SqT.of h1, atI_nat (j := 0) rfl, _, rfl, rfl, _, rfl, ?_⟩
    refine iteF ⟨_, rfl, rfl, _, rfl, ?_⟩
    refine iteF ⟨_, rfl, rfl, _, rfl, ?_⟩
    refine iteF ⟨_, rfl, rfl, _, rfl, ?_⟩
    refine iteF ⟨_, rfl, a, _, 2, .ref ua, rfl, rfl, SqT.of h1, atI_nat (j := 2) rfl, ua, rfl, ⟨_, hu⟩, ?_⟩
    refine filt (l := ups) (fun _ => rfl) (fun _ => rfl) (fun _ => rfl) (Same.refl H) hu lu fun D1 G1 s1 eD1 => ?_
    refine ⟨_, rfl, 1, rfl, a, _, -1, .ref da, rfl, rfl, SqT.of (s1 _ _ h1), rfl, da, rfl, ⟨_, Same.sqt s1 hd⟩, ?_⟩
    refine filt (l := downs) (fun _ => rfl) (fun _ => rfl) (fun _ => rfl) s1 (Same.sqt s1 hd) ld fun D2 G2 s2 eD2 => ?_
    have s12 := s1.trans s2
    have eD1' := s2 _ _ eD1
    have l3 := List.length_filter_le m.contains ups
    have l4 := List.length_filter_le m.contains downs
    refine ⟨_, rfl, rfl, _, rfl, ?_⟩
    refine iteF ⟨_, rfl, _, rfl, a, _, 1, nv k1, rfl, rfl, SqT.of (s12 _ _ h1), atI_nat (j := 1) rfl, _, rfl, D1, _, rfl, SqL.of eD1', fun p4 n4 => ?_⟩
    have s4 := same_new (.lst (cutV ((ups.filter m.contains).map nv) none (some (k1 : Int)))) n4
    refine ⟨_, rfl, _, rfl, a, _, 3, nv k2, rfl, rfl, SqT.of (s4 _ _ (s12 _ _ h1)), atI_nat (j := 3) rfl, _, rfl, D2, _, rfl, SqL.of (s4 _ _ eD2), fun p5 n5 => ?_⟩
    have s5 := same_new (.lst (cutV ((downs.filter m.contains).map nv) none (some (k2 : Int)))) n5
    refine ⟨p4, p5, _, _, rfl, rfl, s5 _ _ upd_same, upd_same, ?_, fun p6 n6 => ?_⟩
    · rw [cut_take, cut_take, List.length_take, List.length_take, List.length_map, List.length_map]
      exact szl (by omega)
    refine ⟨p6, (ups.filter m.contains).take k1 ++ (downs.filter m.contains).take k2, rfl, SqL.of ?_, fun p7 n7 => ⟨p7, _, rfl, .inl ⟨SqL.of upd_same, fun p8 n8 => ?_⟩⟩⟩
    · rw [upd_same, cut_take, cut_take, ← List.map_take, ← List.map_take, ← List.map_append]
    · refine q _ p8 (((((s12.trans s4).trans s5).trans (same_new _ n6)).trans (same_new _ n7)).trans (same_new _ n8)) ?_
      show upd _ _ _ _ = _
      rw [upd_same]
      rfl
  | table rows => cases e2
  | trader room cost u d => cases e2
  | caps u ug d dg => cases e2
end
end KW

namespace KW
open PySem PySem.Spec PyProof.Rows L2 K39 LamX
def setsL (l : List Nat) : List (List Nat) := l.foldl (fun F c => F ++ F.map (· ++ [c])) [[]]
theorem setsL_snoc (l : List Nat) (c : Nat) : setsL (l ++ [c]) = setsL l ++ (setsL l).map (· ++ [c]) := by
  unfold setsL
  rw [List.foldl_append]
  rfl
theorem snoc_ind {p : List Nat → Prop} (h0 : p []) (h1 : ∀ l c, p l → p (l ++ [c])) (l : List Nat) : p l := by
  have : p l.reverse.reverse := by
    induction l.reverse with
    | nil => exact h0
    | cons a l ih =>
      rw [List.reverse_cons]
      exact h1 _ _ ih
  rwa [List.reverse_reverse] at this
theorem setsL_len (l : List Nat) : (setsL l).length = 2 ^ l.length := by
  refine snoc_ind (p := fun l => (setsL l).length = 2 ^ l.length) rfl (fun l c ih => ?_) l
  rw [setsL_snoc, List.length_append, List.length_map, ih, List.length_append, List.length_singleton, Nat.pow_succ]
  omega
theorem setsL_sub (l : List Nat) : ∀ r ∈ setsL l, r.length ≤ l.length ∧ ∀ c ∈ r, c ∈ l := by
  refine snoc_ind (p := fun l => ∀ r ∈ setsL l, r.length ≤ l.length ∧ ∀ c ∈ r, c ∈ l) (fun r hr => ?_) (fun l c ih r hr => ?_) l
  · have : r = [] := List.mem_singleton.mp hr
    subst this
    exact ⟨Nat.le_refl _, fun c h => h⟩
  · rw [setsL_snoc] at hr
    rcases List.mem_append.mp hr with h | h
    · obtain ⟨h1, h2⟩ := ih r h
      exact ⟨by rw [List.length_append]; omega, fun b hb => List.mem_append_left _ (h2 b hb)⟩
    · obtain ⟨z, hz, rfl⟩ := List.mem_map.mp h
      obtain ⟨h1, h2⟩ := ih z hz
      refine ⟨by rw [List.length_append, List.length_append]; simp only [List.length_singleton]; omega, fun b hb => ?_⟩
      rcases List.mem_append.mp hb with q | q
      · exact List.mem_append_left _ (h2 b q)
      · exact List.mem_append_right _ q
theorem setsL_filter (l : List Nat) (Y : CS) : l.filter Y ∈ setsL l := by
  refine snoc_ind (p := fun l => l.filter Y ∈ setsL l) (List.mem_singleton.mpr rfl) (fun l c ih => ?_) l
  rw [setsL_snoc, List.filter_append, List.filter_cons, List.filter_nil]
  by_cases h : Y c = true
  · rw [if_pos h]
    exact List.mem_append_right _ (List.mem_map.mpr ⟨_, ih, rfl⟩)
  · rw [if_neg h, List.append_nil]
    exact List.mem_append_left _ ih
section
variable {P : Program} {w : World} {K : PySem.W.Frag} {mg : Str → Option Value} {base : Heap}
/-! ### _law_choose -/
theorem scLh : FnScope ["_law_web_here", "_law_house", "_law_offered"] ["_law_web_here", "_law_house", "_law_offered"] (defScope (top 34)) := ⟨rfl, rfl, rfl, by decide +kernel, rfl, by decide +kernel, by decide +kernel⟩
def spLh (K : PySem.W.Frag) : Sp := fun vs H Q _ => ∃ (v : V) (W : Web) (h : Nat) (a : Addr) (l : List Nat) (p : PCh) (ups downs : List Nat), vs = [v, nv h, .ref a] ∧ Is H (encWeb W) v ∧ h < W.hs.length ∧ W.ch h = .plain p ∧ two p = some (ups, downs) ∧ ups.length ≤ 100 ∧ downs.length ≤ 100 ∧ NT H a l ∧ (∀ c ∈ l, c < W.cs.length) ∧ l.length ≤ 1000 ∧
  ∀ H' q, Same H H' → NT H' q (lawC p (l.filter (ownP W h))) → Q (.ref q) H'
theorem has_Lh (hlc : Has P w K mg base 1 "_law_chosen_by" ["_law_contracts", "_law_choice_here", "_law_offered"] (spLc K)) (how : Has P w K mg base 1 "_law_own" ["_law_web_here", "_law_house", "_law_contracts"] (spOw K)) (d : At K mg "_law_choose" 34) : Has P w K mg base 2 "_law_choose" ["_law_web_here", "_law_house", "_law_offered"] (spLh K) := by
  obtain ⟨fC, fdC, GC, gC, kC, bC⟩ := hlc.ex
  obtain ⟨fO, fdO, GO, gO, kO, bO⟩ := how.ex
  refine has_of d scLh (fun vs H Q E h => ?_) (fun _ _ _ _ _ _ us hl => match us, hl with | [_, _, _], _ => rfl) (fun f cdv A0 outer s H vs Q E hr h => ?_)
  · obtain ⟨v, W, h, a, l, p, ups, downs, rfl, _⟩ := h
    rfl
  obtain ⟨v, W, h, a, l, p, ups, downs, rfl, hW, hh, hp, e2, lu, ld, ha, hb, hl, q⟩ := h
  refine ⟨_, pss_one (ps_ret (pe_call GC hr rfl gC kC bC .nil pass0 (pa_cons (pe_ix ix_tup (pv 0) pe_int (fun _ _ => rfl)) (pa_cons (pe_ix ix_tup (pe_ix ix_tup (pe_ix ix_tup (pv 0) pe_int (fun _ _ => rfl)) (pv 1) (fun _ _ => rfl)) pe_int (fun _ _ => rfl))
    (pa_cons (pe_call GO hr rfl gO kO bO .nil pass0 (pa_cons (pv 0) (pa_cons (pv 1) (pa_cons (pv 2) pa_nil)))) pa_nil))))), ?_⟩
  obtain ⟨wa, hb', ca, ev, hwa, ⟨xs, hxb, hxs⟩, ys, hc, hys⟩ := is_web.mp hW
  have e := List.getElem?_eq_getElem hh
  obtain ⟨x, h1, h2⟩ := hxs.get (i := h) (t := encH W.hs[h]) (by rw [List.getElem?_map, e]; rfl)
  obtain ⟨ha2, cv, rfl, h3, h4⟩ := is_house.mp h2
  have ech : W.hs[h].ch = .plain p := by
    rw [← hp]
    unfold Web.ch
    rw [e]
  rw [ech] at h4
  subst ev
  refine ⟨_, rfl, wa, _, 1, .ref ca, rfl, rfl, SqT.of hwa, atI_nat (j := 1) rfl, _, rfl, wa, _, 0, .ref hb', rfl, rfl, SqT.of hwa, atI_nat (j := 0) rfl, _, rfl, hb', xs, h, .ref ha2, rfl, rfl, SqT.of hxb, atI_nat (j := h) h1, ha2, _, 1, cv, rfl, rfl, SqT.of h3, atI_nat (j := 1) rfl, _, rfl, _, rfl, _, rfl, ?_⟩
  refine ⟨_, W, h, a, l, rfl, hW, ha, hb, hl, fun H1 p1 s1 e1 => ?_⟩
  exact ⟨_, cv, p1, p, ups, downs, _, rfl, isMS_of (Is.k (t := encP p) h4 (Same.tk s1)) e2, e2, lu, ld, .inr (SqT.of e1), fun H2 q2 s2 e2 => q H2 q2 (s1.trans s2) e2⟩
/-! ### _law_sets -/
theorem scSs : FnScope ["_law_contracts", "_law_found", "_law_c", "_law_row"] ["_law_contracts"] (defScope (top 28)) := ⟨rfl, rfl, rfl, by decide +kernel, rfl, by decide +kernel, by decide +kernel⟩
def spSs (K : PySem.W.Frag) : Sp := fun vs H Q _ => ∃ (a : Addr) (l : List Nat), vs = [.ref a] ∧ H a = some (.lst (l.map nv)) ∧ l.length ≤ 5 ∧
  ∀ H' p rs, Same H H' → H' p = some (.lst rs) → IsAll H' ((setsL l).map nums) rs → Q (.ref p) H'
theorem pow5 {n : Nat} (h : n ≤ 5) : 2 ^ n ≤ 32 := Nat.le_trans (Nat.pow_le_pow_right (by decide) h) (by decide)
theorem has_Ss (d : At K mg "_law_sets" 28) : Has P w K mg base 1 "_law_sets" ["_law_contracts"] (spSs K) := by
  refine has_of d scSs (fun vs H Q E h => ?_) (fun _ _ _ _ _ _ us hl => match us, hl with | [_], _ => rfl) (fun f cdv A0 outer s H vs Q E hr h => ?_)
  · obtain ⟨a, l, rfl, _⟩ := h
    rfl
  obtain ⟨a, l, rfl, ha, hl, q⟩ := h
  refine ⟨_, pss_cons (ps_set (i := 1) scSs.nd rfl (.inl rfl) (pe_lst (pa_cons (pe_tup pa_nil) pa_nil)))
    (pss_cons (ps_for PassesOwn.never rfl (pi_list (pv 0)) (pg_name (i := 2) scSs.nd rfl (Or.inr rfl))
      (pss_one (ps_set (i := 1) scSs.nd rfl (.inl rfl) (pe_op op_cat (pv 1) (pe_lc (own := [("_law_row", 3)]) (g := gName 3) (tt := tYes) rfl scSs.nd (pi_list (pv 1)) (blkOk_by (N := ["_law_contracts", "_law_found", "_law_c", "_law_row"]) (sc := defScope (top 28)) (by decide +kernel))
        (fun _ _ _ _ _ => pg_name (i := 3) scSs.nd rfl (.inl rfl)) (fun _ _ _ _ _ => pts_nil) (fun _ _ _ _ _ => pe_op (r := rCatA K) op_catA (pv 3) (pe_tup (pa_cons (pv 2) pa_nil))))))))
    (pss_one (ps_ret (pv 1)))), ?_⟩
  refine ⟨(by show 0 ≤ sizeLine; decide), fun t0 nt0 => ⟨(by show 1 ≤ sizeLine; decide), fun l0 nl0 => ?_⟩⟩
  have s0 := (same_new (.tup []) nt0).trans (same_new (.lst [.ref t0]) nl0)
  refine ⟨.ref a, rfl, a, rfl, ⟨_, SqL.of (s0 _ _ ha)⟩, ?_⟩
  refine for_list (xs := l.map nv) (fun i σ H' => (∃ fa y, σ = [some (.ref a), some (.ref fa), y, none] ∧ ∃ rs, H' fa = some (.lst rs) ∧ IsAll H' ((setsL (l.take i)).map nums) rs) ∧ Same H H')
    ⟨⟨l0, none, rfl, _, upd_same, IsAll.one (is_nums.mpr ⟨t0, rfl, same_new _ nl0 _ _ upd_same⟩)⟩, s0⟩ (fun i σ H' _ p => SqL.of (p.2 _ _ ha)) (fun i x σ H' hx p => ?_) fun σ H' p => ?_
  · obtain ⟨⟨fa, y, rfl, rs, er, hrs⟩, s1⟩ := p
    obtain ⟨c, ec, rfl⟩ := map_get hx
    have et := take_snoc ec
    have hi : i < l.length := (List.getElem?_eq_some_iff.mp ec).1
    have rl : rs.length = 2 ^ i := by
      rw [hrs.length, List.length_map, setsL_len, List.length_take, Nat.min_eq_left (by omega)]
    have p5 := pow5 (n := i) (by omega)
    refine ⟨_, rfl, _, rfl, fa, rfl, ⟨_, SqL.of er⟩, fun D nD => ?_⟩
    refine lc_raw (G := Over H' D) (l := rs) (enc := id) (itOf_list fun H3 g => by rw [List.map_id]; exact SqL.of (g.2 _ _ er)) (fun k H3 => Over H' D H3 ∧ ∃ us, H3 D = some (.lst us) ∧ IsAll H3 ((((setsL (l.take i)).take k).map (· ++ [c])).map nums) us) ⟨Over.start nD _, [], upd_same, rfl⟩ (fun k H3 p => p.1) (fun k x H3 hx p => ?_) fun H3 p => ?_
    · obtain ⟨o, us, eD, hus⟩ := p
      obtain ⟨t, gt, ht⟩ := hrs.get' hx
      obtain ⟨r, er2, rfl⟩ := map_get gt
      obtain ⟨ra, rfl, hra⟩ := is_nums.mp (ht.k (Same.tk o.2))
      have etk := take_snoc er2
      have hk : k < rs.length := (List.getElem?_eq_some_iff.mp hx).1
      refine ⟨rfl, yes_of ⟨_, rfl, _, rfl, (by show 1 ≤ sizeLine; decide), fun tc ntc => ?_⟩⟩
      have sc := same_new (.tup [nv c]) ntc
      have eDc := sc _ _ eD
      have len : us.length < sizeLine := by
        rw [hus.length, List.length_map, List.length_map, List.length_take]
        exact szk (by omega)
      have rlen : r.length ≤ 5 := by
        have := (setsL_sub _ r (List.mem_of_getElem? er2)).1
        rw [List.length_take] at this
        omega
      have fin : ∀ H4 p4, Same (upd H3 tc (.tup [nv c])) H4 → NT H4 p4 (r ++ [c]) → ∃ acc, H4 D = some (.lst acc) ∧ acc.length < sizeLine ∧ Over H' D (upd H4 D (.lst (acc ++ [.ref p4]))) ∧ ∃ us, upd H4 D (.lst (acc ++ [.ref p4])) D = some (.lst us) ∧ IsAll (upd H4 D (.lst (acc ++ [.ref p4]))) ((((setsL (l.take i)).take (k + 1)).map (· ++ [c])).map nums) us := fun H4 p4 s4 e4 => by
        have eD4 := s4 _ _ eDc
        refine ⟨us, eD4, len, Over.put ⟨o.1, o.2.trans (sc.trans s4)⟩ _, us ++ [.ref p4], upd_same, ?_⟩
        rw [etk, List.map_append, List.map_append]
        exact IsAll.append (hus.k ((Same.tk (sc.trans s4)).trans (TK.lst _ eD4))) (IsAll.one (is_nums.mpr ⟨p4, rfl, TK.lst _ eD4 _ _ e4⟩))
      refine ⟨ra, tc, _, _, rfl, rfl, SqT.of (sc _ _ hra), SqT.of upd_same, ?_, fun e => ?_, fun e1 e2 => ?_, fun e1 e2 p5 n5 => ?_⟩
      · rw [List.length_map]
        exact szl (by simp only [List.length_singleton]; omega)
      · refine fin _ tc (Same.refl _) ?_
        rw [List.map_eq_nil_iff.mp e]
        exact upd_same
      · cases e2
      · refine fin _ p5 (same_new _ n5) ?_
        show upd _ _ _ _ = _
        rw [upd_same, List.map_append]
        rfl
    · obtain ⟨o, us, eD, hus⟩ := p
      have erl : ((setsL (l.take i)).take rs.length) = setsL (l.take i) := by
        rw [List.take_of_length_le]
        rw [setsL_len, rl, List.length_take, Nat.min_eq_left (by omega)]
        exact Nat.le_refl _
      rw [erl] at hus
      refine ⟨fa, D, _, _, rfl, rfl, o.2 _ _ er, eD, ?_, fun p6 n6 => ?_⟩
      · rw [rl, hus.length, List.length_map, List.length_map, setsL_len, List.length_take]
        have := pow5 (n := min i l.length) (by omega)
        exact szl (by omega)
      · have s6 := same_new (.lst (rs ++ us)) n6
        refine ⟨⟨p6, _, rfl, rs ++ us, upd_same, ?_⟩, (s1.trans o.2).trans s6⟩
        rw [et, setsL_snoc, List.map_append]
        exact (IsAll.append (hrs.k (Same.tk o.2)) hus).k (Same.tk s6)
  · obtain ⟨⟨fa, y, rfl, rs, er, hrs⟩, s1⟩ := p
    rw [List.length_map, List.take_length] at hrs
    exact ⟨_, rfl, q _ fa rs s1 er hrs⟩
end
end KW

namespace KW
open PySem PySem.Spec PyProof.Rows L2 K39 LamX
theorem two_chosen {p : PCh} {ups downs : List Nat} (h : two p = some (ups, downs)) : ∃ k1 k2 : CS → Nat, TabU ups downs k1 k2 ∧ ∀ (price : Nat → Int) (Y : CS), p.chosen price Y = (ups.filter Y).take (k1 Y) ++ (downs.filter Y).take (k2 Y) := by
  cases p with
  | maker room u d =>
    cases h
    exact ⟨_, _, tabU_maker ups downs room, fun _ _ => rfl⟩
  | sides k1 u k2 d =>
    cases h
    exact ⟨_, _, tabU_sides ups downs k1 k2, fun _ _ => rfl⟩
  | table rows => cases h
  | trader room cost u d => cases h
  | caps u ug d dg => cases h
theorem lawC_sub {p : PCh} {ups downs m : List Nat} (h : two p = some (ups, downs)) : (∀ c ∈ lawC p m, c ∈ ups ∨ c ∈ downs) ∧ (lawC p m).length ≤ ups.length + downs.length := by
  obtain ⟨k1, k2, _, e⟩ := two_chosen h
  unfold lawC
  rw [e]
  refine ⟨fun c hc => ?_, ?_⟩
  · rw [srt_mem] at hc
    rcases List.mem_append.mp hc with q | q
    · exact .inl (List.mem_filter.mp (List.mem_of_mem_take q)).1
    · exact .inr (List.mem_filter.mp (List.mem_of_mem_take q)).1
  · rw [srt_len, List.length_append, List.length_take, List.length_take]
    have l3 := List.length_filter_le m.contains ups
    have l4 := List.length_filter_le m.contains downs
    omega
/-- what the rows are behind the sets F -/
structure RowsInv (p : PCh) (R F : List (List Nat)) : Prop where
  row : ∀ r ∈ R, r ≠ [] ∧ ∃ m, r = lawC p m
  all : ∀ m ∈ F, lawC p m ≠ [] → lawC p m ∈ R
  len : R.length ≤ F.length
theorem rows_find {p : PCh} {ups downs own : List Nat} {R rows : List (List Nat)} (e2 : two p = some (ups, downs)) (nu : ups.Nodup) (nd : downs.Nodup) (dj : ∀ c ∈ ups, c ∉ downs) (hu : ∀ c ∈ ups, c ∈ own) (hd : ∀ c ∈ downs, c ∈ own)
    (inv : RowsInv p R (setsL own)) (pm : rows.Perm R) (hs : rows.Pairwise (rowLe ups downs)) (Y : CS) : (rows.find? fun r => r.all Y).getD [] = srt (p.chosen (fun _ => 0) Y) := by
  obtain ⟨k1, k2, U, e⟩ := two_chosen e2
  have fc : ∀ (Y Z : CS), (∀ c ∈ own, Y c = Z c) → ups.filter Y = ups.filter Z ∧ downs.filter Y = downs.filter Z := fun Y Z h => ⟨List.filter_congr fun c hc => h c (hu c hc), List.filter_congr fun c hc => h c (hd c hc)⟩
  -- the choice looks at its own contracts alone
  have loc : ∀ (Y Z : CS), (∀ c ∈ own, Y c = Z c) → srt (p.chosen (fun _ => 0) Y) = srt (p.chosen (fun _ => 0) Z) := fun Y Z h => by
    congr 1
    cases p with
    | maker room u d =>
      cases e2
      show (ups.filter Y).take _ ++ (downs.filter Y).take _ = (ups.filter Z).take _ ++ (downs.filter Z).take _
      rw [(fc Y Z h).1, (fc Y Z h).2]
    | sides q1 u q2 d =>
      cases e2
      show (ups.filter Y).take _ ++ (downs.filter Y).take _ = (ups.filter Z).take _ ++ (downs.filter Z).take _
      rw [(fc Y Z h).1, (fc Y Z h).2]
    | table rows => cases e2
    | trader room cost u d => cases e2
    | caps u ug d dg => cases e2
  rw [e]
  refine table_eq U nu nd dj (fun r hr => ?_) (fun Y ne => ?_) hs Y
  · obtain ⟨h1, m, h2⟩ := inv.row r (pm.mem_iff.mp hr)
    refine ⟨h1, m.contains, ?_⟩
    rw [h2, ← e (fun _ => 0)]
    rfl
  · have h1 : lawC p (own.filter Y) = srt ((ups.filter Y).take (k1 Y) ++ (downs.filter Y).take (k2 Y)) := by
      unfold lawC
      rw [← e (fun _ => 0)]
      refine loc _ _ fun c hc => ?_
      rw [Bool.eq_iff_iff, List.contains_iff_mem, List.mem_filter]
      exact ⟨fun h => h.2, fun h => ⟨hc, h⟩⟩
    rw [← h1] at ne ⊢
    exact pm.mem_iff.mpr (inv.all _ (setsL_filter own Y) ne)
/-! ### rows compared -/
theorem dpall_nums {K : PySem.W.Frag} {H : Hp} : ∀ {R : List (List Nat)} {rr : List V}, IsAll H (R.map nums) rr → DpAll K H rr (R.map dNum)
  | [], rr, h => by
    have h' : rr = [] := h
    rw [h']
    exact .nil
  | r :: R, rr, h => by
    obtain ⟨x, t, rfl, h1, h2⟩ := h
    obtain ⟨a, rfl, h3⟩ := is_nums.mp h1
    exact .cons (dp_nt h3) (dpall_nums h2)
theorem lay_rows : ∀ R : List (List Nat), PyData.canLayAll0 (R.map dNum) = true ∧ PyData.depthAll (R.map dNum) ≤ 1
  | [] => ⟨rfl, Nat.zero_le _⟩
  | r :: R => by
    obtain ⟨h1, h2⟩ := lay_rows R
    rw [List.map_cons, PyData.canLayAll0, PyData.depthAll, (lay_dNum r).1, (lay_dNum r).2, h1]
    exact ⟨rfl, by omega⟩
theorem shaped_rows (R : List (List Nat)) : SeqAt.shaped (.list (R.map dNum)) = true := by
  obtain ⟨h1, h2⟩ := lay_rows R
  unfold SeqAt.shaped
  rw [PyData.canLay0, PyData.depth, h1]
  simp only [Bool.true_and, decide_eq_true_eq]
  omega
theorem any_rows (R : List (List Nat)) (r : List Nat) : ((R.map dNum).any fun z => PyData.eqv z (dNum r)) = R.contains r := by
  induction R with
  | nil => rfl
  | cons q R ih =>
    rw [List.map_cons, List.any_cons, ih, eqv_dNum, List.contains_cons]
    congr 1
    rw [Bool.eq_iff_iff, decide_eq_true_eq, beq_iff_eq]
    exact eq_comm
/-- a maker or sides whose lists' objects are known -/
def MsF (K : PySem.W.Frag) (H : Hp) (p : PCh) (v : V) (ups downs : List Nat) : Prop := ∃ ch u d xs, v = .ref ch ∧ H ch = some (.tup xs) ∧ atI xs 2 = some (.ref u) ∧ atI xs (-1) = some (.ref d) ∧ Fz H u (ups.map nv) ∧ Fz H d (downs.map nv) ∧ IsMS K H p v
theorem IsMS.same {K : PySem.W.Frag} {H H' : Hp} {p : PCh} {v : V} (h : IsMS K H p v) (s : Same H H') : IsMS K H' p v := by
  cases p with
  | maker room u d =>
    obtain ⟨a, ua, da, e, h1, hu, hd⟩ := h
    exact ⟨a, ua, da, e, s _ _ h1, Same.sqt s hu, Same.sqt s hd⟩
  | sides k1 u k2 d =>
    obtain ⟨a, ua, da, e, h1, hu, hd⟩ := h
    exact ⟨a, ua, da, e, s _ _ h1, Same.sqt s hu, Same.sqt s hd⟩
  | table rows => exact h.elim
  | trader room cost u d => exact h.elim
  | caps u ug d dg => exact h.elim
theorem isAll_trip {H : Hp} : ∀ {bs : List Trip}, (∀ b ∈ bs, NT H b.ra b.r) → IsAll H ((bs.map fun b => b.r).map nums) (bs.map fun b => V.ref b.ra)
  | [], _ => rfl
  | b :: bs, h => ⟨_, _, rfl, is_nums.mpr ⟨b.ra, rfl, h b List.mem_cons_self⟩, isAll_trip fun c hc => h c (List.mem_cons_of_mem _ hc)⟩
section
variable {P : Program} {w : World} {K : PySem.W.Frag} {mg : Str → Option Value} {base : Heap}
theorem scTb : FnScope ["_law_choice_here", "_law_own_here", "_law_rows", "_law_offered", "_law_row", "_law_keyed", "_law_places", "_law_c", "_law_key"] ["_law_choice_here", "_law_own_here"] (defScope (top 29)) := ⟨rfl, rfl, rfl, by decide +kernel, rfl, by decide +kernel, by decide +kernel⟩
def spTb (K : PySem.W.Frag) : Sp := fun vs H Q _ => ∃ (v : V) (oa : Addr) (p : PCh) (ups downs own : List Nat), vs = [v, .ref oa] ∧ MsF K H p v ups downs ∧ two p = some (ups, downs) ∧ ups.Nodup ∧ downs.Nodup ∧ (∀ c ∈ ups, c ∉ downs) ∧ (∀ c ∈ ups, c ∈ own) ∧ (∀ c ∈ downs, c ∈ own) ∧ own.length ≤ 5 ∧ ups.length ≤ 5 ∧ downs.length ≤ 5 ∧ H oa = some (.lst (own.map nv)) ∧
  ∀ H' q rows, Same H H' → Is H' (encP (.table rows)) q → rows.length ≤ 1000 → (∀ r ∈ rows, r.length ≤ 100 ∧ ∀ c ∈ r, c ∈ ups ∨ c ∈ downs) → (∀ Y : CS, (rows.find? fun r => r.all Y).getD [] = srt (p.chosen (fun _ => 0) Y)) → Q q H'
theorem has_Tb (bt : Bt mg) (hss : Has P w K mg base 1 "_law_sets" ["_law_contracts"] (spSs K)) (hlc : Has P w K mg base 1 "_law_chosen_by" ["_law_contracts", "_law_choice_here", "_law_offered"] (spLc K)) (d : At K mg "_law_table" 29) : Has P w K mg base 2 "_law_table" ["_law_choice_here", "_law_own_here"] (spTb K) := by
  obtain ⟨fS, fdS, GS, gS, kS, bS⟩ := hss.ex
  obtain ⟨fC, fdC, GC, gC, kC, bC⟩ := hlc.ex
  refine has_of d scTb (fun vs H Q E h => ?_) (fun _ _ _ _ _ _ us hl => match us, hl with | [_, _], _ => rfl) (fun f cdv A0 outer s H vs Q E hr h => ?_)
  · obtain ⟨v, oa, p, ups, downs, own, rfl, _⟩ := h
    rfl
  obtain ⟨v, oa, p, ups, downs, own, rfl, hv, e2, nu, nd, dj, hu, hd, l5, lu, ld, ho, q⟩ := h
  have ru : (A0.deeper (envOfC "_law_table" (defScope (top 29)) s.heap.objs.size f cdv)).units + 64 < cLine := by have := hr.un; omega
  have ru1 : (A0.deeper (envOfC "_law_table" (defScope (top 29)) s.heap.objs.size f cdv)).units + 65 < cLine := by have := hr.un; omega
  have ru7 : (A0.deeper (envOfC "_law_table" (defScope (top 29)) s.heap.objs.size f cdv)).units + 70 < cLine := by have := hr.un; omega
  refine ⟨_, pss_cons (ps_set (i := 2) scTb.nd rfl (.inl rfl) (pe_lst pa_nil))
    (pss_cons (ps_for PassesOwn.never rfl (pi_list (pe_call GS hr rfl gS kS bS .nil pass0 (pa_cons (pv 1) pa_nil))) (pg_name (i := 3) scTb.nd rfl (.inl rfl))
      (pss_cons (ps_set (i := 4) scTb.nd rfl (.inl rfl) (pe_call GC hr rfl gC kC bC .nil pass0 (pa_cons (pe_tup pa_nil) (pa_cons (pv 0) (pa_cons (pv 3) pa_nil)))))
      (pss_one (ps_if (PW.pt (pw_and (pt_cmpR (op_neD ru) (pv 4) (pe_tup pa_nil) (nomark _)) (pw_and1 (pt_cmpR (op_notInD ru1) (pv 4) (pv 2) rfl))))
        (pss_one (ps_expr (pe_bm PySem.F.plainAttrs_list PySem.F.slot_list_append PySem.F.type_list_append mt_append (pv 2) (pa_cons (pv 4) pa_nil)))) pss_nil))))
    (pss_cons (ps_set (i := 5) scTb.nd rfl (.inl rfl) (pe_lst pa_nil))
    (pss_cons (ps_for PassesOwn.never rfl (pi_list (pv 2)) (pg_name (i := 4) scTb.nd rfl (.inl rfl))
      (pss_cons (ps_set (i := 6) scTb.nd rfl (.inl rfl) pe_int)
      (pss_cons (ps_for PassesOwn.never rfl (pi_tup (pv 4)) (pg_name (i := 7) scTb.nd rfl (.inl rfl))
        (pss_one (ps_set (i := 6) scTb.nd rfl (.inl rfl) (pe_op op_add (pv 6) (pe_bmF PySem.F.plainAttrs_tuple PySem.F.slot_tuple_index PySem.F.type_tuple_index mt_tupIndexN
          (pe_ix ix_list (pe_lst (pa_cons (pe_ix ix_tup (pv 0) pe_int (fun _ _ => rfl)) (pa_cons (pe_ix ix_tup (pv 0) (pe_un un_neg pe_int) (fun _ _ => rfl)) pa_nil))) (pe_callTy call_int1 rfl bt.int (by decide +kernel) (pa_cons (pe_cmpR (r := rIn K false) op_in_seq (pv 7) (pe_ix ix_tup (pv 0) (pe_un un_neg pe_int) (fun _ _ => rfl)) rfl) pa_nil)) (fun _ _ => rfl)) (pa_cons (pv 7) pa_nil))))))
      (pss_one (ps_expr (pe_bm PySem.F.plainAttrs_list PySem.F.slot_list_append PySem.F.type_list_append mt_append (pv 5) (pa_cons (pe_tup (pa_cons (pe_un un_neg (pe_callB (r := rLenS K) call_len_seq rfl bt.len (by decide +kernel) (pa_cons (pv 4) pa_nil))) (pa_cons (pv 6) (pa_cons (pv 4) pa_nil)))) pa_nil)))))))
    (pss_one (ps_ret (pe_tup (pa_cons pe_str (pa_cons (pe_callTy call_tuple_of rfl bt.tuple (by decide +kernel) (pa_cons (pe_lc (own := [("_law_key", 8)]) (g := gName 8) (tt := tYes) rfl scTb.nd (pi_list (pe_callB (cr_sortTrip ru7) rfl bt.sorted (by decide +kernel) (pa_cons (pv 5) pa_nil)))
        (blkOk_by (N := ["_law_choice_here", "_law_own_here", "_law_rows", "_law_offered", "_law_row", "_law_keyed", "_law_places", "_law_c", "_law_key"]) (sc := defScope (top 29)) (by decide +kernel))
        (fun _ _ _ _ _ => pg_name (i := 8) scTb.nd rfl (.inl rfl)) (fun _ _ _ _ _ => pts_nil) (fun _ _ _ _ _ => pe_ix (r := rIxT K) ix_tup (pv 8) pe_int (fun _ _ => rfl))) pa_nil)) pa_nil)))))))), ?_⟩
  obtain ⟨ch, ua, da, cxs, rfl, hch, hx2, hxm, fu, fd, hms⟩ := hv
  refine ⟨(by show 0 ≤ sizeLine; decide), fun rl nrl => ?_⟩
  have s0 := same_new (.lst []) nrl
  refine ⟨_, rfl, oa, own, rfl, s0 _ _ ho, l5, fun H1 sl ss s1 e1 hss => ⟨sl, rfl, ⟨_, SqL.of e1⟩, ?_⟩⟩
  have erl : H1 rl = some (.lst []) := s1 _ _ upd_same
  have ssl : ss.length = 2 ^ own.length := by rw [hss.length, List.length_map, setsL_len]
  have sp5 := pow5 (n := own.length) l5
  have sp1 : 0 < 2 ^ own.length := Nat.pos_of_ne_zero (by simp)
  have nsr : sl ≠ rl := fun z => by
    rw [z, erl] at e1
    have : ss = [] := by simpa using e1.symm
    rw [this] at ssl
    simp only [List.length_nil] at ssl
    omega
  refine for_list (xs := ss) (fun i σ H' => (∃ y3 y4, σ = [some (.ref ch), some (.ref oa), some (.ref rl), y3, y4, none, none, none, none]) ∧ Same H H' ∧ H' sl = some (.lst ss) ∧ IsAll H' ((setsL own).map nums) ss ∧ ∃ (R : List (List Nat)) (rr : List V), H' rl = some (.lst rr) ∧ IsAll H' (R.map nums) rr ∧ RowsInv p R ((setsL own).take i))
    ⟨⟨none, none, rfl⟩, s0.trans s1, e1, hss, [], [], erl, rfl, ⟨(fun r h => by cases h), (fun m h => by cases h), Nat.le_refl _⟩⟩ (fun i σ H' _ p => SqL.of p.2.2.1) (fun i x σ H' hx p => ?_) fun σ H' p => ?_
  · obtain ⟨⟨y3, y4, rfl⟩, s2, f1, f2, R, rr, f3, f4, inv⟩ := p
    obtain ⟨t, gt, ht⟩ := f2.get' hx
    obtain ⟨m, em, rfl⟩ := map_get gt
    obtain ⟨ma, rfl, hma⟩ := is_nums.mp ht
    have etm := take_snoc em
    have hi : i < ss.length := (List.getElem?_eq_some_iff.mp hx).1
    refine ⟨(by show 0 ≤ sizeLine; decide), fun t0 nt0 => ⟨_, rfl, _, rfl, ?_⟩⟩
    have s3 := same_new (.tup []) nt0
    refine ⟨.ref t0, .ref ch, ma, p, ups, downs, m, rfl, hms.same (s2.trans s3), e2, by omega, by omega, .inr (SqT.of (s3 _ _ hma)), fun H4 ra s4 e4 => ?_⟩
    have s34 := s3.trans s4
    have g1 := s34 _ _ f1
    have g2 := f2.k (Same.tk s34)
    have g3 := s34 _ _ f3
    have g4 := f4.k (Same.tk s34)
    have Rlen : R.length ≤ 32 := by
      have := inv.len
      rw [List.length_take, setsL_len] at this
      omega
    refine ⟨_, rfl, (by show 0 ≤ sizeLine; decide), fun t1 nt1 => ?_⟩
    have s5 := same_new (.tup []) nt1
    refine ⟨dNum (lawC p m), dNum [], dp_nt (s5 _ _ e4), .tup (SqT.of upd_same) .nil, shaped_dNum _, shaped_dNum _, _, rfl, ?_⟩
    rw [eqv_dNum]
    have no : ∀ {H5 : Hp}, Same H4 H5 → (lawC p m ≠ [] → lawC p m ∈ R) → RowsInv p R ((setsL own).take (i + 1)) := fun {H5} _ h => by
      rw [etm]
      refine ⟨inv.row, fun m' hm' ne => ?_, by rw [List.length_append]; have := inv.len; omega⟩
      rcases List.mem_append.mp hm' with z | z
      · exact inv.all m' z ne
      · rw [List.mem_singleton.mp z] at ne ⊢
        exact h ne
    by_cases hz : lawC p m = []
    · rw [decide_eq_true hz]
      refine iteF (A := True) (iteF (A := True) ?_)
      exact ⟨⟨_, _, rfl⟩, (s2.trans s34).trans s5, s5 _ _ g1, g2.k (Same.tk s5), R, rr, s5 _ _ g3, g4.k (Same.tk s5), no s5 fun ne => absurd hz ne⟩
    · rw [decide_eq_false hz]
      refine iteT (B := True) ⟨_, rfl, _, rfl, dNum (lawC p m), R.map dNum, dp_nt (s5 _ _ e4), .lst (SqL.of (s5 _ _ g3)) (dpall_nums (g4.k (Same.tk s5))), shaped_dNum _, shaped_rows _, _, rfl, ?_⟩
      rw [any_rows]
      cases hc : R.contains (lawC p m) with
      | true =>
        refine iteF (A := True) ?_
        exact ⟨⟨_, _, rfl⟩, (s2.trans s34).trans s5, s5 _ _ g1, g2.k (Same.tk s5), R, rr, s5 _ _ g3, g4.k (Same.tk s5), no s5 fun _ => List.contains_iff_mem.mp hc⟩
      | false =>
        refine iteT (B := True) ⟨_, rfl, .inl ⟨rfl, _, SqL.of (s5 _ _ g3)⟩, _, rfl, rl, _, _, rfl, rfl, s5 _ _ g3, ?_, ?_⟩
        · rw [f4.length, List.length_map]
          exact szk (by omega)
        · have tk := TK.lst (.lst (rr ++ [.ref ra])) (s5 _ _ g3)
          refine ⟨⟨_, _, rfl⟩, fun b o e => ?_, ?_, (g2.k (Same.tk s5)).k tk, R ++ [lawC p m], rr ++ [.ref ra], upd_same, ?_, ?_⟩
          · rw [upd_ne (ne_of_none e nrl)]
            exact s5 _ _ (s34 _ _ (s2 _ _ e))
          · rw [upd_ne nsr]
            exact s5 _ _ g1
          · rw [List.map_append]
            exact IsAll.append ((g4.k (Same.tk s5)).k tk) (IsAll.one (is_nums.mpr ⟨ra, rfl, tk _ _ (s5 _ _ e4)⟩))
          · rw [etm]
            refine ⟨fun r hr => ?_, fun m' hm' ne => ?_, by rw [List.length_append, List.length_append]; have := inv.len; simp only [List.length_singleton]; omega⟩
            · rcases List.mem_append.mp hr with z | z
              · exact inv.row r z
              · rw [List.mem_singleton.mp z]
                exact ⟨hz, m, rfl⟩
            · rcases List.mem_append.mp hm' with z | z
              · exact List.mem_append_left _ (inv.all m' z ne)
              · rw [List.mem_singleton.mp z]
                exact List.mem_append_right _ (List.mem_singleton.mpr rfl)
  obtain ⟨⟨y3, y4, rfl⟩, s2, _, _, R, rr, f3, f4, inv⟩ := p
  have eall : (setsL own).take ss.length = setsL own := by
    rw [List.take_of_length_le]
    rw [setsL_len, ssl]
    exact Nat.le_refl _
  rw [eall] at inv
  have Rlen : R.length ≤ 32 := by
    have := inv.len
    rw [setsL_len] at this
    omega
  refine ⟨(by show 0 ≤ sizeLine; decide), fun kl nkl => ?_⟩
  have s6 := same_new (.lst []) nkl
  have nkr : rl ≠ kl := fun z => by rw [z, nkl] at f3; cases f3
  have nklH : H kl = none := Same.none s2 nkl
  refine ⟨_, rfl, rl, rfl, ⟨_, SqL.of (s6 _ _ f3)⟩, ?_⟩
  refine for_list (xs := rr) (fun i σ H' => (∃ y3 y4 y6 y7, σ = [some (.ref ch), some (.ref oa), some (.ref rl), y3, y4, some (.ref kl), y6, y7, none]) ∧ Same H H' ∧ H' rl = some (.lst rr) ∧ IsAll H' (R.map nums) rr ∧
      ∃ bs : List Trip, H' kl = some (.lst (bs.map fun b => V.ref b.t)) ∧ (∀ b ∈ bs, H' b.t = some (.tup [.int b.i, .int b.j, .ref b.ra]) ∧ NT H' b.ra b.r ∧ b.i = -((b.r.length : Nat) : Int) ∧ b.j = ((placesOf ups downs b.r : Nat) : Int)) ∧ bs.map (fun b => b.r) = R.take i)
    ⟨⟨_, _, none, none, rfl⟩, s2.trans s6, s6 _ _ f3, f4.k (Same.tk s6), [], upd_same, (fun b h => by cases h), rfl⟩ (fun i σ H' _ p => SqL.of p.2.2.1) (fun i x σ H' hx p => ?_) fun σ H' p => ?_
  · obtain ⟨⟨y3, y4, y6, y7, rfl⟩, t2, g3, g4, bs, g5, g6, g7⟩ := p
    obtain ⟨t, gt, ht⟩ := g4.get' hx
    obtain ⟨r, er, rfl⟩ := map_get gt
    obtain ⟨ra, rfl, hra⟩ := is_nums.mp ht
    have etr := take_snoc er
    have rm : r ∈ R := List.mem_of_getElem? er
    obtain ⟨_, m, hm⟩ := inv.row r rm
    have hsub := lawC_sub (m := m) e2
    rw [← hm] at hsub
    refine ⟨.ref ra, rfl, ra, rfl, ⟨_, SqT.of hra⟩, ?_⟩
    refine for_tup (xs := r.map nv) (fun j σ H2 => (∃ y7, σ = [some (.ref ch), some (.ref oa), some (.ref rl), y3, some (.ref ra), some (.ref kl), some (.int ((placesOf ups downs (r.take j) : Nat) : Int)), y7, none]) ∧ Same H' H2) ⟨⟨_, rfl⟩, Same.refl H'⟩ (fun j σ H2 _ p => Same.sqt p.2 (SqT.of hra)) (fun j x σ H2 hx p => ?_) fun σ H2 p => ?_
    · obtain ⟨⟨y7, rfl⟩, u2⟩ := p
      obtain ⟨c, ec, rfl⟩ := map_get hx
      have cm : c ∈ r := List.mem_of_getElem? ec
      have tu := t2.trans u2
      have sch : SqT K H2 ch cxs := SqT.of (tu _ _ hch)
      refine ⟨_, rfl, _, rfl, ch, cxs, 2, .ref ua, rfl, rfl, sch, hx2, _, rfl, 1, rfl, ch, cxs, -1, .ref da, rfl, rfl, sch, hxm, (by show 2 ≤ sizeLine; decide), fun lp nlp => ?_⟩
      have u3 := same_new (.lst [.ref ua, .ref da]) nlp
      have sch3 := Same.sqt u3 sch
      have fd3 : Fz _ da _ := (fd.same tu).same u3
      have fu3 : Fz _ ua _ := (fu.same tu).same u3
      refine ⟨_, rfl, _, rfl, 1, rfl, ch, cxs, -1, .ref da, rfl, rfl, sch3, hxm, da, downs.map nv, rfl, .inr fd3.sqt, rfl, flat_nvs _, ?_⟩
      have fin : placesOf ups downs (r.take (j + 1)) = placesOf ups downs (r.take j) + K39.placeOf ups downs c := by
        rw [take_snoc ec, places_app]
        unfold placesOf
        simp
      refine .inr ⟨downs.contains c, ?_, ?_⟩
      · show [V.bl (inV (nv c) (downs.map nv))] = _
        rw [inV_nv]
      cases hc : downs.contains c with
      | true =>
        have hcd : c ∈ downs := List.contains_iff_mem.mp hc
        refine ⟨lp, _, 1, .ref da, rfl, rfl, SqL.of upd_same, rfl, ⟨da, _, rfl, fd3⟩, _, rfl, da, downs, c, rfl, rfl, fd3.sqt, hcd, _, _, rfl, rfl, ⟨some (nv c), ?_⟩, u2.trans u3⟩
        rw [fin]
        unfold K39.placeOf
        rw [if_pos hc]
        rfl
      | false =>
        have hcu : c ∈ ups := by
          rcases hsub.1 c cm with z | z
          · exact z
          · rw [List.contains_iff_mem.mpr z] at hc
            cases hc
        refine ⟨lp, _, 0, .ref ua, rfl, rfl, SqL.of upd_same, rfl, ⟨ua, _, rfl, fu3⟩, _, rfl, ua, ups, c, rfl, rfl, fu3.sqt, hcu, _, _, rfl, rfl, ⟨some (nv c), ?_⟩, u2.trans u3⟩
        rw [fin]
        unfold K39.placeOf
        rw [if_neg (by rw [hc]; exact Bool.false_ne_true)]
        rfl
    · obtain ⟨⟨y7, rfl⟩, u2⟩ := p
      rw [List.length_map, List.take_length]
      have h5 := u2 _ _ g5
      refine ⟨_, rfl, .inl ⟨rfl, _, SqL.of h5⟩, _, rfl, ra, _, rfl, .inr (SqT.of (u2 _ _ hra)), _, rfl, _, rfl, _, rfl, (by show 3 ≤ sizeLine; decide), fun tp ntp => ?_⟩
      have u3 := same_new (.tup [.int (-((r.map nv).length : Int)), .int ((placesOf ups downs r : Nat) : Int), .ref ra]) ntp
      have u23 := u2.trans u3
      have eT : upd H2 tp (.tup [.int (-((r.map nv).length : Int)), .int ((placesOf ups downs r : Nat) : Int), .ref ra]) tp = some (.tup [.int (-((r.map nv).length : Int)), .int ((placesOf ups downs r : Nat) : Int), .ref ra]) := upd_same
      have h6 := u3 _ _ h5
      generalize upd H2 tp (.tup [.int (-((r.map nv).length : Int)), .int ((placesOf ups downs r : Nat) : Int), .ref ra]) = H3 at *
      have bl : bs.length = i := by
        have h1 := congrArg List.length g7
        have h2 := (List.getElem?_eq_some_iff.mp er).1
        rw [List.length_map, List.length_take] at h1
        omega
      have hi : i < R.length := (List.getElem?_eq_some_iff.mp er).1
      refine ⟨kl, _, _, rfl, rfl, h6, ?_, ?_⟩
      · rw [List.length_map]
        exact szk (by omega)
      have tk := TK.lst (.lst ((bs.map fun b => V.ref b.t) ++ [.ref tp])) h6
      refine ⟨⟨_, _, _, _, rfl⟩, fun b o e => ?_, ?_, (g4.k (Same.tk u23)).k tk, bs ++ [⟨-((r.length : Nat) : Int), ((placesOf ups downs r : Nat) : Int), r, tp, ra⟩], ?_, fun b hb => ?_, ?_⟩
      · rw [upd_ne (ne_of_none e nklH)]
        exact u23 _ _ (t2 _ _ e)
      · rw [upd_ne nkr]
        exact u23 _ _ g3
      · rw [upd_same, List.map_append]
        rfl
      · rcases List.mem_append.mp hb with z | z
        · obtain ⟨b1, b2, b3, b4⟩ := g6 b z
          exact ⟨tk _ _ (u23 _ _ b1), tk _ _ (u23 _ _ b2), b3, b4⟩
        · rw [List.mem_singleton.mp z]
          refine ⟨?_, tk _ _ (u23 _ _ hra), rfl, rfl⟩
          rw [List.length_map] at eT
          exact tk _ _ eT
      · rw [etr, List.map_append, g7]
        rfl
  · obtain ⟨⟨y3, y4, y6, y7, rfl⟩, t2, g3, g4, bs, g5, g6, g7⟩ := p
    have rrl : rr.length = R.length := by rw [f4.length, List.length_map]
    rw [rrl, List.take_length] at g7
    have bl : bs.length = R.length := by rw [← g7, List.length_map]
    refine ⟨_, rfl, kl, bs, rfl, SqL.of g5, fun b hb => ⟨SqT.of (g6 b hb).1, SqT.of (g6 b hb).2.1⟩, fun out p pm pw np => ⟨p, rfl, ⟨_, SqL.of upd_same⟩, fun D nD => ?_⟩⟩
    have u1 := same_new (.lst (out.map fun b => V.ref b.t)) np
    have ep : upd H' p (.lst (out.map fun b => V.ref b.t)) p = some (.lst (out.map fun b => V.ref b.t)) := upd_same
    generalize upd H' p (.lst (out.map fun b => V.ref b.t)) = H2 at *
    have ol : out.length = R.length := by rw [pm.length_eq, bl]
    refine lc_map (G := Over H2 D) (l := out) (enc := fun b => V.ref b.t) (itOf_list fun H3 g => SqL.of (g.2 _ _ ep)) (fun b => V.ref b.ra) (Over.start nD _) (fun H3 ys g => g.put ys) (szk (by omega)) (fun _ _ => rfl) (fun b ys H3 Q2 hb g eD k => ?_) fun H3 g eD => ?_
    · obtain ⟨b1, b2, _⟩ := g6 b (pm.mem_iff.mp hb)
      exact ⟨_, rfl, b.t, _, 2, .ref b.ra, rfl, rfl, SqT.of (g.2 _ _ (u1 _ _ b1)), atI_nat (j := 2) rfl, k H3 g eD⟩
    · refine ⟨D, _, rfl, .inl ⟨SqL.of eD, fun p2 n2 => ⟨(by show 2 ≤ sizeLine; decide), fun p3 n3 => ?_⟩⟩⟩
      have u2 := same_new (.tup (out.map fun b => V.ref b.ra)) n2
      have u3 := same_new (.tup [.str "table", .ref p2]) n3
      have uu := ((u1.trans g.2).trans u2).trans u3
      have pmr : (out.map fun b => b.r).Perm R := by
        rw [← g7]
        exact pm.map _
      refine q _ (.ref p3) (out.map fun b => b.r) (t2.trans uu) (is_table.mpr ⟨p3, .ref p2, rfl, upd_same, p2, _, rfl, u3 _ _ upd_same, isAll_trip fun b hb => uu _ _ (g6 b (pm.mem_iff.mp hb)).2.1⟩) (by rw [List.length_map]; omega) (fun r hr => ?_) (fun Y => ?_)
      · obtain ⟨_, m, hm⟩ := inv.row r (pmr.mem_iff.mp hr)
        have hsub := lawC_sub (m := m) e2
        rw [← hm] at hsub
        exact ⟨by omega, hsub.1⟩
      · refine rows_find e2 nu nd dj hu hd inv pmr ?_ Y
        rw [List.pairwise_map]
        refine pw.imp_of_mem fun {b c} hb hc h => ?_
        obtain ⟨_, _, b3, b4⟩ := g6 b (pm.mem_iff.mp hb)
        obtain ⟨_, _, c3, c4⟩ := g6 c (pm.mem_iff.mp hc)
        unfold rowLe
        rw [b3, c3, b4, c4] at h
        omega
end
end KW

namespace KW
open PySem PySem.Spec PyProof.Rows L2 K39 LamX
theorem cut_mid (xs : List V) (a b : Nat) (h1 : a ≤ b) (h2 : b ≤ xs.length) : cutV xs (some (a : Int)) (some (b : Int)) = (xs.drop a).take (b - a) := by
  unfold cutV
  rw [HT.sIx_nat, HT.sIx_nat, Nat.min_eq_left (show a ≤ xs.length by omega), Nat.min_eq_left h2]
/-- a stretch of the list -/
def seg (l : List Nat) (a b : Nat) : List Nat := (l.drop a).take (b - a)
theorem seg_sub {l : List Nat} {a b : Nat} (h : a ≤ b) : ∀ c ∈ seg l a b, c ∈ l.take b := fun c hc => by
  have e : l.take b = l.take a ++ seg l a b := by
    unfold seg
    have := List.take_add (l := l) (i := a) (j := b - a)
    rw [show a + (b - a) = b by omega] at this
    exact this
  rw [e]
  exact List.mem_append_right _ hc
theorem seg_dj {l : List Nat} (nd : l.Nodup) {a b : Nat} : ∀ c ∈ seg l a b, c ∉ l.take a := fun c hc h => by
  have e := List.take_append_drop a l
  rw [← e] at nd
  exact (List.nodup_append.mp nd).2.2 c h c (List.mem_of_mem_take hc) rfl
theorem seg_in {l : List Nat} {a b b' : Nat} (h : b' ≤ b) : ∀ c ∈ seg l a b', c ∈ seg l a b := fun c hc => by
  unfold seg at *
  exact (List.take_subset_take_left _ (by omega : b' - a ≤ b - a)) hc
theorem seg_nd {l : List Nat} (nd : l.Nodup) (a b : Nat) : (seg l a b).Nodup := (nd.sublist (List.drop_sublist a l)).sublist (List.take_sublist _ _)
theorem seg_len (l : List Nat) (a b : Nat) : (seg l a b).length ≤ l.length := by
  unfold seg
  rw [List.length_take, List.length_drop]
  omega
/-- the groups that lie in the first a -/
structure GInv (own : List Nat) (a : Nat) (gs : List Group) : Prop where
  lam : Laminar gs
  nd : ∀ g ∈ gs, g.1.Nodup
  sub : ∀ g ∈ gs, ∀ c ∈ g.1, c ∈ own.take a
  len : ∀ g ∈ gs, g.1.length ≤ own.length
theorem ginv_nil (own : List Nat) : GInv own 0 [] := ⟨fun g h => (by cases h), fun g h => (by cases h), fun g h => (by cases h), fun g h => (by cases h)⟩
theorem ginv_one {own : List Nat} (nd : own.Nodup) {a b : Nat} {gs : List Group} (g : GInv own a gs) (h : a ≤ b) (k : Nat) : GInv own b (gs ++ [(srt (seg own a b), k)]) := by
  have old : ∀ q ∈ gs, ∀ x, x ∈ q.1 → x ∉ srt (seg own a b) := fun q hq x hx z => seg_dj nd x (srt_mem.mp z) (g.sub q hq x hx)
  have tk : ∀ c ∈ own.take a, c ∈ own.take b := fun c hc => (List.take_subset_take_left _ h) hc
  refine ⟨fun p hp q hq => ?_, fun p hp => ?_, fun p hp c hc => ?_, fun p hp => ?_⟩
  · rcases List.mem_append.mp hp with p1 | p1 <;> rcases List.mem_append.mp hq with q1 | q1
    · exact g.lam p p1 q q1
    · rw [List.mem_singleton.mp q1]
      exact .inr (.inr (old p p1))
    · rw [List.mem_singleton.mp p1]
      exact .inr (.inr fun x hx z => old q q1 x z hx)
    · rw [List.mem_singleton.mp p1, List.mem_singleton.mp q1]
      exact .inl fun x hx => hx
  · rcases List.mem_append.mp hp with p1 | p1
    · exact g.nd p p1
    · rw [List.mem_singleton.mp p1]
      exact (srt_perm _).nodup_iff.mpr (seg_nd nd a b)
  · rcases List.mem_append.mp hp with p1 | p1
    · exact tk c (g.sub p p1 c hc)
    · rw [List.mem_singleton.mp p1] at hc
      exact seg_sub h c (srt_mem.mp hc)
  · rcases List.mem_append.mp hp with p1 | p1
    · exact g.len p p1
    · rw [List.mem_singleton.mp p1]
      show (srt _).length ≤ _
      rw [srt_len]
      exact seg_len _ _ _
theorem ginv_two {own : List Nat} (nd : own.Nodup) {a b b' : Nat} {gs : List Group} (g : GInv own a gs) (h : a ≤ b') (h2 : b' ≤ b) (k k' : Nat) : GInv own b (gs ++ [(srt (seg own a b), k)] ++ [(srt (seg own a b'), k')]) := by
  have g1 := ginv_one nd g (Nat.le_trans h h2) k
  have old : ∀ q ∈ gs, ∀ x, x ∈ q.1 → x ∉ srt (seg own a b') := fun q hq x hx z => seg_dj nd x (srt_mem.mp z) (g.sub q hq x hx)
  have inn : ∀ x, x ∈ srt (seg own a b') → x ∈ srt (seg own a b) := fun x hx => srt_mem.mpr (seg_in h2 x (srt_mem.mp hx))
  refine ⟨fun p hp q hq => ?_, fun p hp => ?_, fun p hp c hc => ?_, fun p hp => ?_⟩
  · rcases List.mem_append.mp hp with p1 | p1 <;> rcases List.mem_append.mp hq with q1 | q1
    · exact g1.lam p p1 q q1
    · rw [List.mem_singleton.mp q1]
      rcases List.mem_append.mp p1 with p2 | p2
      · exact .inr (.inr (old p p2))
      · rw [List.mem_singleton.mp p2]
        exact .inr (.inl inn)
    · rw [List.mem_singleton.mp p1]
      rcases List.mem_append.mp q1 with p2 | p2
      · exact .inr (.inr fun x hx z => old q p2 x z hx)
      · rw [List.mem_singleton.mp p2]
        exact .inl inn
    · rw [List.mem_singleton.mp p1, List.mem_singleton.mp q1]
      exact .inl fun x hx => hx
  · rcases List.mem_append.mp hp with p1 | p1
    · exact g1.nd p p1
    · rw [List.mem_singleton.mp p1]
      exact (srt_perm _).nodup_iff.mpr (seg_nd nd a b')
  · rcases List.mem_append.mp hp with p1 | p1
    · exact g1.sub p p1 c hc
    · rw [List.mem_singleton.mp p1] at hc
      exact seg_sub (Nat.le_trans h h2) c (seg_in h2 c (srt_mem.mp hc))
  · rcases List.mem_append.mp hp with p1 | p1
    · exact g1.len p p1
    · rw [List.mem_singleton.mp p1]
      show (srt _).length ≤ _
      rw [srt_len]
      exact seg_len _ _ _
theorem GInv.take {own : List Nat} {a : Nat} {gs : List Group} (g : GInv own a gs) (n : Nat) : Laminar (gs.take n) ∧ ∀ p ∈ gs.take n, p.1.Nodup ∧ p.1.length ≤ own.length ∧ ∀ c ∈ p.1, c ∈ own :=
  ⟨fun p hp q hq => g.lam p (List.mem_of_mem_take hp) q (List.mem_of_mem_take hq), fun p hp => ⟨g.nd p (List.mem_of_mem_take hp), g.len p (List.mem_of_mem_take hp), fun c hc => List.mem_of_mem_take (g.sub p (List.mem_of_mem_take hp) c hc)⟩⟩
section
variable {P : Program} {w : World} {K : PySem.W.Frag} {mg : Str → Option Value} {base : Heap}
theorem scGr : FnScope ["_law_draws_here", "_law_own_here", "_law_groups_here", "_law_first", "_law_last"] ["_law_draws_here", "_law_own_here"] (defScope (top 30)) := ⟨rfl, rfl, rfl, by decide +kernel, rfl, by decide +kernel, by decide +kernel⟩
def spGr : Sp := fun vs H Q _ => ∃ (da a : Addr) (own : List Nat), vs = [.ref da, .ref a] ∧ a ≠ da ∧ H a = some (.lst (own.map nv)) ∧ own.Nodup ∧ own.length ≤ 50 ∧ Drw H da ∧
  ∀ H' q (gs : List Group), Kp da H H' → Is H' (.tup (gs.map encG)) q → gs.length ≤ 100 → Laminar gs → (∀ g ∈ gs, g.1.Nodup ∧ g.1.length ≤ own.length ∧ ∀ c ∈ g.1, c ∈ own) → Q q H'
theorem has_Gr (bt : Bt mg) (htk : Has P w K mg base 1 "_law_take" ["_law_draws_here", "_law_many"] spTk) (d : At K mg "_law_groups" 30) : Has P w K mg base 2 "_law_groups" ["_law_draws_here", "_law_own_here"] spGr := by
  obtain ⟨fT, fdT, GT, gT, kT, bT⟩ := htk.ex
  refine has_of d scGr (fun vs H Q E h => ?_) (fun _ _ _ _ _ _ us hl => match us, hl with | [_, _], _ => rfl) (fun f cdv A0 outer s H vs Q E hr h => ?_)
  · obtain ⟨da, a, own, rfl, _⟩ := h
    rfl
  obtain ⟨da, a, own, rfl, hne, ha, nd, hl, dr, q⟩ := h
  refine ⟨_, pss_cons (ps_set (i := 2) scGr.nd rfl (Or.inl rfl) (pe_lst pa_nil))
    (pss_cons (ps_set (i := 3) scGr.nd rfl (Or.inl rfl) pe_int)
    (pss_cons (ps_while PassesOwn.never (pt_cmpR op_lt (pv 3) (pe_callB (r := rLenS K) call_len_seq rfl bt.len (by decide +kernel) (pa_cons (pv 1) pa_nil)) (nomark _))
      (pss_cons (ps_set (i := 4) scGr.nd rfl (Or.inl rfl) (pe_op op_add (pe_op op_add (pv 3) pe_int) (pe_call GT hr rfl gT kT bT .nil pass0 (pa_cons (pv 0) (pa_cons (pe_op op_sub (pe_callB (r := rLenS K) call_len_seq rfl bt.len (by decide +kernel) (pa_cons (pv 1) pa_nil)) (pv 3)) pa_nil)))))
      (pss_cons (ps_expr (pe_bm PySem.F.plainAttrs_list PySem.F.slot_list_append PySem.F.type_list_append mt_append (pv 2) (pa_cons (pe_tup (pa_cons (pe_callTy call_tuple_of rfl bt.tuple (by decide +kernel) (pa_cons (pe_callB (r := rSrt K) cr_srt rfl bt.sorted (by decide +kernel) (pa_cons (pe_slice sl_list (pv 1) (po_some (pv 3)) (po_some (pv 4))) pa_nil)) pa_nil)) (pa_cons (pe_call GT hr rfl gT kT bT .nil pass0 (pa_cons (pv 0) (pa_cons pe_int pa_nil))) pa_nil))) pa_nil)))
      (pss_cons (ps_if (pt_cmpR op_eq (pe_call GT hr rfl gT kT bT .nil pass0 (pa_cons (pv 0) (pa_cons pe_int pa_nil))) pe_int (nomark _))
        (pss_one (ps_expr (pe_bm PySem.F.plainAttrs_list PySem.F.slot_list_append PySem.F.type_list_append mt_append (pv 2) (pa_cons (pe_tup (pa_cons (pe_callTy call_tuple_of rfl bt.tuple (by decide +kernel) (pa_cons (pe_callB (r := rSrt K) cr_srt rfl bt.sorted (by decide +kernel) (pa_cons (pe_slice sl_list (pv 1) (po_some (pv 3)) (po_some (pe_op op_add (pe_op op_add (pv 3) pe_int) (pe_call GT hr rfl gT kT bT .nil pass0 (pa_cons (pv 0) (pa_cons (pe_op op_sub (pv 4) (pv 3)) pa_nil)))))) pa_nil)) pa_nil)) (pa_cons (pe_call GT hr rfl gT kT bT .nil pass0 (pa_cons (pv 0) (pa_cons pe_int pa_nil))) pa_nil))) pa_nil)))) pss_nil)
      (pss_one (ps_set (i := 3) scGr.nd rfl (Or.inl rfl) (pv 4)))))))
    (pss_one (ps_ret (pe_callTy call_tuple_of rfl bt.tuple (by decide +kernel) (pa_cons (pe_slice sl_list (pv 2) po_none (po_some (pe_op op_add pe_int (pe_call GT hr rfl gT kT bT .nil pass0 (pa_cons (pv 0) (pa_cons pe_int pa_nil)))))) pa_nil)))))), ?_⟩
  refine ⟨(by show 0 ≤ sizeLine; decide), fun gl ngl => ?_⟩
  have s0 := same_new (.lst []) ngl
  have gne := dr.ne ngl
  refine ⟨fun k σ H' => ∃ (x : Nat) (gs : List Group) (grs : List V) (y : Option V), σ = [some (.ref da), some (.ref a), some (.ref gl), some (nv x), y] ∧ k = own.length - x ∧ x ≤ own.length ∧ Kp da H H' ∧ H' gl = some (.lst grs) ∧ IsAll H' (gs.map encG) grs ∧ GInv own x gs ∧ gs.length ≤ 2 * x,
    ⟨_, 0, [], [], none, rfl, rfl, Nat.zero_le _, Same.kp s0 dr, upd_same, rfl, ginv_nil own, Nat.le_refl _⟩, fun k σ H' p => ?_⟩
  obtain ⟨x, gs, grs, y, rfl, rfl, hx, kp, eg, hgs, inv, glen⟩ := p
  have ea := kp.at_ hne ha
  refine ⟨_, rfl, _, rfl, a, _, rfl, .inl (SqL.of ea), _, _, rfl, rfl, _, rfl, ?_⟩
  rw [List.length_map]
  have grl : grs.length = gs.length := by rw [hgs.length, List.length_map]
  by_cases hlt : x < own.length
  · rw [decide_eq_true (by omega)]
    refine iteT (B := True) ⟨fun σ' H2 => ∃ (x' : Nat) (gs' : List Group) (grs' : List V) (y' : Option V), σ' = [some (.ref da), some (.ref a), some (.ref gl), some (nv x'), y'] ∧ x < x' ∧ x' ≤ own.length ∧ Kp da H H2 ∧ H2 gl = some (.lst grs') ∧ IsAll H2 (gs'.map encG) grs' ∧ GInv own x' gs' ∧ gs'.length ≤ 2 * x', fun σ' H2 p => ?_, ?_⟩
    · obtain ⟨x', gs', grs', y', e1, h1, h2, h3, h4, h5, h6, h7⟩ := p
      exact ⟨own.length - x', by omega, x', gs', grs', y', e1, rfl, h2, h3, h4, h5, h6, h7⟩
    refine ⟨_, rfl, _, _, rfl, rfl, _, rfl, _, rfl, a, _, rfl, .inl (SqL.of ea), _, rfl, _, _, rfl, rfl, ?_⟩
    have argl : ∀ {z : Nat}, z ≤ own.length → [V.ref da, V.int (((own.map nv).length : Int) - (z : Int))] = [V.ref da, nv (own.length - z)] := fun {z} h => by
      rw [List.length_map, show ((own.length : Int) - (z : Int)) = ((own.length - z : Nat) : Int) by omega]
      rfl
    refine ⟨da, own.length - x, argl hx, by omega, kp.drw, fun H1 r k1 hr1 => ⟨_, _, rfl, rfl, ?_⟩⟩
    have kp1 := kp.trans k1
    have eg1 := k1.at_ gne eg
    have ea1 := kp1.at_ hne ha
    have hb : x + 1 + r ≤ own.length := by omega
    -- the first group
    refine ⟨_, rfl, .inl ⟨rfl, _, SqL.of eg1⟩, _, rfl, _, rfl, _, rfl, _, rfl, _, rfl, a, own.map nv, rfl, SqL.of ea1, fun p1 n1 => ?_⟩
    have c1 : cutV (own.map nv) (some (x : Int)) (some ((x : Int) + 1 + (r : Int))) = (seg own x (x + 1 + r)).map nv := by
      rw [show ((x : Int) + 1 + (r : Int)) = ((x + 1 + r : Nat) : Int) by omega, cut_mid (own.map nv) x (x + 1 + r) (by omega) (by rw [List.length_map]; exact hb)]
      unfold seg
      rw [List.map_take, List.map_drop]
    have t1 := same_new (.lst (cutV (own.map nv) (some (x : Int)) (some ((x : Int) + 1 + (r : Int))))) n1
    refine ⟨p1, seg own x (x + 1 + r), rfl, SqL.of (by rw [← c1]; exact upd_same), fun p2 n2 => ⟨p2, _, rfl, .inl ⟨SqL.of upd_same, fun p3 n3 => ?_⟩⟩⟩
    have t2 := same_new (.lst ((srt (seg own x (x + 1 + r))).map nv)) n2
    have t3 := same_new (.tup ((srt (seg own x (x + 1 + r))).map nv)) n3
    have t123 := (t1.trans t2).trans t3
    have kp3 := kp1.same t123
    refine ⟨_, rfl, da, 4, rfl, by decide, kp3.drw, fun H2 r2 k2 h2 => ⟨(by show 2 ≤ sizeLine; decide), fun p4 n4 => ?_⟩⟩
    have t4 := same_new (.tup [.ref p3, nv r2]) n4
    have kp4 := (kp3.trans k2).same t4
    have tk34 := (k2.tk kp3.drw).trans (Same.tk t4)
    have eg4 := t4 _ _ (k2.at_ gne (t123 _ _ eg1))
    have tkA := (k1.tk kp.drw).trans ((Same.tk t123).trans tk34)
    refine ⟨gl, grs, _, rfl, rfl, eg4, by rw [grl]; exact szk (by omega), ?_⟩
    have tkU := TK.lst (.lst (grs ++ [.ref p4])) eg4
    have kp5 : Kp da H (upd (upd H2 p4 (.tup [.ref p3, nv r2])) gl (.lst (grs ++ [.ref p4]))) := kp4.put ngl dr _
    have i5 : IsAll (upd (upd H2 p4 (.tup [.ref p3, nv r2])) gl (.lst (grs ++ [.ref p4]))) ((gs ++ [(srt (seg own x (x + 1 + r)), r2)]).map encG) (grs ++ [.ref p4]) := by
      rw [List.map_append]
      exact IsAll.append ((hgs.k tkA).k tkU) (IsAll.one (is_group.mpr ⟨p4, p3, rfl, tkU _ _ upd_same, tkU _ _ (tk34 _ _ upd_same)⟩))
    have e5 : upd (upd H2 p4 (.tup [.ref p3, nv r2])) gl (.lst (grs ++ [.ref p4])) gl = some (.lst (grs ++ [.ref p4])) := upd_same
    generalize upd (upd H2 p4 (.tup [.ref p3, nv r2])) gl (.lst (grs ++ [.ref p4])) = H5 at *
    -- the second one, perhaps
    refine ⟨_, rfl, da, 2, rfl, by decide, kp5.drw, fun H6 r3 k6 h6 => ⟨rfl, _, rfl, ?_⟩⟩
    have kp6 := kp5.trans k6
    have eg6 := k6.at_ gne e5
    have i6 := i5.k (k6.tk kp5.drw)
    refine ite2 (fun _ => ?_) (fun _ => ?_)
    · have ea6 := kp6.at_ hne ha
      refine ⟨_, rfl, .inl ⟨rfl, _, SqL.of eg6⟩, _, rfl, _, rfl, _, rfl, _, rfl, _, _, rfl, rfl, _, rfl, _, rfl, _, rfl, _, _, rfl, rfl, ?_⟩
      refine ⟨da, 1 + r, ?_, by omega, kp6.drw, fun H7 r4 k7 h7 => ⟨_, _, rfl, rfl, _, rfl, a, own.map nv, rfl, SqL.of (k7.at_ hne ea6), fun q1 m1 => ?_⟩⟩
      · show [V.ref da, V.int ((x : Int) + 1 + (r : Int) - (x : Int))] = [V.ref da, nv (1 + r)]
        rw [show ((x : Int) + 1 + (r : Int) - (x : Int)) = ((1 + r : Nat) : Int) by omega]
        rfl
      have c2 : cutV (own.map nv) (some (x : Int)) (some ((x : Int) + 1 + (r4 : Int))) = (seg own x (x + 1 + r4)).map nv := by
        rw [show ((x : Int) + 1 + (r4 : Int)) = ((x + 1 + r4 : Nat) : Int) by omega, cut_mid (own.map nv) x (x + 1 + r4) (by omega) (by rw [List.length_map]; omega)]
        unfold seg
        rw [List.map_take, List.map_drop]
      have t1 := same_new (.lst (cutV (own.map nv) (some (x : Int)) (some ((x : Int) + 1 + (r4 : Int))))) m1
      refine ⟨q1, seg own x (x + 1 + r4), rfl, SqL.of (by rw [← c2]; exact upd_same), fun q2 m2 => ⟨q2, _, rfl, .inl ⟨SqL.of upd_same, fun q3 m3 => ?_⟩⟩⟩
      have t2 := same_new (.lst ((srt (seg own x (x + 1 + r4))).map nv)) m2
      have t3 := same_new (.tup ((srt (seg own x (x + 1 + r4))).map nv)) m3
      have t123 := (t1.trans t2).trans t3
      have kp7 := (kp6.trans k7).same t123
      refine ⟨_, rfl, da, 3, rfl, by decide, kp7.drw, fun H8 r5 k8 h8 => ⟨(by show 2 ≤ sizeLine; decide), fun q4 m4 => ?_⟩⟩
      have t4 := same_new (.tup [.ref q3, nv r5]) m4
      have kp8 := (kp7.trans k8).same t4
      have tk34 := (k8.tk kp7.drw).trans (Same.tk t4)
      have eg8 := t4 _ _ (k8.at_ gne (t123 _ _ (k7.at_ gne eg6)))
      have tkA := (k7.tk kp6.drw).trans ((Same.tk t123).trans tk34)
      refine ⟨gl, grs ++ [.ref p4], _, rfl, rfl, eg8, by rw [List.length_append, grl]; exact szk (by simp only [List.length_singleton]; omega), ?_⟩
      have tkU := TK.lst (.lst (grs ++ [.ref p4] ++ [.ref q4])) eg8
      refine ⟨_, rfl, x + 1 + r, gs ++ [(srt (seg own x (x + 1 + r)), r2)] ++ [(srt (seg own x (x + 1 + r4)), r5)], grs ++ [.ref p4] ++ [.ref q4], _, rfl, by omega, hb, kp8.put ngl dr _, upd_same, ?_, ginv_two nd inv (by omega) (by omega) _ _, ?_⟩
      · rw [List.map_append]
        exact IsAll.append ((i6.k tkA).k tkU) (IsAll.one (is_group.mpr ⟨q4, q3, rfl, tkU _ _ upd_same, tkU _ _ (tk34 _ _ upd_same)⟩))
      · rw [List.length_append, List.length_append]
        simp only [List.length_singleton]
        omega
    · refine ⟨_, rfl, x + 1 + r, gs ++ [(srt (seg own x (x + 1 + r)), r2)], grs ++ [.ref p4], _, rfl, by omega, hb, kp6, eg6, i6, ginv_one nd inv (by omega) _, ?_⟩
      rw [List.length_append]
      simp only [List.length_singleton]
      omega
  · rw [decide_eq_false (by omega)]
    have ex : x = own.length := by omega
    subst ex
    refine iteF (A := True) ⟨_, rfl, _, rfl, da, 5, rfl, by decide, kp.drw, fun H1 r k1 hr1 => ?_⟩
    refine ⟨1, r, rfl, rfl, (1 + r : Nat), (by show V.int (1 + (r : Int)) = .int ((1 + r : Nat) : Int); congr 1), gl, grs, rfl, SqL.of (k1.at_ gne eg), fun p np => ?_⟩
    refine ⟨p, _, rfl, .inl ⟨SqL.of upd_same, fun p2 n2 => ?_⟩⟩
    obtain ⟨lam, gq⟩ := inv.take (1 + r)
    rw [cut_take] at n2 ⊢
    have s1 := same_new (.lst (grs.take (1 + r))) np
    have s2 := same_new (.tup (grs.take (1 + r))) n2
    refine q _ (.ref p2) (gs.take (1 + r)) (((kp.trans k1).same s1).same s2) ⟨p2, _, rfl, upd_same, ?_⟩ (by rw [List.length_take]; omega) lam gq
    rw [List.map_take]
    exact (hgs.take _).k (((k1.tk kp.drw).trans (Same.tk s1)).trans (Same.tk s2))
end
end KW

namespace KW
open PySem PySem.Spec PyProof.Rows L2 K39 LamX
theorem seq_cut {t u : TS} {D : Ends} {σ : L2.St} {H : Hp} (N : L2.St → Hp → Prop) (h2 : ∀ σ' H', N σ' H' → u D σ' H') (h1 : (∀ σ' H', N σ' H' → u D σ' H') → t { D with nx := u D } σ H) : tSeq t u D σ H := h1 h2
theorem tOr_any {A B : TT} {σ : L2.St} {H : Hp} {R : Bool → Hp → Prop} (hA : ∀ Q : Bool → Hp → Prop, (∀ b, Q b H) → A σ H Q) (hB : ∀ Q : Bool → Hp → Prop, (∀ b, Q b H) → B σ H Q) (hR : ∀ b, R b H) : tOr A B σ H R := hA _ fun c => by
  cases c with
  | true => exact hR true
  | false => exact hB _ hR
theorem seq_of {t u : TS} {D : Ends} {σ : L2.St} {H : Hp} (h : t { D with nx := u D } σ H) : tSeq t u D σ H := h
theorem asg_of {te : TE} {g : TG} {D : Ends} {σ : L2.St} {H : Hp} (h : te σ H fun x H1 => g x σ H1 D.nx) : tAsg te g D σ H := h
theorem cb_of {r : List V → Hp → VK → Prop} {t : TA} {σ : L2.St} {H : Hp} {Q : VK} (h : t σ H fun vs H1 => r vs H1 Q) : tCB r t σ H Q := h
theorem cons_of {te : TE} {t : TA} {σ : L2.St} {H : Hp} {Q : List V → Hp → Prop} (h : te σ H fun x H1 => t σ H1 fun xs H2 => Q (x :: xs) H2) : tCons te t σ H Q := h
theorem nm_of {i : Nat} {x : V} {σ : L2.St} {H : Hp} {Q : L2.St → Hp → Prop} (h : Q (σ.set i (some x)) H) : gName i x σ H Q := h
theorem nodup_len {l m : List Nat} (nd : l.Nodup) (h : ∀ c ∈ l, c ∈ m) : l.length ≤ m.length := by
  induction l generalizing m with
  | nil => exact Nat.zero_le _
  | cons a l ih =>
    obtain ⟨h1, h2⟩ := List.nodup_cons.mp nd
    have ha := h a List.mem_cons_self
    have := ih (m := m.erase a) h2 fun c hc => (List.mem_erase_of_ne (fun z => h1 (by rw [← z]; exact hc))).mpr (h c (List.mem_cons_of_mem _ hc))
    rw [List.length_erase_of_mem ha] at this
    have hp := List.length_pos_of_mem ha
    rw [List.length_cons]
    omega
theorem Fz.kp {H H' : Hp} {a da : Addr} {xs : List V} (h : Fz H a xs) (k : Kp da H H') (n : a ≠ da) : Fz H' a xs := by
  obtain ⟨o, e, r⟩ := h
  exact ⟨o, k.at_ n e, r⟩
theorem at_nats {l : List Nat} {r : Nat} (h : r < l.length) : atI (l.map nv) (r : Int) = some (nv l[r]) := atI_nat (j := r) (by rw [List.getElem?_map, List.getElem?_eq_getElem h]; rfl)
/-- [c for c in xs if _law_take(draws, 7) > 0] -/
theorem rd_few {K : PySem.W.Frag} {σ : L2.St} {i : Nat} {H1 : Hp} {da ba : Addr} {B : List Nat} {Q : VK} (hi : σ[i]? = some (some (.ref ba))) (h5 : ∀ v : V, wipe ((wipe σ [5]).set 5 (some v)) [5] = wipe σ [5]) (h50 : ∀ v : V, ((wipe σ [5]).set 5 (some v))[5]? = some (some v)) (h0 : ∀ v : V, ((wipe σ [5]).set 5 (some v))[0]? = some (some (.ref da)))
    (dr : Drw H1 da) (hB : H1 ba = some (.lst (B.map nv))) (nb : ba ≠ da) (lB : B.length ≤ 20) (q : ∀ D H2 (row : List Nat), Kp da H1 H2 → H1 D = none → H2 D = some (.lst (row.map nv)) → row.Sublist B → Q (.ref D) H2) :
    tLc (iList K (tVar i)) (gName 5) (tTest (tOp (rI0 fun i j => V.bl (decide (j < i))) (tCall spTk [] E0 (tCons (tVar 0) (tCons (tC (.int 7)) tNil))) (tC (.int 0)))) (tVar 5) [5] σ H1 Q := by
  refine ⟨_, hi, ba, rfl, ⟨_, SqL.of hB⟩, fun D nD => ?_⟩
  have ne := dr.ne nD
  refine lc_raw (G := fun H' => Kp da H1 H') (l := B) (enc := nv) (itOf_list fun H' g => SqL.of (g.at_ nb hB)) (fun k H' => Kp da H1 H' ∧ ∃ row : List Nat, H' D = some (.lst (row.map nv)) ∧ row.Sublist (B.take k)) ⟨Same.kp (same_new _ nD) dr, [], upd_same, List.Sublist.refl _⟩ (fun k H' p => p.1) (fun k c H' hx p => ?_) fun H' p => ?_
  · obtain ⟨kp, row, eD, sub⟩ := p
    have et := take_snoc hx
    have hk : k < B.length := (List.getElem?_eq_some_iff.mp hx).1
    refine ⟨h5 _, _, h0 _, da, 7, rfl, by decide, kp.drw, fun H2 r k2 h2 => ⟨_, _, rfl, rfl, _, rfl, ?_⟩⟩
    have eD2 := k2.at_ ne eD
    have len := sub.length_le
    rw [List.length_take] at len
    refine ite2 (fun _ => ?_) (fun _ => ?_)
    · refine ⟨_, h50 _, row.map nv, eD2, by rw [List.length_map]; exact szk (by omega), (kp.trans k2).put nD dr _, row ++ [c], ?_, ?_⟩
      · rw [upd_same, List.map_append]
        rfl
      · rw [et]
        exact sub.append (List.Sublist.refl [c])
    · refine ⟨kp.trans k2, row, eD2, ?_⟩
      rw [et]
      exact sub.trans (List.sublist_append_left _ _)
  · obtain ⟨kp, row, eD, sub⟩ := p
    rw [List.take_length] at sub
    exact q D H' row kp nD eD sub
theorem rd_thaw {H0 H' : Hp} {σ : L2.St} {u dd ch : Addr} {ups downs : List V} {Q : VK} (h9 : σ[9]? = some (some (.ref ch))) (nu : H0 u = none) (nd : H0 dd = none) (ne : u ≠ dd) (fu : Fz H' u ups) (fd : Fz H' dd downs)
    (q : Q (.ref ch) (upd (upd H' u (.tup ups)) dd (.tup downs))) : tThaw H0 (tThaw H0 (tVar 9)) σ H' Q := by
  obtain ⟨o, e, _⟩ := fu
  obtain ⟨o2, e2, _⟩ := fd
  exact ⟨u, o, ups, nu, e, dd, o2, downs, nd, by rw [upd_ne (fun z => ne z.symm)]; exact e2, _, h9, q⟩
/-- a test whose value does not matter -/
theorem len_any {K : PySem.W.Frag} {σ : L2.St} {H : Hp} {i : Nat} {a : Addr} {xs : List V} (hi : σ[i]? = some (some (.ref a))) (h : SqL K H a xs) (Q : Bool → Hp → Prop) (q : ∀ b, Q b H) : tTest (tOp rEq (tCB (rLenS K) (tCons (tVar i) tNil)) (tC (.int 0))) σ H Q :=
  ⟨_, hi, a, xs, rfl, .inl h, rfl, _, rfl, q _⟩
section
variable {P : Program} {w : World} {K : PySem.W.Frag} {mg : Str → Option Value} {base : Heap}
theorem scCc : FnScope ["_law_draws_here", "_law_buys", "_law_sells", "_law_kind", "_law_room", "_law_c", "_law_few", "_law_ups", "_law_downs", "_law_choice_here"] ["_law_draws_here", "_law_buys", "_law_sells"] (defScope (top 31)) := ⟨rfl, rfl, rfl, by decide +kernel, rfl, by decide +kernel, by decide +kernel⟩
def spCc (K : PySem.W.Frag) : Sp := fun vs H Q _ => ∃ (da ba sa : Addr) (B S : List Nat), vs = [.ref da, .ref ba, .ref sa] ∧ ba ≠ da ∧ sa ≠ da ∧ H ba = some (.lst (B.map nv)) ∧ H sa = some (.lst (S.map nv)) ∧ B.Nodup ∧ S.Nodup ∧ (∀ c ∈ B, c ∉ S) ∧ B.length ≤ 20 ∧ S.length ≤ 20 ∧ Drw H da ∧
  ∀ H' q (p : PCh), Kp da H H' → Is H' (encP p) q → (∀ n, (∀ c ∈ B, c < n) → (∀ c ∈ S, c < n) → WFP n p) → (∀ price, GoodP price (fun c => c ∈ B) (fun c => c ∈ S) p) → Q q H'
theorem has_Cc (bt : Bt mg) (htk : Has P w K mg base 1 "_law_take" ["_law_draws_here", "_law_many"] spTk) (hws : Has P w K mg base 2 "_law_wishes" ["_law_draws_here", "_law_contracts"] spWsF) (hgr : Has P w K mg base 2 "_law_groups" ["_law_draws_here", "_law_own_here"] spGr)
    (htb : Has P w K mg base 2 "_law_table" ["_law_choice_here", "_law_own_here"] (spTb K)) (d : At K mg "_law_choice" 31) : Has P w K mg base 3 "_law_choice" ["_law_draws_here", "_law_buys", "_law_sells"] (spCc K) := by
  obtain ⟨fT, fdT, GT, gT, kT, bT⟩ := (htk.up (k := 2) (by decide)).ex
  obtain ⟨fW, fdW, GW, gW, kW, bW⟩ := hws.ex
  obtain ⟨fG, fdG, GG, gG, kG, bG⟩ := hgr.ex
  obtain ⟨fB, fdB, GB, gB, kB, bB⟩ := htb.ex
  refine has_of d scCc (fun vs H Q E h => ?_) (fun _ _ _ _ _ _ us hl => match us, hl with | [_, _, _], _ => rfl) (fun f cdv A0 outer s H vs Q E hr h => ?_)
  · obtain ⟨da, ba, sa, B, S, rfl, _⟩ := h
    rfl
  obtain ⟨da, ba, sa, B, S, rfl, nb, ns, hB, hS, ndB, ndS, dj, lB, lS, dr, q⟩ := h
  refine ⟨_, pss_cons (ps_set (i := 3) scCc.nd rfl (Or.inl rfl) (pe_call GT hr rfl gT kT bT .nil pass0 (pa_cons (pv 0) (pa_cons pe_int pa_nil))))
    (pss_cons (ps_set (i := 4) scCc.nd rfl (Or.inl rfl) (pe_ix ix_list (pe_lst (pa_cons pe_int (pa_cons pe_int (pa_cons pe_int (pa_cons pe_int (pa_cons pe_int (pa_cons pe_int pa_nil))))))) (pe_call GT hr rfl gT kT bT .nil pass0 (pa_cons (pv 0) (pa_cons pe_int pa_nil))) (fun _ _ => rfl)))
    (pss_cons (ps_if (pt_cmpR op_eq (pv 3) pe_int (nomark _))
      (pss_cons (ps_set (i := 6) scCc.nd rfl (Or.inl rfl) (pe_callTy call_tuple_of rfl bt.tuple (by decide +kernel) (pa_cons (pe_lc (own := [("_law_c", 5)]) (g := gName 5) rfl scCc.nd (pi_list (pv 1)) (blkOk_by (N := ["_law_draws_here", "_law_buys", "_law_sells", "_law_kind", "_law_room", "_law_c", "_law_few", "_law_ups", "_law_downs", "_law_choice_here"]) (sc := defScope (top 31)) (by decide +kernel))
          (fun _ _ _ _ _ => pg_name (i := 5) scCc.nd rfl (.inl rfl)) (fun _ _ _ _ _ => pts_one (pt_cmpR op_gt (pe_call GT hr rfl gT kT bT .nil pass0 (pa_cons (pv 0) (pa_cons pe_int pa_nil))) pe_int (nomark _))) (fun _ _ _ _ _ => pv 5)) pa_nil)))
      (pss_one (ps_ret (pe_tup (pa_cons pe_str (pa_cons (pv 4) (pa_cons (pe_op op_sub (pe_call GT hr rfl gT kT bT .nil pass0 (pa_cons (pv 0) (pa_cons pe_int pa_nil))) pe_int) (pa_cons (pv 6) (pa_cons (pe_callTy call_tuple_of rfl bt.tuple (by decide +kernel) (pa_cons (pe_lc (own := [("_law_c", 5)]) (g := gName 5) rfl scCc.nd (pi_list (pv 2)) (blkOk_by (N := ["_law_draws_here", "_law_buys", "_law_sells", "_law_kind", "_law_room", "_law_c", "_law_few", "_law_ups", "_law_downs", "_law_choice_here"]) (sc := defScope (top 31)) (by decide +kernel))
          (fun _ _ _ _ _ => pg_name (i := 5) scCc.nd rfl (.inl rfl)) (fun _ _ _ _ _ => pts_one (pt_cmpR op_gt (pe_call GT hr rfl gT kT bT .nil pass0 (pa_cons (pv 0) (pa_cons pe_int pa_nil))) pe_int (nomark _))) (fun _ _ _ _ _ => pv 5)) pa_nil)) pa_nil)))))))))
      pss_nil)
    (pss_cons (ps_set (i := 7) scCc.nd rfl (Or.inl rfl) (pe_call GW hr rfl gW kW bW .nil pass0 (pa_cons (pv 0) (pa_cons (pv 1) pa_nil))))
    (pss_cons (ps_set (i := 8) scCc.nd rfl (Or.inl rfl) (pe_call GW hr rfl gW kW bW .nil pass0 (pa_cons (pv 0) (pa_cons (pv 2) pa_nil))))
    (pss_cons (ps_if (pt_cmpR op_eq (pv 3) pe_int (nomark _))
      (pss_one (ps_ret (pe_thaw (pe_thaw (pe_tup (pa_cons pe_str (pa_cons (pv 7) (pa_cons (pe_call GG hr rfl gG kG bG .nil pass0 (pa_cons (pv 0) (pa_cons (pe_callTy call_list_of rfl bt.list (by decide +kernel) (pa_cons (pv 1) pa_nil)) pa_nil))) (pa_cons (pv 8) (pa_cons (pe_call GG hr rfl gG kG bG .nil pass0 (pa_cons (pv 0) (pa_cons (pe_callTy call_list_of rfl bt.list (by decide +kernel) (pa_cons (pv 2) pa_nil)) pa_nil))) pa_nil)))))))))) pss_nil)
    (pss_cons (ps_set (i := 9) scCc.nd rfl (Or.inl rfl) (pe_tup (pa_cons pe_str (pa_cons (pv 4) (pa_cons (pv 7) (pa_cons (pv 8) pa_nil))))))
    (pss_cons (ps_if (PW.pt (pw_or (pt_cmpR op_eq (pv 3) pe_int (nomark _)) (pw_or (pt_cmpR op_eq (pe_callB (r := rLenS K) call_len_seq rfl bt.len (by decide +kernel) (pa_cons (pv 1) pa_nil)) pe_int (nomark _)) (pw_or1 (pt_cmpR op_eq (pe_callB (r := rLenS K) call_len_seq rfl bt.len (by decide +kernel) (pa_cons (pv 2) pa_nil)) pe_int (nomark _))))))
      (pss_one (ps_set (i := 9) scCc.nd rfl (Or.inl rfl) (pe_tup (pa_cons pe_str (pa_cons (pv 4) (pa_cons (pv 7) (pa_cons (pe_ix ix_list (pe_lst (pa_cons pe_int (pa_cons pe_int (pa_cons pe_int (pa_cons pe_int pa_nil))))) (pe_call GT hr rfl gT kT bT .nil pass0 (pa_cons (pv 0) (pa_cons pe_int pa_nil))) (fun _ _ => rfl)) (pa_cons (pv 8) pa_nil)))))))) pss_nil)
    (pss_cons (ps_if (PW.pt (pw_and (pt_cmpR op_eq (pv 3) pe_int (nomark _)) (pw_and1 (pt_cmpR op_lt (pe_op op_add (pe_callB (r := rLenS K) call_len_seq rfl bt.len (by decide +kernel) (pa_cons (pv 1) pa_nil)) (pe_callB (r := rLenS K) call_len_seq rfl bt.len (by decide +kernel) (pa_cons (pv 2) pa_nil))) pe_int (nomark _)))))
      (pss_one (ps_ret (pe_call GB hr rfl gB kB bB .nil pass0 (pa_cons (pv 9) (pa_cons (pe_callB (r := rSrt K) cr_srt rfl bt.sorted (by decide +kernel) (pa_cons (pe_op op_cat (pv 1) (pv 2)) pa_nil)) pa_nil))))) pss_nil)
    (pss_one (ps_ret (pe_thaw (pe_thaw (pv 9))))))))))))), ?_⟩
  refine ⟨_, rfl, da, 8, rfl, by decide, dr, fun H1 kind k1 hk1 => ?_⟩
  refine ⟨(by show 6 ≤ sizeLine; decide), fun lr nlr => ?_⟩
  have kr := k1.same (same_new (.lst [.int 1, .int 1, .int 2, .int 3, .int 9, .int 0]) nlr)
  refine ⟨_, rfl, da, 6, rfl, by decide, kr.drw, fun H2 r2 k2 hr2 => ?_⟩
  have at6 : ∃ room : Nat, atI [V.int 1, V.int 1, V.int 2, V.int 3, V.int 9, V.int 0] (r2 : Int) = some (nv room) := ⟨_, at_nats (l := [1, 1, 2, 3, 9, 0]) hr2⟩
  obtain ⟨room, eroom⟩ := at6
  refine ⟨lr, _, r2, nv room, rfl, rfl, SqL.of (k2.at_ (k1.drw.ne nlr) upd_same), eroom, ?_⟩
  have kq := kr.trans k2
  refine ⟨_, rfl, rfl, _, rfl, ?_⟩
  refine ite2 (fun _ => ?_) (fun _ => ?_)
  · -- a trader
    refine seq_of (asg_of (cb_of (cons_of ?_)))
    refine rd_few (K := K) (i := 1) (σ := [some (.ref da), some (.ref ba), some (.ref sa), some (nv kind), some (nv room), none, none, none, none, none]) rfl (fun _ => rfl) (fun _ => rfl) (fun _ => rfl) kq.drw (kq.at_ nb hB) nb lB fun D1 H3 few1 k3 n3 e3 sub1 => ?_
    refine ⟨D1, _, rfl, .inl ⟨SqL.of e3, fun f1 nf1 => ?_⟩⟩
    have kp3 := (kq.trans k3).same (same_new (.tup (few1.map nv)) nf1)
    refine ⟨_, rfl, _, rfl, da, 6, rfl, by decide, kp3.drw, fun H4 r4 k4 hr4 => ⟨_, _, rfl, rfl, _, rfl, ?_⟩⟩
    have kp4 := kp3.trans k4
    have ef1 : NT H4 f1 few1 := (k4.tk kp3.drw) _ _ upd_same
    refine cons_of (cb_of (cons_of ?_))
    refine rd_few (K := K) (i := 2) (σ := [some (.ref da), some (.ref ba), some (.ref sa), some (nv kind), some (nv room), none, some (.ref f1), none, none, none]) rfl (fun _ => rfl) (fun _ => rfl) (fun _ => rfl) kp4.drw (kp4.at_ ns hS) ns lS fun D2 H5 few2 k5 n5 e5 sub2 => ?_
    refine ⟨D2, _, rfl, .inl ⟨SqL.of e5, fun f2 nf2 => ⟨(by show 5 ≤ sizeLine; decide), fun t nt => ?_⟩⟩⟩
    have s6 := same_new (.tup (few2.map nv)) nf2
    have s7 := same_new (.tup [.str "trader", nv room, .int ((r4 : Int) - 2), .ref f1, .ref f2]) nt
    have l1 := sub1.length_le
    have l2 := sub2.length_le
    refine q _ (.ref t) (.trader room ((r4 : Int) - 2) few1 few2) (((kp4.trans k5).same s6).same s7) (is_trader.mpr ⟨t, f1, f2, rfl, upd_same, s7 _ _ (s6 _ _ ((k5.tk kp4.drw) _ _ ef1)), s7 _ _ upd_same⟩)
      (fun n h1 h2 => ⟨⟨by omega, fun c hc => h1 c (sub1.subset hc)⟩, by omega, fun c hc => h2 c (sub2.subset hc)⟩) fun price => good_traderP (fun c hc => sub1.subset hc) (fun c hc => sub2.subset hc) (ndB.sublist sub1) (ndS.sublist sub2)
  · refine ⟨_, rfl, _, rfl, da, ba, B, rfl, nb, kq.at_ nb hB, ndB, by omega, kq.drw, fun H3 u ups k3 fu ndu uin nu => ?_⟩
    have kp3 := kq.trans k3
    have une := kq.drw.ne nu
    have nuH := kq.none dr nu
    refine ⟨_, rfl, _, rfl, da, sa, S, rfl, ns, kp3.at_ ns hS, ndS, by omega, kp3.drw, fun H4 dd downs k4 fd ndd din nd => ?_⟩
    have kp4 := kp3.trans k4
    have dne := kp3.drw.ne nd
    have ndH := kp3.none dr nd
    have fu4 := fu.kp k4 une
    have nud : u ≠ dd := fun z => by
      obtain ⟨o, e, _⟩ := fu
      rw [z, nd] at e
      cases e
    have lu : ups.length ≤ 20 := Nat.le_trans (nodup_len ndu uin) lB
    have ld : downs.length ≤ 20 := Nat.le_trans (nodup_len ndd din) lS
    refine ⟨_, rfl, rfl, _, rfl, ?_⟩
    refine ite2 (fun _ => ?_) (fun _ => ?_)
    · -- caps
      obtain ⟨ou, eu, _⟩ := fu4
      obtain ⟨od, ed, _⟩ := fd
      have kt : Kp da H (upd (upd H4 u (.tup (ups.map nv))) dd (.tup (downs.map nv))) := (kp4.put nuH dr _).put' ndH dr _
      have tu : NT (upd (upd H4 u (.tup (ups.map nv))) dd (.tup (downs.map nv))) u ups := by
        show upd _ _ _ _ = _
        rw [upd_ne nud, upd_same]
      have td : NT (upd (upd H4 u (.tup (ups.map nv))) dd (.tup (downs.map nv))) dd downs := upd_same
      refine ⟨u, ou, ups.map nv, nuH, eu, dd, od, downs.map nv, ndH, by rw [upd_ne (fun z => nud z.symm)]; exact ed, ?_⟩
      generalize upd (upd H4 u (.tup (ups.map nv))) dd (.tup (downs.map nv)) = Ht at *
      refine ⟨_, rfl, _, rfl, _, rfl, ba, B.map nv, rfl, .inl (SqL.of (kt.at_ nb hB)), fun l nl => ?_⟩
      have s1 := same_new (.lst (B.map nv)) nl
      have kt1 := kt.same s1
      refine ⟨da, l, B, rfl, kt.drw.ne nl, upd_same, ndB, by omega, kt1.drw, fun H5 gq gs k5 i5 g1 lam gg => ?_⟩
      have kt5 := kt1.trans k5
      refine ⟨_, rfl, _, rfl, _, rfl, sa, S.map nv, rfl, .inl (SqL.of (kt5.at_ ns hS)), fun l2 nl2 => ?_⟩
      have s2 := same_new (.lst (S.map nv)) nl2
      have kt6 := kt5.same s2
      refine ⟨da, l2, S, rfl, kt5.drw.ne nl2, upd_same, ndS, by omega, kt6.drw, fun H7 gq2 gs2 k7 i7 g2 lam2 gg2 => ⟨(by show 5 ≤ sizeLine; decide), fun t nt => ?_⟩⟩
      have kt7 := kt6.trans k7
      have s8 := same_new (.tup [.str "caps", .ref u, gq, .ref dd, gq2]) nt
      have tk1 := ((Same.tk s1).trans (k5.tk kt1.drw)).trans ((Same.tk s2).trans ((k7.tk kt6.drw).trans (Same.tk s8)))
      refine q _ (.ref t) (.caps ups gs downs gs2) (kt7.same s8) (is_caps.mpr ⟨t, u, dd, gq, gq2, rfl, upd_same, tk1 _ _ tu, tk1 _ _ td, i5.k ((Same.tk s2).trans ((k7.tk kt6.drw).trans (Same.tk s8))), i7.k (Same.tk s8)⟩)
        (fun n h1 h2 => ⟨⟨⟨by omega, fun c hc => h1 c (uin c hc)⟩, by omega, fun c hc => h2 c (din c hc)⟩, ⟨g1, fun g hg => Nat.le_trans (gg g hg).2.1 (by omega)⟩, g2, fun g hg => Nat.le_trans (gg2 g hg).2.1 (by omega)⟩)
        fun price => good_capsP uin din ndu ndd lam lam2 (fun g hg => (gg g hg).1) (fun g hg => (gg2 g hg).1)
    · refine ⟨_, rfl, _, rfl, _, rfl, (by show 4 ≤ sizeLine; decide), fun ch nch => ?_⟩
      have sch := same_new (.tup [.str "maker", nv room, .ref u, .ref dd]) nch
      have kch := kp4.same sch
      refine nm_of ?_
      dsimp only
      refine seq_cut (fun σ' H' => ∃ (ch : Addr) (cxs : List V) (p : PCh), σ' = [some (.ref da), some (.ref ba), some (.ref sa), some (nv kind), some (nv room), none, none, some (.ref u), some (.ref dd), some (.ref ch)] ∧ Kp da H H' ∧ Fz H' u (ups.map nv) ∧ Fz H' dd (downs.map nv) ∧ H' ch = some (.tup cxs) ∧ atI cxs 2 = some (.ref u) ∧ atI cxs (-1) = some (.ref dd) ∧
        two p = some (ups, downs) ∧ (∀ H5, H5 ch = some (.tup cxs) → SqT K H5 u (ups.map nv) → SqT K H5 dd (downs.map nv) → IsMS K H5 p (.ref ch)) ∧ (∀ H5, H5 ch = some (.tup cxs) → NT H5 u ups → NT H5 dd downs → Is H5 (encP p) (.ref ch)) ∧ (∀ price, GoodP price (fun c => c ∈ B) (fun c => c ∈ S) p) ∧ (∀ n, (∀ c ∈ B, c < n) → (∀ c ∈ S, c < n) → WFP n p)) ?_ fun last => ?_
      · rintro σ' H' ⟨ch, cxs, p, rfl, kp, fu, fd, hch, hx2, hxm, e2, hms, his, good, wfp⟩
        have neu : ch ≠ u := fun z => by
          obtain ⟨o, e, _⟩ := fu
          rw [z, e] at hch
          cases hch
        have ned : ch ≠ dd := fun z => by
          obtain ⟨o, e, _⟩ := fd
          rw [z, e] at hch
          cases hch
        have back : Q (.ref ch) (upd (upd H' u (.tup (ups.map nv))) dd (.tup (downs.map nv))) := by
          refine q _ _ p ((kp.put nuH dr _).put' ndH dr _) (his _ ?_ ?_ upd_same) wfp good
          · rw [upd_ne ned, upd_ne neu]
            exact hch
          · show upd _ _ _ _ = _
            rw [upd_ne nud, upd_same]
        refine ⟨_, rfl, rfl, _, rfl, ?_⟩
        refine ite2 (fun _ => ?_) (fun _ => ?_)
        · refine ⟨_, rfl, ba, _, rfl, .inl (SqL.of (kp.at_ nb hB)), _, rfl, sa, _, rfl, .inl (SqL.of (kp.at_ ns hS)), _, _, rfl, rfl, _, _, rfl, rfl, _, rfl, ?_⟩
          rw [List.length_map, List.length_map]
          refine ite2 (fun h6 => ?_) (fun _ => ?_)
          · have h6' : B.length + S.length < 6 := by
              have := of_decide_eq_true h6
              omega
            refine ⟨_, rfl, _, rfl, _, rfl, ba, sa, _, _, rfl, rfl, kp.at_ nb hB, kp.at_ ns hS, by rw [List.length_map, List.length_map]; exact szl (by omega), fun p1 n1 => ?_⟩
            have s1 := same_new (.lst (B.map nv ++ S.map nv)) n1
            refine ⟨p1, B ++ S, rfl, SqL.of (by rw [List.map_append]; exact upd_same), fun p2 n2 => ?_⟩
            have s2 := same_new (.lst ((srt (B ++ S)).map nv)) n2
            have s12 := s1.trans s2
            have lu5 := nodup_len ndu uin
            have ld5 := nodup_len ndd din
            refine ⟨.ref ch, p2, p, ups, downs, srt (B ++ S), rfl, ⟨ch, u, dd, cxs, rfl, s12 _ _ hch, hx2, hxm, fu.same s12, fd.same s12, hms _ (s12 _ _ hch) (fu.same s12).sqt (fd.same s12).sqt⟩, e2, ndu, ndd, fun c h1 h2 => dj c (uin c h1) (din c h2), fun c hc => srt_mem.mpr (List.mem_append_left _ (uin c hc)), fun c hc => srt_mem.mpr (List.mem_append_right _ (din c hc)), by rw [srt_len, List.length_append]; omega, by omega, by omega, upd_same, fun H6 qv rows s6 is6 rl rq fnd => ?_⟩
            obtain ⟨k1, k2, U, ech⟩ := two_chosen e2
            refine q H6 qv (.table rows) (kp.same (s12.trans s6)) is6 (fun n h1 h2 => ⟨rl, fun r hr => ⟨(rq r hr).1, fun c hc => ?_⟩⟩) fun price => good_table (good price) (ech price) fun Y => ?_
            · rcases (rq r hr).2 c hc with z | z
              · exact h1 c (uin c z)
              · exact h2 c (din c z)
            · rw [fnd Y, ech]
          · exact rd_thaw rfl nuH ndH nud fu fd back
        · exact rd_thaw rfl nuH ndH nud fu fd back
      · have n1 : (∃ (cxs : List V), True) := ⟨[], trivial⟩
        have fuc := fu4.same sch
        have fdc := fd.same sch
        refine tOr_any (fun Q q => ⟨_, rfl, rfl, _, rfl, q _⟩) (fun Q q => tOr_any (fun Q q => len_any (K := K) rfl (SqL.of (kch.at_ nb hB)) Q q) (fun Q q => len_any (K := K) rfl (SqL.of (kch.at_ ns hS)) Q q) q) fun b => ?_
        cases b with
        | true =>
          refine iteT (B := True) ⟨_, rfl, _, rfl, (by show 4 ≤ sizeLine; decide), fun l4 nl4 => ?_⟩
          have s4 := same_new (.lst [.int 1, .int 1, .int 2, .int 9]) nl4
          have k4' := kch.same s4
          refine ⟨_, rfl, da, 4, rfl, by decide, k4'.drw, fun H6 r6 k6 h6 => ?_⟩
          have at4 : ∃ room : Nat, atI [V.int 1, V.int 1, V.int 2, V.int 9] (r6 : Int) = some (nv room) := ⟨_, at_nats (l := [1, 1, 2, 9]) h6⟩
          obtain ⟨room2, eroom2⟩ := at4
          refine ⟨l4, _, r6, nv room2, rfl, rfl, SqL.of (k6.at_ (kch.drw.ne nl4) upd_same), eroom2, _, rfl, (by show 5 ≤ sizeLine; decide), fun c2 nc2 => ?_⟩
          have s6 := same_new (.tup [.str "sides", nv room, .ref u, nv room2, .ref dd]) nc2
          exact last _ _ ⟨c2, _, .sides room ups room2 downs, rfl, (k4'.trans k6).same s6, ((fuc.same s4).kp k6 une).same s6, ((fdc.same s4).kp k6 dne).same s6, upd_same, rfl, rfl, rfl, fun H5 h1 h2 h3 => ⟨c2, u, dd, rfl, h1, h2, h3⟩, fun H5 h1 h2 h3 => is_sides.mpr ⟨c2, u, dd, rfl, h1, h2, h3⟩, fun price => good_sidesP uin din ndu ndd, fun n h1 h2 => ⟨⟨by omega, fun c hc => h1 c (uin c hc)⟩, by omega, fun c hc => h2 c (din c hc)⟩⟩
        | false =>
          refine iteF (A := True) (last _ _ ⟨ch, _, .maker room ups downs, rfl, kch, fuc, fdc, upd_same, rfl, rfl, rfl, fun H5 h1 h2 h3 => ⟨ch, u, dd, rfl, h1, h2, h3⟩, fun H5 h1 h2 h3 => is_maker.mpr ⟨ch, u, dd, rfl, h1, h2, h3⟩, fun price => good_makerP uin din ndu ndd, fun n h1 h2 => ⟨⟨by omega, fun c hc => h1 c (uin c hc)⟩, by omega, fun c hc => h2 c (din c hc)⟩⟩)
end
end KW

namespace KW
open PySem PySem.Spec PyProof.Rows L2 K39 LamX
theorem for_rngN {n : Nat} {g : TG} {tb : TS} {D : Ends} {σ : L2.St} {H : Hp} (Pv : Nat → L2.St → Hp → Prop) (h0 : Pv 0 σ H)
    (hs : ∀ i σ H, i < n → Pv i σ H → g (nv i) σ H fun σ2 H2 => tb { D with nx := Pv (i + 1), ct := Pv (i + 1), bk := D.nx } σ2 H2) (hd : ∀ σ H, Pv n σ H → D.nx σ H) :
    ∃ W : Nat → Nat → L2.St → Hp → Prop, (∃ m, W 0 m σ H) ∧ ∀ i m σ H, W i m σ H →
      ((Itr 0 n).stop i H ∧ D.nx σ H) ∨ ((Itr 0 n).go i H ∧ ∃ N : L2.St → Hp → Prop, (∀ σ' H', N σ' H' → ∃ m', m' < m ∧ W (i + 1) m' σ' H') ∧ ∀ x H', (Itr 0 n).yld i H x H' → g x σ H' fun σ2 H2 => tb { D with nx := N, ct := N, bk := D.nx } σ2 H2) :=
  for_range Pv h0 (fun i σ H hi p => by
    rw [Int.zero_add]
    exact hs i σ H hi p) hd
theorem cut_seg (xs : List V) (a b : Nat) (h1 : a ≤ b) (h2 : a ≤ xs.length) : cutV xs (some (a : Int)) (some (b : Int)) = (xs.drop a).take (b - a) := by
  unfold cutV
  rw [HT.sIx_nat, HT.sIx_nat, Nat.min_eq_left h2]
  rcases Nat.le_total b xs.length with h | h
  · rw [Nat.min_eq_left h]
  · rw [Nat.min_eq_right h, List.take_of_length_le (by rw [List.length_drop]; exact Nat.le_refl _), List.take_of_length_le (by rw [List.length_drop]; omega)]
def BL (cs : List Con) (k : Nat) : List Nat := Buysof ⟨[], cs⟩ k
def SL (cs : List Con) (k : Nat) : List Nat := Sellsof ⟨[], cs⟩ k
/-- a choice that fits the house k -/
def CG (cs : List Con) (k : Nat) (ch : Ch) : Prop := WFC cs.length ch ∧ GoodCh (priceOf cs) (fun c => c ∈ BL cs k) (fun c => c ∈ SL cs k) ch
/-- parts that share the lists B and S -/
def PG (cs : List Con) (B S : List Nat) (ps : List PCh) : Prop := (ps.length ≤ 10 ∧ ∀ p ∈ ps, WFP cs.length p) ∧ GoodPs (priceOf cs) (fun c => c ∈ B) (fun c => c ∈ S) ps
theorem take_drop_dj {l : List Nat} (nd : l.Nodup) (a : Nat) : ∀ c, c ∈ l.take a → c ∉ l.drop a := fun c h h2 => by
  rw [← List.take_append_drop a l] at nd
  exact (List.nodup_append.mp nd).2.2 c h c h2 rfl
theorem pg_nil (cs : List Con) (B S : List Nat) : PG cs B S [] := ⟨⟨by simp, fun p h => (by cases h)⟩, goodPs_nil⟩
theorem pg_one {cs : List Con} {B S : List Nat} {p : PCh} (a b : Nat) (w : WFP cs.length p) (g : GoodP (priceOf cs) (fun c => c ∈ B.take a) (fun c => c ∈ S.take b) p) : PG cs B S [p] := by
  refine ⟨⟨by simp, fun q h => by rw [List.mem_singleton.mp h]; exact w⟩, ?_⟩
  refine (goodPs_cons g (goodPs_nil (B := fun _ => False) (C := fun _ => False)) (fun _ _ h => h) (fun _ _ h => h)).wide (fun c h => ?_) (fun c h => ?_)
  · exact List.mem_of_mem_take (h.elim id False.elim)
  · exact List.mem_of_mem_take (h.elim id False.elim)
theorem pg_two {cs : List Con} {B S : List Nat} (nB : B.Nodup) (nS : S.Nodup) {p1 p2 : PCh} (a b : Nat) (w1 : WFP cs.length p1) (w2 : WFP cs.length p2) (g1 : GoodP (priceOf cs) (fun c => c ∈ B.take a) (fun c => c ∈ S.take b) p1)
    (g2 : GoodP (priceOf cs) (fun c => c ∈ B.drop a) (fun c => c ∈ S.drop b) p2) : PG cs B S [p1, p2] := by
  refine ⟨⟨by simp, fun q h => ?_⟩, ?_⟩
  · rcases List.mem_cons.mp h with h | h
    · rw [h]; exact w1
    · rw [List.mem_singleton.mp h]; exact w2
  refine (goodPs_cons g1 (goodPs_cons g2 (goodPs_nil (B := fun _ => False) (C := fun _ => False)) (fun _ _ h => h) (fun _ _ h => h)) (fun c h h2 => ?_) (fun c h h2 => ?_)).wide (fun c h => ?_) (fun c h => ?_)
  · exact take_drop_dj nB a c h (h2.elim id False.elim)
  · exact take_drop_dj nS b c h (h2.elim id False.elim)
  · rcases h with h | h | h
    · exact List.mem_of_mem_take h
    · exact List.mem_of_mem_drop h
    · exact h.elim
  · rcases h with h | h | h
    · exact List.mem_of_mem_take h
    · exact List.mem_of_mem_drop h
    · exact h.elim
theorem mem_seg_drop {l : List Nat} {a k c : Nat} (h : c ∈ (l.drop a).take k) : c ∈ l.drop a := List.mem_of_mem_take h
theorem mem_drop_drop {l : List Nat} {a k c : Nat} (h : c ∈ l.drop (a + k)) : c ∈ l.drop a := by
  rw [← List.drop_drop] at h
  exact List.mem_of_mem_drop h
theorem pg_three {cs : List Con} {B S : List Nat} (nB : B.Nodup) (nS : S.Nodup) {p1 p2 p3 : PCh} (a b : Nat) (w1 : WFP cs.length p1) (w2 : WFP cs.length p2) (w3 : WFP cs.length p3) (g1 : GoodP (priceOf cs) (fun c => c ∈ B.take a) (fun c => c ∈ S.take b) p1)
    (g2 : GoodP (priceOf cs) (fun c => c ∈ (B.drop a).take 1) (fun c => c ∈ (S.drop b).take 1) p2) (g3 : GoodP (priceOf cs) (fun c => c ∈ B.drop (a + 1)) (fun c => c ∈ S.drop (b + 1)) p3) : PG cs B S [p1, p2, p3] := by
  refine ⟨⟨by simp, fun q h => ?_⟩, ?_⟩
  · rcases List.mem_cons.mp h with h | h
    · rw [h]; exact w1
    · rcases List.mem_cons.mp h with h | h
      · rw [h]; exact w2
      · rw [List.mem_singleton.mp h]; exact w3
  have mid : ∀ {l : List Nat}, l.Nodup → ∀ {a c : Nat}, c ∈ (l.drop a).take 1 → c ∉ l.drop (a + 1) := fun {l} nd {a c} h h2 => by
    rw [← List.drop_drop] at h2
    exact take_drop_dj (nd.sublist (List.drop_sublist a l)) 1 c h h2
  refine (goodPs_cons g1 (goodPs_cons g2 (goodPs_cons g3 (goodPs_nil (B := fun _ => False) (C := fun _ => False)) (fun _ _ h => h) (fun _ _ h => h)) (fun c h h2 => ?_) (fun c h h2 => ?_)) (fun c h h2 => ?_) (fun c h h2 => ?_)).wide (fun c h => ?_) (fun c h => ?_)
  · exact mid nB h (h2.elim id False.elim)
  · exact mid nS h (h2.elim id False.elim)
  · rcases h2 with h2 | h2 | h2
    · exact take_drop_dj nB a c h (mem_seg_drop h2)
    · exact take_drop_dj nB a c h (mem_drop_drop h2)
    · exact h2
  · rcases h2 with h2 | h2 | h2
    · exact take_drop_dj nS b c h (mem_seg_drop h2)
    · exact take_drop_dj nS b c h (mem_drop_drop h2)
    · exact h2
  · rcases h with h | h | h | h
    · exact List.mem_of_mem_take h
    · exact List.mem_of_mem_drop (mem_seg_drop h)
    · exact List.mem_of_mem_drop h
    · exact h.elim
  · rcases h with h | h | h | h
    · exact List.mem_of_mem_take h
    · exact List.mem_of_mem_drop (mem_seg_drop h)
    · exact List.mem_of_mem_drop h
    · exact h.elim
/-- house by house -/
theorem good_web {hs : List House} {cs : List Con} (hn : cs.length ≤ 9) (hm : hs.length ≤ 6) (hc : ∀ c ∈ cs, c.s < hs.length ∧ c.b < hs.length ∧ c.s ≠ c.b) (hh : ∀ j x, hs[j]? = some x → CG cs j x.ch) : WFW ⟨hs, cs⟩ ∧ GoodW ⟨hs, cs⟩ := by
  have ech : ∀ h (hl : h < hs.length), (Web.ch ⟨hs, cs⟩ h) = hs[h].ch := fun h hl => by
    unfold Web.ch
    show (match hs[h]? with | some x => x.ch | none => Ch.split []) = _
    rw [List.getElem?_eq_getElem hl]
  refine ⟨⟨by show cs.length ≤ 20; omega, by show hs.length ≤ 20; omega, fun h hl => ?_, fun c h => ⟨(hc c h).1, (hc c h).2.1⟩⟩, ⟨fun c h => ?_, fun h hl => ?_⟩⟩
  · rw [ech h hl]
    exact (hh h _ (List.getElem?_eq_getElem hl)).1
  · rw [(sl_get h).2, (bu_get h).2]
    exact (hc _ (List.getElem_mem h)).2.2
  · rw [ech h hl]
    obtain ⟨b, s, g, p⟩ := (hh h _ (List.getElem?_eq_getElem hl)).2
    exact ⟨b, s, g.wide (fun c hc => (mem_buys (W := ⟨hs, cs⟩)).mp hc) (fun c hc => (mem_sells (W := ⟨hs, cs⟩)).mp hc), p⟩
/-- [c for c in range(len(contracts)) if contracts[c][j] == k] -/
theorem rd_side {K : PySem.W.Frag} {σ : L2.St} {H1 : Hp} {cl : Addr} {cs : List Con} {cxs : List V} {k : Nat} {j : Int} {sel : Con → Nat} {Q : VK} (hsel : ∀ c : Con, atI [nv c.s, nv c.b, V.int c.p] j = some (nv (sel c))) (h7 : σ[7]? = some (some (.ref cl))) (w12 : ∀ v : V, wipe ((wipe σ [12]).set 12 (some v)) [12] = wipe σ [12]) (h12 : ∀ v : V, ((wipe σ [12]).set 12 (some v))[12]? = some (some v))
    (h7' : ∀ v : V, ((wipe σ [12]).set 12 (some v))[7]? = some (some (.ref cl))) (h5' : ∀ v : V, ((wipe σ [12]).set 12 (some v))[5]? = some (some (nv k))) (ec : H1 cl = some (.lst cxs)) (hcs : IsAll H1 (cs.map encCon) cxs) (hlen : cs.length ≤ 9)
    (q : ∀ D H2, Same H1 H2 → H1 D = none → H2 D = some (.lst (((List.range cs.length).filter fun c => (cs.map sel)[c]? == some k).map nv)) → Q (.ref D) H2) :
    tLc (iRng1 (tCons (tCB (rLenS K) (tCons (tVar 7) tNil)) tNil)) (gName 12) (tTest (tOp rEq (tOp (rIxT K) (tOp (rIxL K) (tVar 7) (tVar 12)) (tC (.int j))) (tVar 5))) (tVar 12) [12] σ H1 Q := by
  have cl' : cxs.length = cs.length := by rw [hcs.length, List.length_map]
  refine ⟨_, h7, cl, cxs, rfl, .inl (SqL.of ec), _, rfl, by omega, by omega, fun D nD => ?_⟩
  rw [Int.toNat_natCast, cl']
  refine lc_filt (G := Over H1 D) (l := List.range cs.length) (enc := nv) itOf_range (fun c => (cs.map sel)[c]? == some k) nv (Over.start nD _) (fun H' ys g => g.put ys) (szk (by rw [List.length_range]; omega)) (fun n _ => w12 _) (fun n zs H2 Q1 hn g eD kk => ?_) (fun n ys H2 Q2 hn _ g eD kk => ⟨_, h12 _, kk H2 g eD⟩) fun H' g eD => q D H' g.2 nD eD
  have hlt := List.mem_range.mp hn
  obtain ⟨ta, t1, t2⟩ := con_at hcs hlt
  refine ⟨_, h7' _, _, h12 _, cl, cxs, n, .ref ta, rfl, rfl, SqL.of (g.2 _ _ ec), atI_nat (j := n) t1, ta, _, j, nv (sel cs[n]), rfl, rfl, SqT.of (g.2 _ _ t2), hsel _, _, h5' _, rfl, _, rfl, ?_⟩
  have em : ((cs.map sel)[n]? == some k) = decide (nv (sel cs[n]) = nv k) := by
    rw [List.getElem?_map, List.getElem?_eq_getElem hlt, Bool.eq_iff_iff, beq_iff_eq, decide_eq_true_eq]
    constructor
    · intro h
      rw [show sel cs[n] = k from Option.some.inj h]
    · intro h
      show some (sel cs[n]) = some k
      rw [nv_inj h]
  rw [← em]
  exact kk H2 g eD
/-- what stands by, house by house -/
structure CF (cl hl : Addr) (cs : List Con) (hs : List House) (cxs hxs : List V) (H : Hp) : Prop where
  cl : H cl = some (.lst cxs)
  cs : IsAll H (cs.map encCon) cxs
  hl : H hl = some (.lst hxs)
  hs : IsAll H (hs.map encH) hxs
theorem CF.kp {cl hl da : Addr} {cs : List Con} {hs : List House} {cxs hxs : List V} {H H' : Hp} (c : CF cl hl cs hs cxs hxs H) (k : Kp da H H') (d : Drw H da) (n1 : cl ≠ da) (n2 : hl ≠ da) : CF cl hl cs hs cxs hxs H' :=
  ⟨k.at_ n1 c.cl, c.cs.k (k.tk d), k.at_ n2 c.hl, c.hs.k (k.tk d)⟩
theorem CF.same {cl hl : Addr} {cs : List Con} {hs : List House} {cxs hxs : List V} {H H' : Hp} (c : CF cl hl cs hs cxs hxs H) (s : Same H H') : CF cl hl cs hs cxs hxs H' :=
  ⟨s _ _ c.cl, c.cs.k (Same.tk s), s _ _ c.hl, c.hs.k (Same.tk s)⟩
theorem BL_nd (cs : List Con) (k : Nat) : (BL cs k).Nodup ∧ (BL cs k).length ≤ cs.length ∧ ∀ c ∈ BL cs k, c < cs.length := by
  refine ⟨nodup_filter_range _ _, buys_len (W := ⟨[], cs⟩) k, fun c hc => ?_⟩
  exact (mem_buys (W := ⟨[], cs⟩)).mp hc |>.1
theorem SL_nd (cs : List Con) (k : Nat) : (SL cs k).Nodup ∧ (SL cs k).length ≤ cs.length ∧ ∀ c ∈ SL cs k, c < cs.length := by
  refine ⟨nodup_filter_range _ _, sells_len (W := ⟨[], cs⟩) k, fun c hc => ?_⟩
  exact (mem_sells (W := ⟨[], cs⟩)).mp hc |>.1
theorem BS_dj {cs : List Con} (h : ∀ c ∈ cs, c.s ≠ c.b) (k : Nat) : ∀ c ∈ BL cs k, c ∉ SL cs k := fun c h1 h2 => by
  obtain ⟨l1, e1⟩ := (mem_buys (W := ⟨[], cs⟩)).mp h1
  obtain ⟨_, e2⟩ := (mem_sells (W := ⟨[], cs⟩)).mp h2
  have q1 := (bu_get (W := ⟨[], cs⟩) l1).2
  have q2 := (sl_get (W := ⟨[], cs⟩) l1).2
  exact h _ (List.getElem_mem l1) (by rw [← q1, ← q2, e1, e2])
end KW

namespace KW
open PySem PySem.Spec PyProof.Rows L2 K39 LamX
section
variable {P : Program} {w : World} {K : PySem.W.Frag} {mg : Str → Option Value} {base : Heap}
/-- a tuple of values -/
abbrev NTv (H : Hp) (a : Addr) (xs : List V) : Prop := H a = some (.tup xs)
theorem scWb : FnScope ["_law_draws_here", "_law_many", "_law_most", "_law_count", "_law_order", "_law_k", "_law_near", "_law_contracts", "_law_first", "_law_second", "_law_houses", "_law_base", "_law_c", "_law_buys", "_law_sells", "_law_choice_here", "_law_at", "_law_by", "_law_parts"] ["_law_draws_here", "_law_many", "_law_most"] (defScope (top 32)) := ⟨rfl, rfl, rfl, by decide +kernel, rfl, by decide +kernel, by decide +kernel⟩
def spWb (K : PySem.W.Frag) : Sp := fun vs H Q _ => ∃ (da : Addr) (many : Nat), vs = [.ref da, nv many, nv 9] ∧ 2 ≤ many ∧ many ≤ 6 ∧ Drw H da ∧
  ∀ H' q (W : Web), Kp da H H' → Is H' (encWeb W) q → WFW W → GoodW W → W.cs.length ≤ 9 → W.hs.length ≤ 6 → Q q H'
theorem has_Wb (bt : Bt mg) (htk : Has P w K mg base 1 "_law_take" ["_law_draws_here", "_law_many"] spTk) (hcc : Has P w K mg base 3 "_law_choice" ["_law_draws_here", "_law_buys", "_law_sells"] (spCc K)) (hwd : Has P w K mg base 1 "_law_word" ["_law_number"] spWd) (d : At K mg "_law_web" 32) : Has P w K mg base 4 "_law_web" ["_law_draws_here", "_law_many", "_law_most"] (spWb K) := by
  obtain ⟨fT, fdT, GT, gT, kT, bT⟩ := (htk.up (k := 3) (by decide)).ex
  obtain ⟨fC, fdC, GC, gC, kC, bC⟩ := hcc.ex
  obtain ⟨fD, fdD, GD, gD, kD, bD⟩ := (hwd.up (k := 3) (by decide)).ex
  refine has_of d scWb (fun vs H Q E h => ?_) (fun _ _ _ _ _ _ us hl => match us, hl with | [_, _, _], _ => rfl) (fun f cdv A0 outer s H vs Q E hr h => ?_)
  · obtain ⟨da, many, rfl, _⟩ := h
    rfl
  obtain ⟨da, many, rfl, h2, h6, dr, q⟩ := h
  refine ⟨_, pss_cons (ps_set (i := 3) scWb.nd rfl (Or.inl rfl) (pe_op op_add pe_int (pe_call GT hr rfl gT kT bT .nil pass0 (pa_cons (pv 0) (pa_cons (pe_op op_sub (pv 1) pe_int) pa_nil)))))
    (pss_cons (ps_set (i := 4) scWb.nd rfl (Or.inl rfl) (pe_lst pa_nil))
    (pss_cons (ps_for PassesOwn.never rfl (pi_range1 rfl bt.range (pa_cons (pv 3) pa_nil)) (pg_name (i := 5) scWb.nd rfl (Or.inr rfl))
      (pss_one (ps_expr (pe_bm PySem.F.plainAttrs_list PySem.F.slot_list_insert PySem.F.type_list_insert mt_insert (pv 4) (pa_cons (pe_call GT hr rfl gT kT bT .nil pass0 (pa_cons (pv 0) (pa_cons (pe_op op_add (pv 5) pe_int) pa_nil))) (pa_cons (pv 5) pa_nil))))))
    (pss_cons (ps_set (i := 6) scWb.nd rfl (Or.inl rfl) (pe_op op_add pe_int (pe_call GT hr rfl gT kT bT .nil pass0 (pa_cons (pv 0) (pa_cons pe_int pa_nil)))))
    (pss_cons (ps_set (i := 7) scWb.nd rfl (Or.inr rfl) (pe_lst pa_nil))
    (pss_cons (ps_for PassesOwn.never rfl (pi_range1 rfl bt.range (pa_cons (pe_call GT hr rfl gT kT bT .nil pass0 (pa_cons (pv 0) (pa_cons (pe_op op_add (pv 2) pe_int) pa_nil))) pa_nil)) (pg_name (i := 5) scWb.nd rfl (Or.inr rfl))
      (pss_cons (ps_set (i := 8) scWb.nd rfl (Or.inl rfl) (pe_call GT hr rfl gT kT bT .nil pass0 (pa_cons (pv 0) (pa_cons (pe_op op_sub (pv 3) pe_int) pa_nil))))
      (pss_cons (ps_set (i := 9) scWb.nd rfl (Or.inl rfl) (pe_callB (call_min2 rfl) rfl bt.min (by decide +kernel) (pa_cons (pe_op op_sub (pv 3) pe_int) (pa_cons (pe_op op_add (pe_op op_add (pv 8) pe_int) (pe_call GT hr rfl gT kT bT .nil pass0 (pa_cons (pv 0) (pa_cons (pv 6) pa_nil)))) pa_nil))))
      (pss_one (ps_expr (pe_bm PySem.F.plainAttrs_list PySem.F.slot_list_append PySem.F.type_list_append mt_append (pv 7) (pa_cons (pe_tup (pa_cons (pe_ix ix_list (pv 4) (pv 8) (fun _ _ => rfl)) (pa_cons (pe_ix ix_list (pv 4) (pv 9) (fun _ _ => rfl)) (pa_cons (pe_op op_add (pe_call GT hr rfl gT kT bT .nil pass0 (pa_cons (pv 0) (pa_cons pe_int pa_nil))) (pe_op op_mul pe_int (pv 9))) pa_nil)))) pa_nil)))))))
    (pss_cons (ps_set (i := 10) scWb.nd rfl (Or.inl rfl) (pe_lst pa_nil))
    (pss_cons (ps_set (i := 11) scWb.nd rfl (Or.inl rfl) (pe_op op_add pe_int (pe_call GT hr rfl gT kT bT .nil pass0 (pa_cons (pv 0) (pa_cons pe_int pa_nil)))))
    (pss_cons (ps_for PassesOwn.never rfl (pi_range1 rfl bt.range (pa_cons (pv 3) pa_nil)) (pg_name (i := 5) scWb.nd rfl (Or.inr rfl))
      (pss_cons (ps_setLc (i := 13) (own := [("_law_c", 12)]) (g := gName 12) rfl scWb.nd rfl rfl (sw_true rfl rfl rfl (by decide +kernel)) (pi_range1 rfl bt.range (pa_cons (pe_callB (r := rLenS K) call_len_seq rfl bt.len (by decide +kernel) (pa_cons (pv 7) pa_nil)) pa_nil))
        (blkOk_by (N := ["_law_draws_here", "_law_many", "_law_most", "_law_count", "_law_order", "_law_k", "_law_near", "_law_contracts", "_law_first", "_law_second", "_law_houses", "_law_base", "_law_c", "_law_buys", "_law_sells", "_law_choice_here", "_law_at", "_law_by", "_law_parts"]) (sc := defScope (top 32)) (by decide +kernel))
        (fun _ _ _ _ _ => pg_name (i := 12) scWb.nd rfl (.inl rfl)) (fun _ _ _ _ _ => pts_one (pt_cmpR op_eq (pe_ix (r := rIxT K) ix_tup (pe_ix (r := rIxL K) ix_list (pv 7) (pv 12) (fun _ _ => rfl)) pe_int (fun _ _ => rfl)) (pv 5) (nomark _))) (fun _ _ _ _ _ => pv 12))
      (pss_cons (ps_setLc (i := 14) (own := [("_law_c", 12)]) (g := gName 12) rfl scWb.nd rfl rfl (sw_true rfl rfl rfl (by decide +kernel)) (pi_range1 rfl bt.range (pa_cons (pe_callB (r := rLenS K) call_len_seq rfl bt.len (by decide +kernel) (pa_cons (pv 7) pa_nil)) pa_nil))
        (blkOk_by (N := ["_law_draws_here", "_law_many", "_law_most", "_law_count", "_law_order", "_law_k", "_law_near", "_law_contracts", "_law_first", "_law_second", "_law_houses", "_law_base", "_law_c", "_law_buys", "_law_sells", "_law_choice_here", "_law_at", "_law_by", "_law_parts"]) (sc := defScope (top 32)) (by decide +kernel))
        (fun _ _ _ _ _ => pg_name (i := 12) scWb.nd rfl (.inl rfl)) (fun _ _ _ _ _ => pts_one (pt_cmpR op_eq (pe_ix (r := rIxT K) ix_tup (pe_ix (r := rIxL K) ix_list (pv 7) (pv 12) (fun _ _ => rfl)) pe_int (fun _ _ => rfl)) (pv 5) (nomark _))) (fun _ _ _ _ _ => pv 12))
      (pss_cons (ps_set (i := 15) scWb.nd rfl (Or.inl rfl) (pe_call GC hr rfl gC kC bC .nil pass0 (pa_cons (pv 0) (pa_cons (pv 13) (pa_cons (pv 14) pa_nil)))))
      (pss_cons (ps_if (pt_cmpR op_eq (pe_call GT hr rfl gT kT bT .nil pass0 (pa_cons (pv 0) (pa_cons pe_int pa_nil))) pe_int (nomark _))
        (pss_cons (ps_set (i := 16) scWb.nd rfl (Or.inl rfl) (pe_call GT hr rfl gT kT bT .nil pass0 (pa_cons (pv 0) (pa_cons (pe_op op_add (pe_callB (r := rLenS K) call_len_seq rfl bt.len (by decide +kernel) (pa_cons (pv 13) pa_nil)) pe_int) pa_nil))))
        (pss_cons (ps_set (i := 17) scWb.nd rfl (Or.inl rfl) (pe_call GT hr rfl gT kT bT .nil pass0 (pa_cons (pv 0) (pa_cons (pe_op op_add (pe_callB (r := rLenS K) call_len_seq rfl bt.len (by decide +kernel) (pa_cons (pv 14) pa_nil)) pe_int) pa_nil))))
        (pss_cons (ps_set (i := 18) scWb.nd rfl (Or.inl rfl) (pe_lst (pa_cons (pe_call GC hr rfl gC kC bC .nil pass0 (pa_cons (pv 0) (pa_cons (pe_slice sl_list (pv 13) po_none (po_some (pv 16))) (pa_cons (pe_slice sl_list (pv 14) po_none (po_some (pv 17))) pa_nil)))) pa_nil)))
        (pss_cons (ps_if (pt_cmpR op_eq (pe_call GT hr rfl gT kT bT .nil pass0 (pa_cons (pv 0) (pa_cons pe_int pa_nil))) pe_int (nomark _))
          (pss_cons (ps_expr (pe_bm PySem.F.plainAttrs_list PySem.F.slot_list_append PySem.F.type_list_append mt_append (pv 18) (pa_cons (pe_call GC hr rfl gC kC bC .nil pass0 (pa_cons (pv 0) (pa_cons (pe_slice sl_list (pv 13) (po_some (pv 16)) (po_some (pe_op op_add (pv 16) pe_int))) (pa_cons (pe_slice sl_list (pv 14) (po_some (pv 17)) (po_some (pe_op op_add (pv 17) pe_int))) pa_nil)))) pa_nil)))
          (pss_cons (ps_set (i := 16) scWb.nd rfl (Or.inl rfl) (pe_op op_add (pv 16) pe_int))
          (pss_one (ps_set (i := 17) scWb.nd rfl (Or.inl rfl) (pe_op op_add (pv 17) pe_int))))) pss_nil)
        (pss_cons (ps_set (i := 15) scWb.nd rfl (Or.inl rfl) (pe_tup (pa_cons pe_str (pa_cons (pe_op op_catA (pe_callTy call_tuple_of rfl bt.tuple (by decide +kernel) (pa_cons (pv 18) pa_nil)) (pe_tup (pa_cons (pe_call GC hr rfl gC kC bC .nil pass0 (pa_cons (pv 0) (pa_cons (pe_slice sl_list (pv 13) (po_some (pv 16)) po_none) (pa_cons (pe_slice sl_list (pv 14) (po_some (pv 17)) po_none) pa_nil)))) pa_nil))) pa_nil))))
        (pss_one (ps_set (i := 15) scWb.nd rfl (Or.inl rfl) (pe_ix ix_list (pe_lst (pa_cons (pv 15) (pa_cons (pv 15) (pa_cons (pv 15) (pa_cons (pe_tup (pa_cons pe_str (pa_cons (pe_tup pa_nil) pa_nil))) (pa_cons (pe_tup (pa_cons pe_str (pa_cons (pe_slice sl_tupA (pe_ix ix_tup (pv 15) pe_int (fun _ _ => rfl)) po_none (po_some pe_int)) pa_nil))) pa_nil)))))) (pe_call GT hr rfl gT kT bT .nil pass0 (pa_cons (pv 0) (pa_cons pe_int pa_nil))) (fun _ _ => rfl))))))))) pss_nil)
      (pss_one (ps_expr (pe_bm PySem.F.plainAttrs_list PySem.F.slot_list_append PySem.F.type_list_append mt_append (pv 10) (pa_cons (pe_tup (pa_cons (pe_call GD hr rfl gD kD bD .nil pass0 (pa_cons (pe_op op_add (pv 11) (pe_op op_mul pe_int (pv 5))) pa_nil)) (pa_cons (pv 15) pa_nil))) pa_nil))))))))) 
    (pss_one (ps_ret (pe_tup (pa_cons (pe_callTy call_tuple_of rfl bt.tuple (by decide +kernel) (pa_cons (pv 10) pa_nil)) (pa_cons (pe_callTy call_tuple_of rfl bt.tuple (by decide +kernel) (pa_cons (pv 7) pa_nil)) pa_nil))))))))))))), ?_⟩
  have arg1 : [V.ref da, V.int ((many : Int) - 1)] = [V.ref da, nv (many - 1)] := by
    rw [show ((many : Int) - 1) = ((many - 1 : Nat) : Int) by omega]
    rfl
  refine ⟨_, rfl, _, rfl, _, _, rfl, rfl, da, many - 1, arg1, by omega, dr, fun H1 r1 k1 hr1 => ⟨_, _, rfl, rfl, ?_⟩⟩
  refine ⟨(by show 0 ≤ sizeLine; decide), fun ol nol => ?_⟩
  have k1' := k1.same (same_new (.lst []) nol)
  have nolH := k1.none dr nol
  have eol : upd H1 ol (.lst []) ol = some (.lst []) := upd_same
  generalize hcount : 2 + r1 = count
  have hc2 : 2 ≤ count := by omega
  have hc6 : count ≤ 6 := by omega
  have ecount : V.int (2 + (r1 : Int)) = nv count := by
    rw [← hcount]
    rfl
  generalize upd H1 ol (.lst []) = G1 at *
  have onda := dr.ne nolH
  refine nm_of ?_
  dsimp only
  rw [ecount]
  refine seq_cut (fun σ' H' => ∃ (y5 : Option V) (o : List Nat), σ' = [some (.ref da), some (nv many), some (nv 9), some (nv count), some (.ref ol), y5, none, none, none, none, none, none, none, none, none, none, none, none, none] ∧ Kp da H H' ∧ H' ol = some (.lst (o.map nv)) ∧ o.Perm (List.range count)) ?_ fun last => ?_
  case refine_2 =>
    refine ⟨_, rfl, _, rfl, by omega, by omega, ?_⟩
    rw [Int.toNat_natCast]
    refine for_rngN (fun i σ H' => ∃ (y5 : Option V) (o : List Nat), σ = [some (.ref da), some (nv many), some (nv 9), some (nv count), some (.ref ol), y5, none, none, none, none, none, none, none, none, none, none, none, none, none] ∧ Kp da H H' ∧ H' ol = some (.lst (o.map nv)) ∧ o.Perm (List.range i))
      ⟨none, [], rfl, k1', eol, .refl _⟩ (fun i σ H' hi p => ?_) fun σ H' p => last σ H' p
    obtain ⟨y5, o, rfl, kp, eo, po⟩ := p
    have hol : o.length = i := by rw [po.length_eq, List.length_range]
    refine ⟨_, rfl, .inl ⟨rfl, _, SqL.of eo⟩, _, rfl, _, rfl, _, _, rfl, rfl, da, i + 1, rfl, by omega, kp.drw, fun H2 r2 k2 h2 => ⟨_, rfl, ol, o.map nv, r2, nv i, rfl, rfl, k2.at_ onda eo, by rw [List.length_map]; exact szk (by omega), by omega, by omega, ?_⟩⟩
    rw [Int.toNat_natCast, ← List.map_take, ← List.map_drop]
    refine ⟨_, o.take r2 ++ [i] ++ o.drop r2, rfl, (kp.trans k2).put nolH dr _, ?_, ?_⟩
    · rw [upd_same, List.map_append, List.map_append]
      rfl
    · rw [List.range_succ]
      exact (ins_perm o i r2).trans (((po.cons i)).trans (List.perm_append_singleton i (List.range i)).symm)
  case refine_1 =>
    rintro σ' H' ⟨y5, o, rfl, kp, eo, po⟩
    refine ⟨_, rfl, da, 3, rfl, by decide, kp.drw, fun H2 r2 k2 hr2 => ⟨_, _, rfl, rfl, (by show 0 ≤ sizeLine; decide), fun cl ncl => ?_⟩⟩
    have kp2 := kp.trans k2
    have nclH := kp2.none dr ncl
    have kp2' := kp2.same (same_new (.lst []) ncl)
    have ecl : upd H2 cl (.lst []) cl = some (.lst []) := upd_same
    have eo2 := same_new (.lst []) ncl _ _ (k2.at_ onda eo)
    have noc : ol ≠ cl := fun z => by
      have := k2.at_ onda eo
      rw [z, ncl] at this
      cases this
    generalize hnear : 1 + r2 = near
    have enear : V.int (1 + (r2 : Int)) = nv near := by
      rw [← hnear]
      rfl
    generalize upd H2 cl (.lst []) = G2 at *
    have cnda := dr.ne nclH
    refine nm_of ?_
    dsimp only
    rw [enear]
    have olen : o.length = count := by rw [po.length_eq, List.length_range]
    have ond : o.Nodup := po.nodup_iff.mpr List.nodup_range
    have oat : ∀ j, j < count → ∃ z, (o.map nv)[j]? = some (nv z) ∧ z < count ∧ o[j]? = some z := fun j hj => by
      have hj' : j < o.length := by omega
      refine ⟨o[j], by rw [List.getElem?_map, List.getElem?_eq_getElem hj']; rfl, ?_, List.getElem?_eq_getElem hj'⟩
      have := po.mem_iff.mp (List.getElem_mem hj')
      exact List.mem_range.mp this
    refine seq_cut (fun σ' H' => ∃ (y5 y8 y9 : Option V) (cs : List Con) (cxs : List V), σ' = [some (.ref da), some (nv many), some (nv 9), some (nv count), some (.ref ol), y5, some (nv near), some (.ref cl), y8, y9, none, none, none, none, none, none, none, none, none] ∧ Kp da H H' ∧ H' cl = some (.lst cxs) ∧ IsAll H' (cs.map encCon) cxs ∧ cs.length ≤ 9 ∧
      ∀ c ∈ cs, c.s < count ∧ c.b < count ∧ c.s ≠ c.b) ?_ fun last => ?_
    case refine_2 =>
      refine ⟨_, rfl, _, rfl, _, _, rfl, rfl, da, 10, rfl, by decide, kp2'.drw, fun H3 r3 k3 hr3 => ⟨_, rfl, by omega, by omega, ?_⟩⟩
      rw [Int.toNat_natCast]
      refine for_rngN (fun i σ H' => ∃ (y5 y8 y9 : Option V) (cs : List Con) (cxs : List V), σ = [some (.ref da), some (nv many), some (nv 9), some (nv count), some (.ref ol), y5, some (nv near), some (.ref cl), y8, y9, none, none, none, none, none, none, none, none, none] ∧ Kp da H H' ∧ H' ol = some (.lst (o.map nv)) ∧ H' cl = some (.lst cxs) ∧ IsAll H' (cs.map encCon) cxs ∧ cs.length = i ∧
        ∀ c ∈ cs, c.s < count ∧ c.b < count ∧ c.s ≠ c.b) ⟨_, none, none, [], [], rfl, kp2'.trans k3, k3.at_ onda eo2, k3.at_ cnda ecl, rfl, rfl, fun c h => (by cases h)⟩ (fun i σ H' hi p => ?_) fun σ H' p => ?_
      · obtain ⟨y5, y8, y9, cs, cxs, rfl, kp, eo, ec, hcs, hlen, hq⟩ := p
        have argc : [V.ref da, V.int ((count : Int) - 1)] = [V.ref da, nv (count - 1)] := by
          rw [show ((count : Int) - 1) = ((count - 1 : Nat) : Int) by omega]
          rfl
        refine ⟨_, rfl, _, rfl, _, _, rfl, rfl, da, count - 1, argc, by omega, kp.drw, fun H4 fi k4 hfi => ?_⟩
        refine ⟨_, rfl, _, _, rfl, rfl, _, rfl, _, _, rfl, rfl, _, rfl, _, rfl, da, near, rfl, by omega, (kp.trans k4).drw, fun H5 t5 k5 ht5 => ⟨_, _, rfl, rfl, _, _, rfl, ?_⟩⟩
        have esec : ∃ sec : Nat, (if ((fi : Int) + 1 + (t5 : Int)) < ((count : Int) - 1) then ((fi : Int) + 1 + (t5 : Int)) else ((count : Int) - 1)) = (sec : Int) ∧ fi < sec ∧ sec < count := by
          by_cases h : ((fi : Int) + 1 + (t5 : Int)) < ((count : Int) - 1)
          · rw [if_pos h]
            exact ⟨fi + 1 + t5, by omega, by omega, by omega⟩
          · rw [if_neg h]
            exact ⟨count - 1, by omega, by omega, by omega⟩
        obtain ⟨sec, esec, hfs, hsc⟩ := esec
        refine nm_of ?_
        dsimp only
        rw [esec]
        have kp5 := (kp.trans k4).trans k5
        have eo5 := k5.at_ onda (k4.at_ onda eo)
        have ec5 := k5.at_ cnda (k4.at_ cnda ec)
        obtain ⟨zf, zf1, zf2, zf3⟩ := oat fi (by omega)
        obtain ⟨zs, zs1, zs2, zs3⟩ := oat sec hsc
        refine ⟨_, rfl, .inl ⟨rfl, _, SqL.of ec5⟩, _, rfl, _, rfl, ol, _, fi, nv zf, rfl, rfl, SqL.of eo5, atI_nat (j := fi) zf1, _, rfl, _, rfl, ol, _, sec, nv zs, rfl, rfl, SqL.of eo5, atI_nat (j := sec) zs1, _, rfl, da, 10, rfl, by decide, kp5.drw, fun H6 r6 k6 hr6 => ⟨_, rfl, 4, sec, rfl, rfl, .inl ⟨by decide, by decide⟩, _, _, rfl, rfl, (by show 3 ≤ sizeLine; decide), fun tp ntp => ?_⟩⟩
        have kp6 := kp5.trans k6
        have s7 := same_new (.tup [nv zf, nv zs, .int ((r6 : Int) + 4 * (sec : Int))]) ntp
        have ec7 := s7 _ _ (k6.at_ cnda ec5)
        have cl' : cxs.length = cs.length := by rw [hcs.length, List.length_map]
        refine ⟨cl, cxs, _, rfl, rfl, ec7, by rw [cl', hlen]; exact szk (by omega), ?_⟩
        have tkU := TK.lst (.lst (cxs ++ [.ref tp])) ec7
        have tk1 := ((k4.tk kp.drw).trans ((k5.tk (kp.trans k4).drw).trans (k6.tk kp5.drw))).trans (Same.tk s7)
        refine ⟨_, _, _, cs ++ [⟨zf, zs, (r6 : Int) + 4 * (sec : Int)⟩], cxs ++ [.ref tp], rfl, (kp6.same s7).put nclH dr _, ?_, upd_same, ?_, by rw [List.length_append, hlen]; rfl, fun c hc => ?_⟩
        · rw [upd_ne noc]
          exact s7 _ _ (k6.at_ onda eo5)
        · rw [List.map_append]
          exact IsAll.append ((hcs.k tk1).k tkU) (IsAll.one (is_con.mpr ⟨tp, rfl, tkU _ _ upd_same⟩))
        · rcases List.mem_append.mp hc with h | h
          · exact hq c h
          · rw [List.mem_singleton.mp h]
            refine ⟨zf2, zs2, fun z => ?_⟩
            have z' : zf = zs := z
            rw [z', ← zs3] at zf3
            have h1 := (List.getElem?_eq_some_iff.mp zs3).1
            have := (List.getElem_inj ond (i := fi) (j := sec) (h₀ := by omega) (h₁ := h1)).mp (by
              have a1 := List.getElem?_eq_getElem (l := o) (i := fi) (by omega)
              have a2 := List.getElem?_eq_getElem (l := o) (i := sec) h1
              rw [a1, a2] at zf3
              exact Option.some.inj zf3)
            omega
      · obtain ⟨y5, y8, y9, cs, cxs, rfl, kp, eo, ec, hcs, hlen, hq⟩ := p
        exact last _ _ ⟨y5, y8, y9, cs, cxs, rfl, kp, ec, hcs, by omega, hq⟩
    case refine_1 =>
      rintro σ' H' ⟨y5, y8, y9, cs, cxs, rfl, kp, ec, hcs, hlen, hq⟩
      refine ⟨(by show 0 ≤ sizeLine; decide), fun hl nhl => ?_⟩
      have nhlH := kp.none dr nhl
      have hnda := dr.ne nhlH
      have kp0 := kp.same (same_new (.lst []) nhl)
      have ecl : cl ≠ da := fun z => by
        obtain ⟨ds, e⟩ := kp.drw
        exact dr.ne nclH z
      have nch : cl ≠ hl := fun z => by
        rw [z, nhl] at ec
        cases ec
      have cf0 : CF cl hl cs [] cxs [] (upd H' hl (.lst [])) := ⟨same_new _ nhl _ _ ec, hcs.k (Same.tk (same_new _ nhl)), upd_same, rfl⟩
      generalize upd H' hl (.lst []) = G3 at *
      refine ⟨_, rfl, da, 700, rfl, by decide, kp0.drw, fun H4 r4 k4 hr4 => ⟨_, _, rfl, rfl, ?_⟩⟩
      have cf4 := cf0.kp k4 kp0.drw ecl hnda
      have kp4 := kp0.trans k4
      generalize (1 : Int) + (r4 : Int) = bs0
      refine nm_of ?_
      dsimp only
      refine seq_cut (fun σ' H' => ∃ (y5 y12 y13 y14 y15 y16 y17 y18 : Option V) (base : Int) (hs : List House) (hxs : List V), σ' = [some (.ref da), some (nv many), some (nv 9), some (nv count), some (.ref ol), y5, some (nv near), some (.ref cl), y8, y9, some (.ref hl), some (.int base), y12, y13, y14, y15, y16, y17, y18] ∧ Kp da H H' ∧ CF cl hl cs hs cxs hxs H' ∧ hs.length = count ∧
        ∀ j x, hs[j]? = some x → CG cs j x.ch) ?_ fun last => ?_
      case refine_2 =>
        refine ⟨_, rfl, _, rfl, by omega, by omega, ?_⟩
        rw [Int.toNat_natCast]
        refine for_rngN (fun i σ H' => ∃ (y5 y12 y13 y14 y15 y16 y17 y18 : Option V) (base : Int) (hs : List House) (hxs : List V), σ = [some (.ref da), some (nv many), some (nv 9), some (nv count), some (.ref ol), y5, some (nv near), some (.ref cl), y8, y9, some (.ref hl), some (.int base), y12, y13, y14, y15, y16, y17, y18] ∧ Kp da H H' ∧ CF cl hl cs hs cxs hxs H' ∧ hs.length = i ∧
          ∀ j x, hs[j]? = some x → CG cs j x.ch) ⟨_, none, none, none, none, none, none, none, _, [], [], rfl, kp4, cf4, rfl, fun j x h => (by simp at h)⟩ (fun i σ H' hi p => ?_) fun σ H' p => last σ H' p
        obtain ⟨y5, y12, y13, y14, y15, y16, y17, y18, base, hs, hxs, rfl, kp, cf, hsl, hcg⟩ := p
        have kpd := kp.drw
        refine nm_of ?_
        dsimp only
        refine seq_of (asg_of ?_)
        refine rd_side (K := K) (σ := [some (.ref da), some (nv many), some (nv 9), some (nv count), some (.ref ol), some (nv i), some (nv near), some (.ref cl), y8, y9, some (.ref hl), some (.int base), y12, y13, y14, y15, y16, y17, y18]) (sel := fun c => c.b) (j := 1) (k := i) (cl := cl) (cs := cs) (cxs := cxs) (fun _ => rfl) rfl (fun _ => rfl) (fun _ => rfl) (fun _ => rfl) (fun _ => rfl) cf.cl cf.cs hlen fun ba H2 s2 nba eb => ?_
        have cf2 := cf.same s2
        refine nm_of ?_
        dsimp only
        refine seq_of (asg_of ?_)
        refine rd_side (K := K) (σ := [some (.ref da), some (nv many), some (nv 9), some (nv count), some (.ref ol), some (nv i), some (nv near), some (.ref cl), y8, y9, some (.ref hl), some (.int base), y12, some (.ref ba), y14, y15, y16, y17, y18]) (sel := fun c => c.s) (j := 0) (k := i) (cl := cl) (cs := cs) (cxs := cxs) (fun _ => rfl) rfl (fun _ => rfl) (fun _ => rfl) (fun _ => rfl) (fun _ => rfl) cf2.cl cf2.cs hlen fun sa H3 s3 nsa es => ?_
        have cf3 := cf2.same s3
        have kp2 := kp.same s2
        have kp3 := kp2.same s3
        have eb3 : H3 ba = some (.lst ((BL cs i).map nv)) := s3 _ _ eb
        have es3 : H3 sa = some (.lst ((SL cs i).map nv)) := es
        have bda : ba ≠ da := kpd.ne nba
        have sda : sa ≠ da := kp2.drw.ne nsa
        obtain ⟨nB, lB, rB⟩ := BL_nd cs i
        obtain ⟨nS, lS, rS⟩ := SL_nd cs i
        have dj := BS_dj (fun c hc => (hq c hc).2.2) i
        have cgp : ∀ {p : PCh}, (∀ n, (∀ c ∈ BL cs i, c < n) → (∀ c ∈ SL cs i, c < n) → WFP n p) → (∀ price, GoodP price (fun c => c ∈ BL cs i) (fun c => c ∈ SL cs i) p) → CG cs i (.plain p) := fun w g => ⟨w _ rB rS, g _⟩
        have cgs : ∀ {ps : List PCh}, PG cs (BL cs i) (SL cs i) ps → CG cs i (.split ps) := fun g => ⟨g.1, g.2⟩
        generalize hB : BL cs i = B at *
        generalize hS : SL cs i = S at *
        refine nm_of ?_
        dsimp only
        refine ⟨_, rfl, _, rfl, _, rfl, da, ba, sa, B, S, rfl, bda, sda, eb3, es3, nB, nS, dj, by omega, by omega, kp3.drw, fun H5 cv p0 k5 i5 wf5 g5 => ?_⟩
        have kp5 := kp3.trans k5
        have cf5 := cf3.kp k5 kp3.drw ecl hnda
        have eb5 := k5.at_ bda eb3
        have es5 := k5.at_ sda es3
        refine nm_of ?_
        dsimp only
        refine seq_cut (fun σ' H' => ∃ (y16 y17 y18 : Option V) (chv : V) (ch : Ch), σ' = [some (.ref da), some (nv many), some (nv 9), some (nv count), some (.ref ol), some (nv i), some (nv near), some (.ref cl), y8, y9, some (.ref hl), some (.int base), y12, some (.ref ba), some (.ref sa), some chv, y16, y17, y18] ∧ Kp da H H' ∧ CF cl hl cs hs cxs hxs H' ∧ Is H' (encCh ch) chv ∧ CG cs i ch) ?_ fun last2 => ?_
        case refine_1 =>
          rintro σ' H' ⟨y16, y17, y18, chv, ch, rfl, kp, cf, ich, cg⟩
          refine ⟨_, rfl, .inl ⟨rfl, _, SqL.of cf.hl⟩, _, rfl, _, rfl, 27, i, rfl, rfl, .inl ⟨by decide, by decide⟩, _, _, rfl, rfl, _, rfl, fun z => ⟨_, rfl, (by show 2 ≤ sizeLine; decide), fun th nth => ?_⟩⟩
          have s1 := same_new (.tup [.str z, chv]) nth
          have cf1 := cf.same s1
          have hxl : hxs.length = hs.length := by rw [cf.hs.length, List.length_map]
          refine ⟨hl, hxs, _, rfl, rfl, cf1.hl, by rw [hxl, hsl]; exact szk (by omega), ?_⟩
          have tkU := TK.lst (.lst (hxs ++ [.ref th])) cf1.hl
          refine ⟨_, _, _, _, _, _, _, _, _, hs ++ [⟨z, ch⟩], hxs ++ [.ref th], rfl, (kp.same s1).put nhlH dr _, ⟨?_, cf1.cs.k tkU, upd_same, ?_⟩, by rw [List.length_append, hsl]; rfl, fun j x hx => ?_⟩
          · rw [upd_ne nch]
            exact cf1.cl
          · rw [List.map_append]
            exact IsAll.append (cf1.hs.k tkU) (IsAll.one (is_house.mpr ⟨th, chv, rfl, tkU _ _ upd_same, (ich.k (Same.tk s1)).k tkU⟩))
          · rw [List.getElem?_append] at hx
            by_cases hj : j < hs.length
            · rw [if_pos hj] at hx
              exact hcg j x hx
            · rw [if_neg hj] at hx
              have e0 : j - hs.length = 0 := by
                have := (List.getElem?_eq_some_iff.mp hx).1
                simp only [List.length_singleton] at this
                omega
              rw [e0] at hx
              have ex : x = ⟨z, ch⟩ := by simpa using hx.symm
              have ej : j = i := by omega
              rw [ex, ej]
              exact cg
        case refine_2 =>
          refine ⟨_, rfl, da, 8, rfl, by decide, kp5.drw, fun H6 r6 k6 hr6 => ⟨rfl, _, rfl, ?_⟩⟩
          have kp6 := kp5.trans k6
          have cf6 := cf5.kp k6 kp5.drw ecl hnda
          have eb6 := k6.at_ bda eb5
          have es6 := k6.at_ sda es5
          have i6 := Is.k (t := encP p0) i5 (k6.tk kp5.drw)
          refine ite2 (fun _ => ?_) (fun _ => ?_)
          · have argl : ∀ {l : List Nat}, [V.ref da, V.int (((l.map nv).length : Int) + 1)] = [V.ref da, nv (l.length + 1)] := fun {l} => by
              rw [List.length_map]
              rfl
            refine ⟨_, rfl, _, rfl, ba, _, rfl, .inl (SqL.of eb6), _, _, rfl, rfl, da, B.length + 1, argl, by omega, kp6.drw, fun H7 at7 k7 hat => ?_⟩
            have es7 := k7.at_ sda es6
            refine ⟨_, rfl, _, rfl, sa, _, rfl, .inl (SqL.of es7), _, _, rfl, rfl, da, S.length + 1, argl, by omega, k7.drw, fun H8 by8 k8 hby => ?_⟩
            have k78 := k7.trans k8
            have kp8 := kp6.trans k78
            have cf8 := cf6.kp k78 kp6.drw ecl hnda
            have eb8 := k78.at_ bda eb6
            have es8 := k78.at_ sda es6
            refine ⟨_, rfl, _, rfl, _, rfl, _, rfl, ba, _, rfl, SqL.of eb8, fun b1 nb1 => ?_⟩
            rw [cut_take, ← List.map_take]
            have t1 := same_new (.lst ((B.take at7).map nv)) nb1
            refine ⟨_, rfl, _, rfl, _, rfl, sa, _, rfl, SqL.of (t1 _ _ es8), fun s1 ns1 => ?_⟩
            rw [cut_take, ← List.map_take]
            have t2 := same_new (.lst ((S.take by8).map nv)) ns1
            have t12 := t1.trans t2
            have kp9 := kp8.same t12
            have kp8t := kp8.same t1
            refine ⟨da, b1, s1, B.take at7, S.take by8, rfl, kp8.drw.ne nb1, kp8t.drw.ne ns1, t2 _ _ upd_same, upd_same, nB.sublist (List.take_sublist _ _), nS.sublist (List.take_sublist _ _), fun c h1 h2 => dj c (List.mem_of_mem_take h1) (List.mem_of_mem_take h2), by rw [List.length_take]; omega, by rw [List.length_take]; omega, kp9.drw, fun H10 p1v p1 k10 i10 wf10 g10 => ⟨(by show 1 ≤ sizeLine; decide), fun pl npl => ?_⟩⟩
            have t3 := same_new (.lst [p1v]) npl
            have kpa := (kp9.trans k10).same t3
            have cfa := ((cf8.same t12).kp k10 kp9.drw ecl hnda).same t3
            have eba := t3 _ _ (k10.at_ bda (t12 _ _ eb8))
            have esa := t3 _ _ (k10.at_ sda (t12 _ _ es8))
            have ia := Is.k (t := encP p1) i10 (Same.tk t3)
            have plH : H pl = none := (kp9.trans k10).none dr npl
            have plda := dr.ne plH
            have epl : upd H10 pl (.lst [p1v]) pl = some (.lst [p1v]) := upd_same
            have plne : ∀ {a : Addr} {xs : List V}, H10 a = some (.lst xs) → a ≠ pl := fun {a xs} e z => by
              rw [z, npl] at e
              cases e
            have ncp : cl ≠ pl := plne ((cf8.same t12).kp k10 kp9.drw ecl hnda).cl
            have nhp : hl ≠ pl := plne ((cf8.same t12).kp k10 kp9.drw ecl hnda).hl
            have nbp : ba ≠ pl := plne (k10.at_ bda (t12 _ _ eb8))
            have nsp : sa ≠ pl := plne (k10.at_ sda (t12 _ _ es8))
            generalize upd H10 pl (.lst [p1v]) = Ga at *
            have w1 : WFP cs.length p1 := wf10 _ (fun c hc => rB c (List.mem_of_mem_take hc)) fun c hc => rS c (List.mem_of_mem_take hc)
            have pre1 : PG cs B S [p1] := pg_one at7 by8 w1 (g10 _)
            refine nm_of ?_
            dsimp only
            refine seq_cut (fun σ' H' => ∃ (a16 b17 : Nat) (ps : List PCh) (pvs : List V), σ' = [some (.ref da), some (nv many), some (nv 9), some (nv count), some (.ref ol), some (nv i), some (nv near), some (.ref cl), y8, y9, some (.ref hl), some (.int base), y12, some (.ref ba), some (.ref sa), some cv, some (nv a16), some (nv b17), some (.ref pl)] ∧ Kp da H H' ∧ CF cl hl cs hs cxs hxs H' ∧ H' ba = some (.lst (B.map nv)) ∧ H' sa = some (.lst (S.map nv)) ∧
              H' pl = some (.lst pvs) ∧ IsAll H' (ps.map encP) pvs ∧ ps.length ≤ 2 ∧ ps ≠ [] ∧ ∀ p3, WFP cs.length p3 → GoodP (priceOf cs) (fun c => c ∈ B.drop a16) (fun c => c ∈ S.drop b17) p3 → PG cs B S (ps ++ [p3]) ∧ PG cs B S ((ps ++ [p3]).take 1)) ?_ fun last3 => ?_
            case refine_2 =>
              refine ⟨_, rfl, da, 2, rfl, by decide, kpa.drw, fun Hb rb kb hrb => ⟨rfl, _, rfl, ?_⟩⟩
              have kpb := kpa.trans kb
              have cfb := cfa.kp kb kpa.drw ecl hnda
              have ebb := kb.at_ bda eba
              have esb := kb.at_ sda esa
              have eplb := kb.at_ plda epl
              have ib := Is.k (t := encP p1) ia (kb.tk kpa.drw)
              refine ite2 (fun _ => ?_) (fun _ => ?_)
              · refine ⟨_, rfl, .inl ⟨rfl, _, SqL.of eplb⟩, _, rfl, _, rfl, _, rfl, _, rfl, _, rfl, _, _, rfl, rfl, _, rfl, ba, _, rfl, SqL.of ebb, fun b2 nb2 => ?_⟩
                have c2 : cutV (B.map nv) (some (at7 : Int)) (some ((at7 : Int) + 1)) = ((B.drop at7).take 1).map nv := by
                  rw [show ((at7 : Int) + 1) = ((at7 + 1 : Nat) : Int) by omega, cut_seg (B.map nv) at7 (at7 + 1) (by omega) (by rw [List.length_map]; omega), show at7 + 1 - at7 = 1 by omega, List.map_take, List.map_drop]
                have c3 : cutV (S.map nv) (some (by8 : Int)) (some ((by8 : Int) + 1)) = ((S.drop by8).take 1).map nv := by
                  rw [show ((by8 : Int) + 1) = ((by8 + 1 : Nat) : Int) by omega, cut_seg (S.map nv) by8 (by8 + 1) (by omega) (by rw [List.length_map]; omega), show by8 + 1 - by8 = 1 by omega, List.map_take, List.map_drop]
                have u1 := same_new (.lst (cutV (B.map nv) (some (at7 : Int)) (some ((at7 : Int) + 1)))) nb2
                refine ⟨_, rfl, _, rfl, _, rfl, _, rfl, _, _, rfl, rfl, _, rfl, sa, _, rfl, SqL.of (u1 _ _ esb), fun s2 ns2 => ?_⟩
                have u2 := same_new (.lst (cutV (S.map nv) (some (by8 : Int)) (some ((by8 : Int) + 1)))) ns2
                have u12 := u1.trans u2
                have kpc := kpb.same u12
                refine ⟨da, b2, s2, (B.drop at7).take 1, (S.drop by8).take 1, rfl, kpb.drw.ne nb2, (kpb.same u1).drw.ne ns2, by rw [← c2]; exact u2 _ _ upd_same, by rw [← c3]; exact upd_same, (nB.sublist (List.drop_sublist _ _)).sublist (List.take_sublist _ _), (nS.sublist (List.drop_sublist _ _)).sublist (List.take_sublist _ _), fun c h1 h2 => dj c (List.mem_of_mem_drop (List.mem_of_mem_take h1)) (List.mem_of_mem_drop (List.mem_of_mem_take h2)), by rw [List.length_take]; omega, by rw [List.length_take]; omega, kpc.drw, fun Hd p2v p2 kd id2 wfd gd => ?_⟩
                have epld := kd.at_ plda (u12 _ _ eplb)
                refine ⟨pl, _, _, rfl, rfl, epld, by show 1 < sizeLine; decide, ?_⟩
                have tkU := TK.lst (.lst ([p1v] ++ [p2v])) epld
                have cfd := (cfb.same u12).kp kd kpc.drw ecl hnda
                refine ⟨_, rfl, _, _, rfl, rfl, _, rfl, _, _, rfl, rfl, ?_⟩
                refine last3 _ _ ⟨at7 + 1, by8 + 1, [p1, p2], [p1v, p2v], rfl, (kpc.trans kd).put plH dr _, ⟨by rw [upd_ne ncp]; exact cfd.cl, cfd.cs.k tkU, by rw [upd_ne nhp]; exact cfd.hl, cfd.hs.k tkU⟩, by rw [upd_ne nbp]; exact kd.at_ bda (u12 _ _ ebb), by rw [upd_ne nsp]; exact kd.at_ sda (u12 _ _ esb), upd_same, ?_, by simp, by simp, fun p3 w3 g3 => ?_⟩
                · exact ⟨_, _, rfl, ((ib.k (Same.tk u12)).k (kd.tk kpc.drw)).k tkU, _, _, rfl, Is.k (t := encP p2) id2 tkU, rfl⟩
                · exact ⟨pg_three nB nS at7 by8 w1 (wfd _ (fun c hc => rB c (List.mem_of_mem_drop (List.mem_of_mem_take hc))) fun c hc => rS c (List.mem_of_mem_drop (List.mem_of_mem_take hc))) w3 (g10 _) (gd _) g3, pre1⟩
              · exact last3 _ _ ⟨at7, by8, [p1], [p1v], rfl, kpb, cfb, ebb, esb, eplb, IsAll.one (t := encP p1) ib, by simp, by simp, fun p3 w3 g3 => ⟨pg_two nB nS at7 by8 w1 w3 (g10 _) g3, pre1⟩⟩
            case refine_1 =>
              rintro σ' H' ⟨a16, b17, ps, pvs, rfl, kp, cf, eb, es, epl, ips, pl2, pne, gps⟩
              have pvl : pvs.length = ps.length := by rw [ips.length, List.length_map]
              have pvne : pvs ≠ [] := fun z => by
                rw [z] at pvl
                exact pne (List.length_eq_zero_iff.mp pvl.symm)
              refine ⟨_, rfl, pl, _, rfl, .inl ⟨SqL.of epl, fun pt npt => ?_⟩⟩
              have t1 := same_new (.tup pvs) npt
              refine ⟨_, rfl, _, rfl, _, rfl, _, rfl, ba, _, rfl, SqL.of (t1 _ _ eb), fun b3 nb3 => ?_⟩
              rw [cut_drop, ← List.map_drop]
              have t2 := same_new (.lst ((B.drop a16).map nv)) nb3
              refine ⟨_, rfl, _, rfl, _, rfl, sa, _, rfl, SqL.of (t2 _ _ (t1 _ _ es)), fun s3 ns3 => ?_⟩
              rw [cut_drop, ← List.map_drop]
              have t3 := same_new (.lst ((S.drop b17).map nv)) ns3
              have t123 := (t1.trans t2).trans t3
              have kp1 := kp.same t123
              refine ⟨da, b3, s3, B.drop a16, S.drop b17, rfl, (kp.same t1).drw.ne nb3, ((kp.same t1).same t2).drw.ne ns3, t3 _ _ upd_same, upd_same, nB.sublist (List.drop_sublist _ _), nS.sublist (List.drop_sublist _ _), fun c h1 h2 => dj c (List.mem_of_mem_drop h1) (List.mem_of_mem_drop h2), by rw [List.length_drop]; omega, by rw [List.length_drop]; omega, kp1.drw, fun Hc p3v p3 kc ic wfc gc => ⟨(by show 1 ≤ sizeLine; decide), fun t1a nt1a => ?_⟩⟩
              obtain ⟨pg, pgh⟩ := gps p3 (wfc _ (fun c hc => rB c (List.mem_of_mem_drop hc)) fun c hc => rS c (List.mem_of_mem_drop hc)) (gc _)
              have t4 := same_new (.tup [p3v]) nt1a
              have kp2 := (kp1.trans kc).same t4
              have ept : NTv (upd Hc t1a (.tup [p3v])) pt pvs := t4 _ _ ((kc.tk kp1.drw) _ _ (t3 _ _ (t2 _ _ upd_same)))
              have tkc := ((Same.tk t123).trans (kc.tk kp1.drw)).trans (Same.tk t4)
              have cf2 := ((cf.same t123).kp kc kp1.drw ecl hnda).same t4
              have ips2 := ips.k tkc
              have ic2 := Is.k (t := encP p3) ic (Same.tk t4)
              refine ⟨pt, t1a, pvs, [p3v], rfl, rfl, SqT.of ept, SqT.of upd_same, by rw [pvl]; exact szl (by simp only [List.length_singleton]; omega), fun e => absurd e pvne, fun _ e => (by cases e), fun _ _ pq npq => ⟨(by show 2 ≤ sizeLine; decide), fun ct nct => ?_⟩⟩
              have t5 := same_new (.tup (pvs ++ [p3v])) npq
              have t6 := same_new (.tup [.str "split", .ref pq]) nct
              have t56 := t5.trans t6
              have kp3 := kp2.same t56
              have cf3 := cf2.same t56
              have epq := t6 _ _ (show upd (upd Hc t1a (.tup [p3v])) pq (.tup (pvs ++ [p3v])) pq = some (.tup (pvs ++ [p3v])) from upd_same)
              have ect : upd (upd (upd Hc t1a (.tup [p3v])) pq (.tup (pvs ++ [p3v]))) ct (.tup [.str "split", .ref pq]) ct = some (.tup [.str "split", .ref pq]) := upd_same
              have iall : IsAll (upd (upd (upd Hc t1a (.tup [p3v])) pq (.tup (pvs ++ [p3v]))) ct (.tup [.str "split", .ref pq])) ((ps ++ [p3]).map encP) (pvs ++ [p3v]) := by
                rw [List.map_append]
                exact IsAll.append (ips2.k (Same.tk t56)) (IsAll.one (t := encP p3) (Is.k (t := encP p3) ic2 (Same.tk t56)))
              generalize upd (upd (upd Hc t1a (.tup [p3v])) pq (.tup (pvs ++ [p3v]))) ct (.tup [.str "split", .ref pq]) = G7 at *
              refine ⟨_, rfl, _, rfl, _, rfl, (by show 0 ≤ sizeLine; decide), fun e0 ne0 => ⟨(by show 2 ≤ sizeLine; decide), fun t4a nt4a => ?_⟩⟩
              have v1 := same_new (.tup []) ne0
              have v2 := same_new (.tup [.str "split", .ref e0]) nt4a
              have v12 := v1.trans v2
              refine ⟨_, rfl, ct, _, 1, .ref pq, rfl, rfl, SqT.of (v12 _ _ ect), atI_nat (j := 1) rfl, 1, rfl, pq, _, rfl, SqT.of (v12 _ _ epq), fun z => ?_, fun _ hd nhd => ⟨(by show 2 ≤ sizeLine; decide), fun t5a nt5a => ⟨(by show 5 ≤ sizeLine; decide), fun l5 nl5 => ?_⟩⟩⟩
              · exfalso
                have z2 := z.2
                rw [show (1 : Int) = ((1 : Nat) : Int) from rfl, HT.sIx_nat, List.length_append, pvl] at z2
                have : 0 < ps.length := List.length_pos_iff.mpr pne
                simp only [List.length_singleton] at z2
                omega
              have ecut : cutV (pvs ++ [p3v]) none (some 1) = (pvs ++ [p3v]).take 1 := cut_take _ 1
              have v3 := same_new (.tup (cutV (pvs ++ [p3v]) none (some 1))) nhd
              have v4 := same_new (.tup [.str "split", .ref hd]) nt5a
              have v5 := same_new (.lst [.ref ct, .ref ct, .ref ct, .ref t4a, .ref t5a]) nl5
              have v35 := (v3.trans v4).trans v5
              have vv := v12.trans v35
              have kp4 := kp3.same vv
              have cf4' := cf3.same vv
              have fin : ∀ {G8 : Hp} {r : Nat}, Kp da H G8 → CF cl hl cs hs cxs hxs G8 → TK (upd (upd (upd (upd (upd G7 e0 (.tup [])) t4a (.tup [.str "split", .ref e0])) hd (.tup (cutV (pvs ++ [p3v]) none (some 1)))) t5a (.tup [.str "split", .ref hd])) l5 (.lst [.ref ct, .ref ct, .ref ct, .ref t4a, .ref t5a])) G8 → r < 5 → ∃ chv ch, atI [V.ref ct, V.ref ct, V.ref ct, V.ref t4a, V.ref t5a] (r : Int) = some chv ∧ Is G8 (encCh ch) chv ∧ CG cs i ch := fun {G8 r} _ _ tk hr => by
                have ict : Is G8 (encCh (.split (ps ++ [p3]))) (.ref ct) := is_split.mpr ⟨ct, .ref pq, rfl, tk _ _ (vv _ _ ect), pq, _, rfl, tk _ _ (vv _ _ epq), iall.k ((Same.tk vv).trans tk)⟩
                match r, hr with
                | 0, _ => exact ⟨_, _, rfl, ict, cgs pg⟩
                | 1, _ => exact ⟨_, _, rfl, ict, cgs pg⟩
                | 2, _ => exact ⟨_, _, rfl, ict, cgs pg⟩
                | 3, _ => exact ⟨_, .split [], rfl, is_split.mpr ⟨t4a, .ref e0, rfl, tk _ _ (v35 _ _ upd_same), e0, [], rfl, tk _ _ (v35 _ _ (v2 _ _ upd_same)), rfl⟩, cgs (pg_nil cs _ _)⟩
                | 4, _ =>
                  refine ⟨_, .split ((ps ++ [p3]).take 1), rfl, is_split.mpr ⟨t5a, .ref hd, rfl, tk _ _ (v5 _ _ upd_same), hd, _, rfl, tk _ _ (v5 _ _ (v4 _ _ upd_same)), ?_⟩, cgs pgh⟩
                  rw [ecut, List.map_take]
                  exact (iall.take 1).k ((Same.tk vv).trans tk)
              have el5 : upd (upd (upd (upd (upd G7 e0 (.tup [])) t4a (.tup [.str "split", .ref e0])) hd (.tup (cutV (pvs ++ [p3v]) none (some 1)))) t5a (.tup [.str "split", .ref hd])) l5 (.lst [.ref ct, .ref ct, .ref ct, .ref t4a, .ref t5a]) l5 = some (.lst [.ref ct, .ref ct, .ref ct, .ref t4a, .ref t5a]) := upd_same
              have l5da : l5 ≠ da := ((kp3.same v12).same (v3.trans v4)).drw.ne nl5
              refine ⟨_, rfl, da, 5, rfl, by decide, kp4.drw, fun Hz rz kz hrz => ?_⟩
              obtain ⟨chv, ch, e1, e2, e3⟩ := fin (kp4.trans kz) (cf4'.kp kz kp4.drw ecl hnda) (kz.tk kp4.drw) hrz
              refine ⟨l5, _, rz, chv, rfl, rfl, SqL.of (kz.at_ l5da el5), e1, ?_⟩
              exact last2 _ _ ⟨_, _, _, chv, ch, rfl, kp4.trans kz, cf4'.kp kz kp4.drw ecl hnda, e2, e3⟩
          · exact last2 _ _ ⟨_, _, _, cv, .plain p0, rfl, kp6, cf6, i6, cgp wf5 g5⟩
      case refine_1 =>
        rintro σ' H' ⟨y5, y12, y13, y14, y15, y16, y17, y18, base, hs, hxs, rfl, kp, cf, hsl, hcg⟩
        refine ⟨_, rfl, hl, _, rfl, .inl ⟨SqL.of cf.hl, fun p1 n1 => ⟨_, rfl, cl, _, rfl, .inl ⟨SqL.of (same_new _ n1 _ _ cf.cl), fun p2 n2 => ⟨(by show 2 ≤ sizeLine; decide), fun p3 n3 => ?_⟩⟩⟩⟩⟩
        have s1 := same_new (.tup hxs) n1
        have s2 := same_new (.tup cxs) n2
        have s3 := same_new (.tup [.ref p1, .ref p2]) n3
        have ss := (s1.trans s2).trans s3
        obtain ⟨g1, g2⟩ := good_web (hs := hs) (cs := cs) hlen (by omega) (fun c hc => by rw [hsl]; exact hq c hc) hcg
        exact q _ (.ref p3) ⟨hs, cs⟩ (kp.same ss) (is_web.mpr ⟨p3, p1, p2, rfl, upd_same, ⟨hxs, s3 _ _ (s2 _ _ upd_same), cf.hs.k (Same.tk ss)⟩, cxs, s3 _ _ upd_same, cf.cs.k (Same.tk ss)⟩) g1 g2 hlen (by show hs.length ≤ 6; omega)
end
end KW

namespace KW
open PySem PySem.Spec PyProof.Rows L2 K39 LamX
theorem nx_of {D : Ends} {σ : L2.St} {H : Hp} (h : D.nx σ H) : tNext D σ H := h
theorem pick_rows (row : List Nat) (Y : CS) : (((row.map fun c => [c]).find? fun r => r.all Y).getD []) = pick row Y := by
  induction row with
  | nil => rfl
  | cons a row ih =>
    rw [List.map_cons, List.find?_cons]
    cases h : Y a with
    | true =>
      rw [pick_cons_t h]
      simp [h]
    | false =>
      rw [pick_cons_f h, ← ih]
      simp [h]
theorem pick_sides (r : Nat) (hr : r < 2) (row : List Nat) (Y : CS) : ∃ L, (L = row ∨ L = []) ∧ ∀ Y : CS, (row.filter Y).take r ++ ([] : List Nat).take 0 = pick L Y := by
  match r, hr with
  | 0, _ => exact ⟨[], .inr rfl, fun Y => by simp [pick]⟩
  | 1, _ => exact ⟨row, .inl rfl, fun Y => by simp [pick]⟩
section
variable {P : Program} {w : World} {K : PySem.W.Frag} {mg : Str → Option Value} {base : Heap}
theorem scTl : FnScope ["_law_draws_here", "_law_buys", "_law_wishes_here", "_law_kind", "_law_row", "_law_c"] ["_law_draws_here", "_law_buys", "_law_wishes_here"] (defScope (top 36)) := ⟨rfl, rfl, rfl, by decide +kernel, rfl, by decide +kernel, by decide +kernel⟩
def spTl (K : PySem.W.Frag) : Sp := fun vs H Q _ => ∃ (da ba wa : Addr) (B ws : List Nat), vs = [.ref da, .ref ba, .ref wa] ∧ ba ≠ da ∧ H ba = some (.lst (B.map nv)) ∧ NT H wa ws ∧ B.Nodup ∧ B ≠ [] ∧ B.length ≤ 20 ∧ ws.Nodup ∧ (∀ c ∈ ws, c ∈ B) ∧ Drw H da ∧
  ∀ H' q (p : PCh) (L : List Nat), Kp da H H' → Is H' (encP p) q → L.Nodup → (∀ c ∈ L, c ∈ B) → (∀ (price : Nat → Int) (Y : CS), p.chosen price Y = pick L Y) → (∀ n, (∀ c ∈ B, c < n) → WFP n p) → Q q H'
theorem has_Tl (bt : Bt mg) (htk : Has P w K mg base 1 "_law_take" ["_law_draws_here", "_law_many"] spTk) (hws : Has P w K mg base 2 "_law_wishes" ["_law_draws_here", "_law_contracts"] (spWs K)) (d : At K mg "_law_told" 36) : Has P w K mg base 3 "_law_told" ["_law_draws_here", "_law_buys", "_law_wishes_here"] (spTl K) := by
  obtain ⟨fT, fdT, GT, gT, kT, bT⟩ := (htk.up (k := 2) (by decide)).ex
  obtain ⟨fW, fdW, GW, gW, kW, bW⟩ := hws.ex
  refine has_of d scTl (fun vs H Q E h => ?_) (fun _ _ _ _ _ _ us hl => match us, hl with | [_, _, _], _ => rfl) (fun f cdv A0 outer s H vs Q E hr h => ?_)
  · obtain ⟨da, ba, wa, B, ws, rfl, _⟩ := h
    rfl
  obtain ⟨da, ba, wa, B, ws, rfl, bda, hB, hw, nB, Bne, lB, nw, sw, dr, q⟩ := h
  have lw : ws.length ≤ 20 := Nat.le_trans (nodup_len nw sw) lB
  refine ⟨_, pss_cons (ps_set (i := 3) scTl.nd rfl (Or.inl rfl) (pe_call GT hr rfl gT kT bT .nil pass0 (pa_cons (pv 0) (pa_cons pe_int pa_nil))))
    (pss_cons (ps_set (i := 4) scTl.nd rfl (Or.inl rfl) (pe_call GW hr rfl gW kW bW .nil pass0 (pa_cons (pv 0) (pa_cons (pv 1) pa_nil))))
    (pss_cons (ps_if (pt_cmpR op_eq (pv 3) pe_int (nomark _)) (pss_one (ps_ret (pe_tup (pa_cons pe_str (pa_cons (pe_callTy call_tuple_of rfl bt.tuple (by decide +kernel) (pa_cons (pe_lc (own := [("_law_c", 5)]) (g := gName 5) (tt := tYes) rfl scTl.nd (pi_tup (pv 4)) (blkOk_by (N := ["_law_draws_here", "_law_buys", "_law_wishes_here", "_law_kind", "_law_row", "_law_c"]) (sc := defScope (top 36)) (by decide +kernel))
        (fun _ _ _ _ _ => pg_name (i := 5) scTl.nd rfl (.inl rfl)) (fun _ _ _ _ _ => pts_nil) (fun _ _ _ _ _ => pe_tup (pa_cons (pv 5) pa_nil))) pa_nil)) pa_nil))))) pss_nil)
    (pss_cons (ps_if (pt_cmpR op_eq (pv 3) pe_int (nomark _)) (pss_one (ps_set (i := 4) scTl.nd rfl (Or.inl rfl) (pe_slice sl_tupA (pv 2) po_none (po_some (pe_call GT hr rfl gT kT bT .nil pass0 (pa_cons (pv 0) (pa_cons (pe_op op_add (pe_callB (r := rLenS K) call_len_seq rfl bt.len (by decide +kernel) (pa_cons (pv 2) pa_nil)) pe_int) pa_nil))))))) pss_nil)
    (pss_cons (ps_if (pt_cmpR op_eq (pv 3) pe_int (nomark _)) (pss_one (ps_set (i := 4) scTl.nd rfl (Or.inl rfl) (pe_tup (pa_cons (pe_ix ix_list (pv 1) (pe_call GT hr rfl gT kT bT .nil pass0 (pa_cons (pv 0) (pa_cons (pe_callB (r := rLenS K) call_len_seq rfl bt.len (by decide +kernel) (pa_cons (pv 1) pa_nil)) pa_nil))) (fun _ _ => rfl)) pa_nil)))) pss_nil)
    (pss_cons (ps_if (pt_cmpR op_eq (pv 3) pe_int (nomark _)) (pss_one (ps_set (i := 4) scTl.nd rfl (Or.inl rfl) (pe_callTy call_tuple_of rfl bt.tuple (by decide +kernel) (pa_cons (pe_revT (pv 2)) pa_nil)))) pss_nil)
    (pss_cons (ps_if (pt_cmpR op_eq (pv 3) pe_int (nomark _)) (pss_one (ps_ret (pe_tup (pa_cons pe_str (pa_cons (pe_call GT hr rfl gT kT bT .nil pass0 (pa_cons (pv 0) (pa_cons pe_int pa_nil))) (pa_cons (pv 4) (pa_cons pe_int (pa_cons (pe_tup pa_nil) pa_nil)))))))) pss_nil)
    (pss_one (ps_ret (pe_tup (pa_cons pe_str (pa_cons pe_int (pa_cons (pv 4) (pa_cons pe_int (pa_cons (pe_tup pa_nil) pa_nil)))))))))))))), ?_⟩
  refine ⟨_, rfl, da, 6, rfl, by decide, dr, fun H1 kind k1 hk1 => ?_⟩
  refine ⟨_, rfl, _, rfl, da, ba, B, rfl, bda, k1.at_ bda hB, nB, by omega, k1.drw, fun H2 ra row k2 er ndr rin => ?_⟩
  have kp2 := k1.trans k2
  have lr : row.length ≤ 20 := Nat.le_trans (nodup_len ndr rin) lB
  refine ⟨_, rfl, rfl, _, rfl, ?_⟩
  refine ite2 (fun _ => ?_) (fun _ => ?_)
  · refine ⟨.ref ra, rfl, ra, rfl, ⟨_, SqT.of er⟩, fun D nD => ?_⟩
    refine lc_raw (G := Over H2 D) (l := row) (enc := nv) (itOf_tup fun H' g => Same.sqt g.2 (SqT.of er)) (fun k H' => Over H2 D H' ∧ ∃ rs, H' D = some (.lst rs) ∧ IsAll H' (((row.take k).map fun c => [c]).map nums) rs) ⟨Over.start nD _, [], upd_same, rfl⟩ (fun k H' p => p.1) (fun k c H' hx p => ?_) fun H' p => ?_
    · obtain ⟨o, rs, eD, irs⟩ := p
      have et := take_snoc hx
      have hk : k < row.length := (List.getElem?_eq_some_iff.mp hx).1
      refine ⟨rfl, yes_of ⟨_, rfl, (by show 1 ≤ sizeLine; decide), fun t nt => ?_⟩⟩
      have s1 := same_new (.tup [nv c]) nt
      have eD1 := s1 _ _ eD
      have tkU := TK.lst (.lst (rs ++ [.ref t])) eD1
      refine ⟨rs, eD1, ?_, Over.put ⟨o.1, o.2.trans s1⟩ _, rs ++ [.ref t], upd_same, ?_⟩
      · rw [irs.length, List.length_map, List.length_map, List.length_take]
        exact szk (by omega)
      · rw [et, List.map_append, List.map_append]
        exact IsAll.append ((irs.k (Same.tk s1)).k tkU) (IsAll.one (is_nums.mpr ⟨t, rfl, tkU _ _ upd_same⟩))
    · obtain ⟨o, rs, eD, irs⟩ := p
      rw [List.take_length] at irs
      refine ⟨D, _, rfl, .inl ⟨SqL.of eD, fun p1 n1 => ⟨(by show 2 ≤ sizeLine; decide), fun p2 n2 => ?_⟩⟩⟩
      have s1 := same_new (.tup rs) n1
      have s2 := same_new (.tup [.str "table", .ref p1]) n2
      refine q _ (.ref p2) (.table (row.map fun c => [c])) row (((kp2.same o.2).same s1).same s2) (is_table.mpr ⟨p2, .ref p1, rfl, upd_same, p1, rs, rfl, s2 _ _ upd_same, (irs.k (Same.tk s1)).k (Same.tk s2)⟩) ndr rin (fun price Y => pick_rows row Y) fun n hn => ⟨by rw [List.length_map]; omega, fun r hr => ?_⟩
      obtain ⟨c, hc, rfl⟩ := List.mem_map.mp hr
      exact ⟨by show 1 ≤ 100; decide, fun x hx => by rw [List.mem_singleton.mp hx]; exact hn c (rin c hc)⟩
  · have tk0 : ∀ {G : Hp}, Kp da H G → NT G wa ws := fun k => (k.tk dr) _ _ hw
    have N0 : ∃ N : L2.St → Hp → Prop, N = (fun σ' H' => ∃ (ra : Addr) (row : List Nat), σ' = [some (.ref da), some (.ref ba), some (.ref wa), some (nv kind), some (.ref ra), none] ∧ Kp da H H' ∧ NT H' ra row ∧ row.Nodup ∧ ∀ c ∈ row, c ∈ B) := ⟨_, rfl⟩
    obtain ⟨N, hN⟩ := N0
    have rest : ∀ {D : Ends} {σ : L2.St} {G : Hp}, True := trivial
    refine nx_of ?_
    dsimp only
    refine seq_cut N (fun σ' H' p => ?_) fun last => ?_
    · rw [hN] at p
      obtain ⟨ra, row, rfl, kp, er, ndr, rin⟩ := p
      refine seq_cut N (fun σ' H' p => ?_) fun last => ?_
      · rw [hN] at p
        obtain ⟨ra, row, rfl, kp, er, ndr, rin⟩ := p
        refine seq_cut N (fun σ' H' p => ?_) fun last => ?_
        · rw [hN] at p
          obtain ⟨ra, row, rfl, kp, er, ndr, rin⟩ := p
          have lr : row.length ≤ 20 := Nat.le_trans (nodup_len ndr rin) lB
          have sm : ∀ {L : List Nat}, (L = row ∨ L = []) → L.Nodup ∧ ∀ c ∈ L, c ∈ B := fun h => by
            rcases h with rfl | rfl
            · exact ⟨ndr, rin⟩
            · exact ⟨List.nodup_nil, fun c h => by cases h⟩
          have wf : ∀ {r : Nat} n, (∀ c ∈ B, c < n) → WFP n (.sides r row 0 []) := fun n hn => ⟨⟨by omega, fun c hc => hn c (rin c hc)⟩, by simp, fun c h => by cases h⟩
          refine ⟨_, rfl, rfl, _, rfl, ?_⟩
          refine ite2 (fun _ => ?_) (fun _ => ?_)
          · refine ⟨_, rfl, da, 2, rfl, by decide, kp.drw, fun H3 r k3 hr3 => ⟨_, rfl, (by show 0 ≤ sizeLine; decide), fun e0 ne0 => ⟨(by show 5 ≤ sizeLine; decide), fun t nt => ?_⟩⟩⟩
            have kp3 := kp.trans k3
            have s1 := same_new (.tup []) ne0
            have s2 := same_new (.tup [.str "sides", nv r, .ref ra, nv 0, .ref e0]) nt
            obtain ⟨L, hL, hp⟩ := pick_sides r hr3 row (fun _ => true)
            exact q _ (.ref t) (.sides r row 0 []) L ((kp3.same s1).same s2) (is_sides.mpr ⟨t, ra, e0, rfl, upd_same, s2 _ _ (s1 _ _ ((k3.tk kp.drw) _ _ er)), s2 _ _ upd_same⟩) (sm hL).1 (sm hL).2 (fun price Y => hp Y) wf
          · refine ⟨_, rfl, (by show 0 ≤ sizeLine; decide), fun e0 ne0 => ⟨(by show 5 ≤ sizeLine; decide), fun t nt => ?_⟩⟩
            have s1 := same_new (.tup []) ne0
            have s2 := same_new (.tup [.str "sides", nv 1, .ref ra, nv 0, .ref e0]) nt
            obtain ⟨L, hL, hp⟩ := pick_sides 1 (by decide) row (fun _ => true)
            exact q _ (.ref t) (.sides 1 row 0 []) L ((kp.same s1).same s2) (is_sides.mpr ⟨t, ra, e0, rfl, upd_same, s2 _ _ (s1 _ _ er), s2 _ _ upd_same⟩) (sm hL).1 (sm hL).2 (fun price Y => hp Y) wf
        · -- kind 3
          refine ⟨_, rfl, rfl, _, rfl, ?_⟩
          refine ite2 (fun _ => ?_) (fun _ => ?_)
          · refine ⟨_, rfl, wa, _, rfl, SqT.of (tk0 kp), fun p1 n1 => ?_⟩
            refine ⟨p1, _, rfl, .inr ⟨SqT.of upd_same, ?_⟩⟩
            refine last _ _ ?_
            rw [hN]
            refine ⟨p1, ws.reverse, rfl, kp.same (same_new _ n1), ?_, (List.reverse_perm ws).nodup_iff.mpr nw, fun c hc => sw c (List.mem_reverse.mp hc)⟩
            show upd _ _ _ _ = _
            rw [upd_same, List.map_reverse]
          · exact last _ _ (by rw [hN]; exact ⟨ra, row, rfl, kp, er, ndr, rin⟩)
      · -- kind 2
        refine ⟨_, rfl, rfl, _, rfl, ?_⟩
        refine ite2 (fun _ => ?_) (fun _ => ?_)
        · have eb := kp.at_ bda hB
          have bp : 0 < B.length := List.length_pos_iff.mpr Bne
          refine ⟨_, rfl, _, rfl, _, rfl, ba, _, rfl, .inl (SqL.of eb), ?_⟩
          rw [List.length_map]
          refine ⟨da, B.length, rfl, bp, kp.drw, fun H3 r k3 hr3 => ?_⟩
          refine ⟨ba, B.map nv, r, nv B[r], rfl, rfl, SqL.of (k3.at_ bda eb), at_nats hr3, (by show 1 ≤ sizeLine; decide), fun t nt => ?_⟩
          refine last _ _ ?_
          rw [hN]
          refine ⟨t, [B[r]], rfl, (kp.trans k3).same (same_new _ nt), upd_same, by simp, fun c hc => ?_⟩
          rw [List.mem_singleton.mp hc]
          exact List.getElem_mem hr3
        · exact last _ _ (by rw [hN]; exact ⟨ra, row, rfl, kp, er, ndr, rin⟩)
    · -- kind 1
      refine ⟨_, rfl, rfl, _, rfl, ?_⟩
      refine ite2 (fun _ => ?_) (fun _ => ?_)
      · have ew := tk0 kp2
        refine ⟨_, rfl, _, rfl, _, rfl, wa, _, rfl, .inr (SqT.of ew), _, _, rfl, rfl, ?_⟩
        refine ⟨da, ws.length + 1, by rw [List.length_map]; rfl, by omega, kp2.drw, fun H3 r k3 hr3 => ?_⟩
        have kp3 := kp2.trans k3
        have ew3 := tk0 kp3
        refine ⟨r, rfl, wa, _, rfl, SqT.of ew3, fun z => ?_, fun _ t nt => ?_⟩
        · refine last _ _ ?_
          rw [hN]
          exact ⟨wa, ws, rfl, kp3, ew3, nw, sw⟩
        · refine last _ _ ?_
          rw [hN]
          refine ⟨t, ws.take r, rfl, kp3.same (same_new _ nt), ?_, nw.sublist (List.take_sublist _ _), fun c hc => sw c (List.mem_of_mem_take hc)⟩
          show upd _ _ _ _ = _
          rw [upd_same, cut_take, List.map_take]
      · exact last _ _ (by rw [hN]; exact ⟨ra, row, rfl, kp2, er, ndr, rin⟩)
end
end KW

namespace KW
open PySem PySem.Spec PyProof.Rows L2 K39 LamX
section
variable {P : Program} {w : World} {K : PySem.W.Frag} {mg : Str → Option Value} {base : Heap}
theorem scDr : FnScope ["_law_script", "_law_many", "_law_cell", "_law_cells", "_law_rest", "_law_draws_here", "_law_k", "_law_at", "_law_once"] ["_law_script", "_law_many"] (defScope (top 23)) := ⟨rfl, rfl, rfl, by decide +kernel, rfl, by decide +kernel, by decide +kernel⟩
def spDr (K : PySem.W.Frag) : Sp := fun vs H Q _ => ∃ (a : Addr) (ns : List Int), vs = [.ref a, nv 760] ∧ SqL K H a (ns.map V.int) ∧ ns.length ≤ 63 ∧ ∀ H' p, Same H H' → Drw H' p → Q (.ref p) H'
theorem has_Dr (bt : Bt mg) (d : At K mg "_law_draws" 23) : Has P w K mg base 1 "_law_draws" ["_law_script", "_law_many"] (spDr K) := by
  refine has_of d scDr (fun vs H Q E h => ?_) (fun _ _ _ _ _ _ us hl => match us, hl with | [_, _], _ => rfl) (fun f cdv A0 outer s H vs Q E hr h => ?_)
  · obtain ⟨a, ns, rfl, _⟩ := h
    rfl
  obtain ⟨a, ns, rfl, ha, hl, q⟩ := h
  refine ⟨_, pss_cons (ps_setLc (i := 3) (own := [("_law_cell", 2)]) (g := gName 2) (tt := tYes) rfl scDr.nd rfl rfl (sw_true rfl rfl rfl (by decide +kernel)) (pi_list (pv 0)) (blkOk_by (N := ["_law_script", "_law_many", "_law_cell", "_law_cells", "_law_rest", "_law_draws_here", "_law_k", "_law_at", "_law_once"]) (sc := defScope (top 23)) (by decide +kernel))
        (fun _ _ _ _ _ => pg_name (i := 2) scDr.nd rfl (.inl rfl)) (fun _ _ _ _ _ => pts_nil) (fun _ _ _ _ _ => pe_callTy call_int1 rfl bt.int (by decide +kernel) (pa_cons (pv 2) pa_nil)))
    (pss_cons (ps_if (pt_cmpR op_eq (pe_callB (r := rLenS K) call_len_seq rfl bt.len (by decide +kernel) (pa_cons (pv 3) pa_nil)) pe_int (nomark _)) (pss_one (ps_expr (pe_bm PySem.F.plainAttrs_list PySem.F.slot_list_append PySem.F.type_list_append mt_append (pv 3) (pa_cons pe_int pa_nil)))) pss_nil)
    (pss_cons (ps_set (i := 4) scDr.nd rfl (Or.inl rfl) (pe_callTy call_list_of rfl bt.list (by decide +kernel) (pa_cons (pv 3) pa_nil)))
    (pss_cons (ps_set (i := 5) scDr.nd rfl (Or.inl rfl) (pe_lst pa_nil))
    (pss_cons (ps_for PassesOwn.never rfl (pi_range1 rfl bt.range (pa_cons (pv 1) pa_nil)) (pg_name (i := 6) scDr.nd rfl (Or.inl rfl))
      (pss_cons (ps_set (i := 7) scDr.nd rfl (Or.inl rfl) (pe_op op_mod (pv 6) (pe_callB (r := rLenS K) call_len_seq rfl bt.len (by decide +kernel) (pa_cons (pv 3) pa_nil))))
      (pss_one (ps_if (pt_cmpR op_ge (pe_ix ix_list (pv 3) (pv 7) (fun _ _ => rfl)) (pe_op op_pow pe_int pe_int) (nomark _))
        (pss_cons (ps_expr (pe_bm PySem.F.plainAttrs_list PySem.F.slot_list_append PySem.F.type_list_append mt_append (pv 5) (pa_cons (pe_op op_mod (pe_callTy call_int1 rfl bt.int (by decide +kernel) (pa_cons (pe_ix ix_list (pv 4) (pv 7) (fun _ _ => rfl)) pa_nil)) pe_int) pa_nil)))
        (pss_one (ps_asg (pe_op op_fdiv (pe_ix ix_list (pv 4) (pv 7) (fun _ _ => rfl)) pe_int) (pg_sub (pv 4) (pv 7) set_list))))
        (pss_cons (ps_set (i := 8) scDr.nd rfl (Or.inl rfl) (pe_op op_mod (pe_callTy call_int1 rfl bt.int (by decide +kernel) (pa_cons (pe_op op_add (pe_op op_add (pe_op op_mul (pe_ix ix_list (pv 3) (pv 7) (fun _ _ => rfl)) pe_int) (pe_op op_mul (pv 6) pe_int)) pe_int) pa_nil)) pe_int))
        (pss_one (ps_expr (pe_bm PySem.F.plainAttrs_list PySem.F.slot_list_append PySem.F.type_list_append mt_append (pv 5) (pa_cons (pe_op op_mod (pe_callTy call_int1 rfl bt.int (by decide +kernel) (pa_cons (pe_op op_add (pe_op op_add (pe_op op_mul (pv 8) (pv 8)) (pe_op op_mul pe_int (pv 8))) (pv 6)) pa_nil)) pe_int) pa_nil)))))))))
    (pss_cons (ps_expr (pe_bm0 PySem.F.plainAttrs_list PySem.F.slot_list_reverse PySem.F.type_list_reverse mt_reverse (pv 5)))
    (pss_one (ps_ret (pv 5)))))))), ?_⟩
  refine ⟨_, rfl, a, rfl, ⟨_, ha⟩, fun D nD => ?_⟩
  refine lc_map (G := Over H D) (l := ns) (enc := V.int) (itOf_list fun H' g => g.2.seq ha) V.int (Over.start nD _) (fun H' ys g => g.put ys) (szk (by omega)) (fun _ _ => rfl) (fun n ys H2 Q2 hn g eD k => ⟨_, rfl, .inl ⟨n, rfl, k H2 g eD⟩⟩) fun H1 g eD => ?_
  refine nm_of ?_
  dsimp only
  have HD : ∀ {G : Hp}, Same H G → ∀ ys, Same H (upd G D (.lst ys)) := fun {G} s ys b o e => by
    rw [upd_ne (ne_of_none e nD)]
    exact s b o e
  refine seq_cut (fun σ' H' => σ' = [some (.ref a), some (nv 760), none, some (.ref D), none, none, none, none, none] ∧ Same H H' ∧ ∃ cells : List Int, cells ≠ [] ∧ cells.length ≤ 63 ∧ H' D = some (.lst (cells.map V.int))) (fun σ' H' p => ?_) fun last => ?_
  · obtain ⟨rfl, s1, cells, cne, cl, eD⟩ := p
    have cpos : 0 < cells.length := List.length_pos_iff.mpr cne
    refine ⟨_, rfl, D, _, rfl, .inl (SqL.of eD), fun rl nrl => ⟨(by show 0 ≤ sizeLine; decide), fun dl ndl => ?_⟩⟩
    have s2 := same_new (.lst (cells.map V.int)) nrl
    have s3 := same_new (.lst []) ndl
    have s23 := s2.trans s3
    have s13 := s1.trans s23
    have eD3 := s23 _ _ eD
    have erl := s3 _ _ (show upd H' rl (.lst (cells.map V.int)) rl = some (.lst (cells.map V.int)) from upd_same)
    have nrlH := Same.none s1 nrl
    have ndlH := Same.none (s1.trans s2) ndl
    have nDr : D ≠ rl := fun z => by rw [z, nrl] at eD; cases eD
    have nDd : D ≠ dl := fun z => by rw [z] at eD; rw [s2 _ _ eD] at ndl; cases ndl
    have nrd : rl ≠ dl := fun z => by rw [← z, upd_same] at ndl; cases ndl
    have edl : upd (upd H' rl (.lst (cells.map V.int))) dl (.lst []) dl = some (.lst []) := upd_same
    generalize upd (upd H' rl (.lst (cells.map V.int))) dl (.lst []) = G at *
    refine nm_of ?_
    dsimp only
    refine ⟨_, rfl, 760, rfl, by decide, by decide, ?_⟩
    refine for_rngN (n := 760) (fun i σ H' => ∃ y6 y7 y8, σ = [some (.ref a), some (nv 760), none, some (.ref D), some (.ref rl), some (.ref dl), y6, y7, y8] ∧ Same H H' ∧ H' D = some (.lst (cells.map V.int)) ∧ ∃ rest ds : List Int, H' rl = some (.lst (rest.map V.int)) ∧ rest.length = cells.length ∧ H' dl = some (.lst (ds.map V.int)) ∧ ds.length = i)
      ⟨none, none, none, rfl, s13, eD3, cells, [], erl, rfl, edl, rfl⟩ (fun i σ H' hi p => ?_) fun σ H' p => ?_
    · obtain ⟨y6, y7, y8, rfl, s1, eD, rest, ds, er, rlen, ed, dlen⟩ := p
      refine ⟨_, rfl, _, rfl, D, _, rfl, .inl (SqL.of eD), _, _, rfl, rfl, by rw [List.length_map]; show (0 : Int) < (cells.length : Int); omega, ?_⟩
      refine nm_of ?_
      dsimp only
      rw [List.length_map, show V.int ((i : Int) % (cells.length : Int)) = nv (i % cells.length) from rfl]
      have hat : i % cells.length < cells.length := Nat.mod_lt _ cpos
      generalize i % cells.length = j at *
      have hr : j < rest.length := by omega
      have ec : atI (cells.map V.int) (j : Int) = some (.int cells[j]) := atI_nat (j := j) (by rw [List.getElem?_map, List.getElem?_eq_getElem hat]; rfl)
      have err : atI (rest.map V.int) (j : Int) = some (.int rest[j]) := atI_nat (j := j) (by rw [List.getElem?_map, List.getElem?_eq_getElem hr]; rfl)
      refine ⟨_, rfl, _, rfl, D, _, j, .int cells[j], rfl, rfl, SqL.of eD, ec, 10, 18, rfl, rfl, ⟨by decide, by decide, by decide⟩, _, _, rfl, rfl, _, rfl, ?_⟩
      refine ite2 (fun _ => ?_) (fun _ => ?_)
      · refine ⟨_, rfl, .inl ⟨rfl, _, SqL.of ed⟩, _, rfl, _, rfl, rl, _, j, .int rest[j], rfl, rfl, SqL.of er, err, .inl ⟨_, rfl, _, 1000, rfl, rfl, (show (0 : Int) < 1000 by decide), dl, _, _, rfl, rfl, ed, by rw [List.length_map, dlen]; exact szk (by omega), ?_⟩⟩
        have er2 : upd H' dl (.lst (ds.map V.int ++ [V.int (rest[j] % 1000)])) rl = some (.lst (rest.map V.int)) := by
          rw [upd_ne nrd]
          exact er
        refine ⟨_, rfl, _, rfl, rl, _, j, .int rest[j], rfl, rfl, SqL.of er2, err, rest[j], 1000, rfl, rfl, ⟨by decide, by decide⟩, _, rfl, _, rfl, rl, _, j, j, rfl, rfl, er2, ?_, ?_⟩
        · unfold ixN
          rw [if_pos (by omega), if_pos (by rw [List.length_map]; omega), Int.toNat_natCast]
        · refine ⟨_, _, _, rfl, fun b o e => ?_, ?_, rest.set j (rest[j] / 1000), ds ++ [rest[j] % 1000], ?_, by rw [List.length_set]; exact rlen, ?_, by rw [List.length_append, dlen]; rfl⟩
          · rw [upd_ne (ne_of_none e nrlH), upd_ne (ne_of_none e ndlH)]
            exact s1 b o e
          · rw [upd_ne nDr, upd_ne nDd]
            exact eD
          · rw [upd_same, List.map_set]
          · rw [upd_ne (fun z => nrd z.symm), upd_same, List.map_append]
            rfl
      · refine ⟨_, rfl, _, rfl, D, _, j, .int cells[j], rfl, rfl, SqL.of eD, ec, _, 48271, rfl, rfl, .inr ⟨by decide, by decide⟩, _, rfl, i, 69621, rfl, rfl, .inr ⟨by decide, by decide⟩, _, _, rfl, rfl, _, 11, rfl, rfl, .inl ⟨_, rfl, _, 2147483647, rfl, rfl, (show (0 : Int) < 2147483647 by decide), ?_⟩⟩
        refine nm_of ?_
        dsimp only
        generalize hx : (cells[j] * 48271 + (i : Int) * 69621 + 11) % 2147483647 = once
        have h1 : 0 ≤ once := by rw [← hx]; exact Int.emod_nonneg _ (by decide)
        have h2 : once < 2147483647 := by rw [← hx]; exact Int.emod_lt_of_pos _ (by decide)
        have sm : CMul once once := .inl ⟨by omega, by omega⟩
        have sm3 : CMul 3 once := .inl ⟨by decide, by decide⟩
        refine ⟨_, rfl, .inl ⟨rfl, _, SqL.of ed⟩, _, rfl, _, rfl, once, once, rfl, rfl, sm, _, rfl, 3, once, rfl, rfl, sm3, _, _, rfl, rfl, _, rfl, _, _, rfl, rfl, .inl ⟨_, rfl, _, 1000003, rfl, rfl, (show (0 : Int) < 1000003 by decide), dl, _, _, rfl, rfl, ed, by rw [List.length_map, dlen]; exact szk (by omega), ?_⟩⟩
        refine ⟨_, _, _, rfl, fun b o e => ?_, ?_, rest, ds ++ [(once * once + 3 * once + (i : Int)) % 1000003], ?_, rlen, ?_, by rw [List.length_append, dlen]; rfl⟩
        · rw [upd_ne (ne_of_none e ndlH)]
          exact s1 b o e
        · rw [upd_ne nDd]
          exact eD
        · rw [upd_ne nrd]
          exact er
        · rw [upd_same, List.map_append]
          rfl
    · obtain ⟨y6, y7, y8, rfl, s1, eD, rest, ds, er, rlen, ed, dlen⟩ := p
      refine ⟨_, rfl, .inl ⟨rfl, _, SqL.of ed⟩, dl, _, rfl, rfl, ed, _, rfl, q _ dl (fun b o e => ?_) ⟨ds.reverse, ?_⟩⟩
      · rw [upd_ne (ne_of_none e ndlH)]
        exact s1 b o e
      · rw [upd_same, List.map_reverse]
  · refine ⟨_, rfl, D, _, rfl, .inl (SqL.of eD), rfl, _, rfl, ?_⟩
    rw [List.length_map]
    refine ite2 (fun e => ?_) (fun e => ?_)
    · refine ⟨_, rfl, .inl ⟨rfl, _, SqL.of eD⟩, D, _, _, rfl, rfl, eD, by rw [List.length_map]; exact szk (by omega), ?_⟩
      refine last _ _ ⟨rfl, HD g.2 _, ns ++ [0], by simp, ?_, ?_⟩
      · have e' : nv ns.length = nv 0 := of_decide_eq_true e
        have := nv_inj e'
        rw [List.length_append, this]
        decide
      · rw [upd_same, List.map_append]
        rfl
    · refine last _ _ ⟨rfl, g.2, ns, fun z => e (by rw [z]; rfl), hl, eD⟩
end
end KW

namespace KW
open PySem PySem.Spec PyProof.Rows L2 K39 LamX
/-! ### the plain law, in lists -/
theorem short_eq {l m : List Nat} (nl : l.Nodup) (nm : m.Nodup) (h : ∀ c, c ∈ l ↔ c ∈ m) (hl : l.length ≤ 1) : l = m := by
  have p := (List.perm_ext_iff_of_nodup nl nm).mpr h
  have e := p.length_eq
  match l, m, hl, e, h with
  | [], [], _, _, _ => rfl
  | [a], [b], _, _, h =>
    have := (h a).mp List.mem_cons_self
    rw [List.mem_singleton.mp this]
  | [], _ :: _, _, e, _ => cases e
  | [_], [], _, e, _ => cases e
  | [_], _ :: _ :: _, _, e, _ => simp at e
  | _ :: _ :: _, _, hl, _, _ => simp at hl
theorem end_eq {M : Mkt} (ok : M.Ok) {d : Nat} {T L : List Nat} (hT : ∀ c ∈ T, c < M.n ∧ M.bu c = d) (hL : ∀ c ∈ L, c < M.n ∧ M.bu c = d) (hs : ∀ c, c < M.n → M.sl c ≠ d) (hd : d < M.m) {O A O' A' : CS} (g : (M.tells d T).Greatest O A) (g' : (M.tells d L).Greatest O' A')
    {Y : CS} (hY : ∀ c ∈ T, Y c = ((O c && A c) || (O' c && A' c))) {l : List Nat} (ln : l.Nodup) (hl : ∀ c, c ∈ l ↔ c < M.n ∧ M.bu c = d ∧ O c = true ∧ A c = true) : srt (pick T Y) = l := by
  have e1 : pick T Y = pick T (fun c => (decide (c < M.n) && M.bu c == d) && ((O c && A c) || (O' c && A' c))) := pick_congr fun c hc => by
    obtain ⟨h1, h2⟩ := hT c hc
    rw [hY c hc]
    simp [h1, h2]
  have e2 := need_not_lie ok hd hs hT hL g g'
  have okT := tells_ok ok (d := d) (P := T) hT
  rw [e1, e2]
  have gp : Good (fun c => c < M.n ∧ M.bu c = d) (fun c => c < M.n ∧ M.sl c = d) (pick T) (fun _ => []) := good_pick hT
  have pl := pick_len T (M.off d O A)
  have np := gp.bnd (M.off d O A)
  refine short_eq ((srt_perm _).nodup_iff.mpr np) ln (fun c => ?_) (by rw [srt_len]; exact pl)
  rw [srt_mem, hl]
  have sb := settled_b okT g.1 (h := d) (c := c) hd
  rw [tells_b] at sb
  exact sb
def Web.setH (W : Web) (h : Nat) (x : House) : Web := ⟨W.hs.set h x, W.cs⟩
theorem told_fits {W : Web} {M : Mkt} (wf : WFW W) (F : Fits W M) {h : Nat} (hh : h < W.hs.length) {p : PCh} {L : List Nat} (nm : Str) (hp : ∀ (price : Nat → Int) (Y : CS), p.chosen price Y = pick L Y) (wp : WFP W.cs.length p) (hL : ∀ c ∈ L, c < M.n ∧ M.bu c = h) :
    WFW (W.setH h ⟨nm, .plain p⟩) ∧ Fits (W.setH h ⟨nm, .plain p⟩) (M.tells h L) := by
  have ech : ∀ j, (W.setH h ⟨nm, .plain p⟩).ch j = if j = h then .plain p else W.ch j := fun j => by
    unfold Web.ch Web.setH
    show (match (W.hs.set h ⟨nm, .plain p⟩)[j]? with | some x => x.ch | none => Ch.split []) = _
    rw [List.getElem?_set]
    by_cases e : h = j
    · subst e
      rw [if_pos rfl, if_pos hh, if_pos rfl]
    · rw [if_neg e, if_neg (fun z => e z.symm)]
      first | done | rfl
  have hm : (W.setH h ⟨nm, .plain p⟩).hs.length = W.hs.length := List.length_set
  refine ⟨⟨wf.n, by rw [hm]; exact wf.m, fun j hj => ?_, fun c hc => by rw [hm]; exact wf.sb c hc⟩, ⟨F.n, by rw [hm]; exact F.m, F.sl, F.bu, tells_ok F.ok hL, fun j hj Y => ?_⟩⟩
  · rw [ech]
    by_cases e : j = h
    · rw [if_pos e]
      exact wp
    · rw [if_neg e]
      rw [hm] at hj
      exact wf.ch j hj
  · rw [ech]
    by_cases e : j = h
    · subst e
      rw [if_pos rfl, tells_b, tells_s]
      show (p.chosen _ Y).Perm (pick L Y ++ [])
      rw [hp, List.append_nil]
    · rw [if_neg e]
      have e1 : (M.tells h L).b j = M.b j := by simp [Mkt.tells, e]
      have e2 : (M.tells h L).s j = M.s j := by simp [Mkt.tells, e]
      rw [e1, e2]
      exact F.perm j hj Y
theorem tells_tells (M : Mkt) (d : Nat) (T L : List Nat) : (M.tells d T).tells d L = M.tells d L := by
  unfold Mkt.tells
  congr 1
  · funext h
    show (if h = d then pick L else (if h = d then pick T else M.b h)) = _
    by_cases e : h = d
    · rw [if_pos e, if_pos e]
    · rw [if_neg e, if_neg e, if_neg e]
  · funext h
    by_cases e : h = d
    · simp [e]
    · simp [e]
theorem setH_ch {W : Web} {h : Nat} (hh : h < W.hs.length) (x : House) : (W.setH h x).ch h = x.ch := by
  unfold Web.ch Web.setH
  show (match (W.hs.set h x)[h]? with | some x => x.ch | none => Ch.split []) = _
  rw [List.getElem?_set_self hh]
theorem set_split {α : Type} (l : List α) (h : Nat) (x : α) (hh : h < l.length) : l.set h x = l.take h ++ [x] ++ l.drop (h + 1) := by
  rw [List.set_eq_take_append_cons_drop, if_pos hh, List.append_assoc]
  rfl
theorem isAll_set {H : Hp} : ∀ {ts : List T} {xs : List V} {h : Nat} {t : T} {v : V}, IsAll H ts xs → Is H t v → IsAll H (ts.set h t) (xs.set h v)
  | [], xs, h, t, v, e, _ => by
    have e' : xs = [] := e
    rw [e']
    rfl
  | t0 :: ts, xs, 0, t, v, e, i => by
    obtain ⟨x, r, rfl, _, h2⟩ := e
    exact ⟨v, r, rfl, i, h2⟩
  | t0 :: ts, xs, h + 1, t, v, e, i => by
    obtain ⟨x, r, rfl, h1, h2⟩ := e
    exact ⟨x, r.set h v, rfl, h1, isAll_set h2 i⟩
/-- the web's tuple as it lies -/
structure WebAt (H : Hp) (W : Web) (wp hb cb : Addr) (xs ys : List V) : Prop where
  w : H wp = some (.tup [.ref hb, .ref cb])
  h : H hb = some (.tup xs)
  hs : IsAll H (W.hs.map encH) xs
  c : H cb = some (.tup ys)
  cs : IsAll H (W.cs.map encCon) ys
theorem webAt_of {H : Hp} {W : Web} {v : V} (h : Is H (encWeb W) v) : ∃ wp hb cb xs ys, v = .ref wp ∧ WebAt H W wp hb cb xs ys := by
  obtain ⟨wp, hb, cb, e, h1, ⟨xs, h2, h3⟩, ys, h4, h5⟩ := is_web.mp h
  exact ⟨wp, hb, cb, xs, ys, e, h1, h2, h3, h4, h5⟩
theorem WebAt.is {H : Hp} {W : Web} {wp hb cb : Addr} {xs ys : List V} (a : WebAt H W wp hb cb xs ys) : Is H (encWeb W) (.ref wp) := is_web.mpr ⟨wp, hb, cb, rfl, a.w, ⟨xs, a.h, a.hs⟩, ys, a.c, a.cs⟩
theorem WebAt.k {H H' : Hp} {W : Web} {wp hb cb : Addr} {xs ys : List V} (a : WebAt H W wp hb cb xs ys) (k : TK H H') : WebAt H' W wp hb cb xs ys := ⟨k _ _ a.w, k _ _ a.h, a.hs.k k, k _ _ a.c, a.cs.k k⟩
/-- [c for c in range(len(web[1])) if web[1][c][j] == house] -/
theorem rd_side2 {K : PySem.W.Frag} {σ : L2.St} {H1 : Hp} {W : Web} {wp hb cb : Addr} {xs ys : List V} {k : Nat} {j : Int} {sel : Con → Nat} {Q : VK} (hsel : ∀ c : Con, atI [nv c.s, nv c.b, V.int c.p] j = some (nv (sel c))) (h2 : σ[2]? = some (some (.ref wp))) (w5 : ∀ v : V, wipe ((wipe σ [5]).set 5 (some v)) [5] = wipe σ [5]) (h5 : ∀ v : V, ((wipe σ [5]).set 5 (some v))[5]? = some (some v))
    (h2' : ∀ v : V, ((wipe σ [5]).set 5 (some v))[2]? = some (some (.ref wp))) (h4' : ∀ v : V, ((wipe σ [5]).set 5 (some v))[4]? = some (some (nv k))) (a : WebAt H1 W wp hb cb xs ys) (hlen : W.cs.length ≤ 20)
    (q : ∀ D H2, Same H1 H2 → H1 D = none → H2 D = some (.lst (((List.range W.cs.length).filter fun c => (W.cs.map sel)[c]? == some k).map nv)) → Q (.ref D) H2) :
    tLc (iRng1 (tCons (tCB (rLenS K) (tCons (tOp (rIxT K) (tVar 2) (tC (.int 1))) tNil)) tNil)) (gName 5) (tTest (tOp rEq (tOp (rIxT K) (tOp (rIxT K) (tOp (rIxT K) (tVar 2) (tC (.int 1))) (tVar 5)) (tC (.int j))) (tVar 4))) (tVar 5) [5] σ H1 Q := by
  have cl' : ys.length = W.cs.length := by rw [a.cs.length, List.length_map]
  refine ⟨_, h2, wp, _, 1, .ref cb, rfl, rfl, SqT.of a.w, atI_nat (j := 1) rfl, cb, ys, rfl, .inr (SqT.of a.c), _, rfl, by omega, by omega, fun D nD => ?_⟩
  rw [Int.toNat_natCast, cl']
  refine lc_filt (G := Over H1 D) (l := List.range W.cs.length) (enc := nv) itOf_range (fun c => (W.cs.map sel)[c]? == some k) nv (Over.start nD _) (fun H' ys g => g.put ys) (szk (by rw [List.length_range]; omega)) (fun n _ => w5 _) (fun n zs H2 Q1 hn g eD kk => ?_) (fun n ys H2 Q2 hn _ g eD kk => ⟨_, h5 _, kk H2 g eD⟩) fun H' g eD => q D H' g.2 nD eD
  have hlt := List.mem_range.mp hn
  obtain ⟨ta, t1, t2⟩ := con_at a.cs hlt
  refine ⟨_, h2' _, wp, _, 1, .ref cb, rfl, rfl, SqT.of (g.2 _ _ a.w), atI_nat (j := 1) rfl, _, h5 _, cb, ys, n, .ref ta, rfl, rfl, SqT.of (g.2 _ _ a.c), atI_nat (j := n) t1, ta, _, j, nv (sel W.cs[n]), rfl, rfl, SqT.of (g.2 _ _ t2), hsel _, _, h4' _, rfl, _, rfl, ?_⟩
  have em : ((W.cs.map sel)[n]? == some k) = decide (nv (sel W.cs[n]) = nv k) := by
    rw [List.getElem?_map, List.getElem?_eq_getElem hlt, Bool.eq_iff_iff, beq_iff_eq, decide_eq_true_eq]
    constructor
    · intro h
      rw [show sel W.cs[n] = k from Option.some.inj h]
    · intro h
      show some (sel W.cs[n]) = some k
      rw [nv_inj h]
  rw [← em]
  exact kk H2 g eD
/-- web[0][:house] + (house's new pair,) + web[0][house + 1:] -/
theorem rd_swap {K : PySem.W.Frag} {X : TE} {σ : L2.St} {H : Hp} {W : Web} {wp hb cb : Addr} {xs ys : List V} {h : Nat} {x : House} {Q : VK} (h2 : σ[2]? = some (some (.ref wp))) (h4 : σ[4]? = some (some (nv h))) (a : WebAt H W wp hb cb xs ys) (hh : h < W.hs.length) (hm : W.hs.length ≤ 20)
    (hX : ∀ (G : Hp) (Q' : VK), Same H G → (∀ G' v, Same G G' → Is G' (encH x) v → Q' v G') → X σ G Q') (q : ∀ H' p zs, Same H H' → H' p = some (.tup zs) → IsAll H' ((W.hs.set h x).map encH) zs → Q (.ref p) H') :
    tOp (rCatA K) (tOp (rCatA K) (tSl (rSlA K) (tOp (rIxT K) (tVar 2) (tC (.int 0))) tNoPart (tPart (tVar 4))) (tTup (tCons X tNil))) (tSl (rSlA K) (tOp (rIxT K) (tVar 2) (tC (.int 0))) (tPart (tOp (rI0 fun i j => V.int (i + j)) (tVar 4) (tC (.int 1)))) tNoPart) σ H Q := by
  have xl : xs.length = W.hs.length := by rw [a.hs.length, List.length_map]
  refine ⟨_, h2, wp, _, 0, .ref hb, rfl, rfl, SqT.of a.w, atI_nat (j := 0) rfl, _, h4, h, rfl, hb, xs, rfl, SqT.of a.h, fun z => ?_, fun _ p1 n1 => ?_⟩
  · exfalso
    have z2 := z.2
    rw [HT.sIx_nat] at z2
    omega
  rw [cut_take]
  have s1 := same_new (.tup (xs.take h)) n1
  refine hX _ _ s1 fun G2 v s2 iv => ⟨(by show 1 ≤ sizeLine; decide), fun p2 n2 => ?_⟩
  have s3 := same_new (.tup [v]) n2
  have e1 : upd G2 p2 (.tup [v]) p1 = some (.tup (xs.take h)) := s3 _ _ (s2 _ _ upd_same)
  have iv3 := iv.k (Same.tk s3)
  have s13 := (s1.trans s2).trans s3
  have e2 : upd G2 p2 (.tup [v]) p2 = some (.tup [v]) := upd_same
  generalize upd G2 p2 (.tup [v]) = G3 at *
  have fin : ∀ (G4 : Hp) (p3 : Addr), Same G3 G4 → G4 p3 = some (.tup (xs.take h ++ [v])) → (fun x1 H1 => tSl (rSlA K) (tOp (rIxT K) (tVar 2) (tC (.int 0))) (tPart (tOp (rI0 fun i j => V.int (i + j)) (tVar 4) (tC (.int 1)))) tNoPart σ H1 fun y H2 => rCatA K x1 y H2 Q) (.ref p3) G4 := fun G4 p3 s4 e4 => by
    have s14 := s13.trans s4
    refine ⟨_, h2, wp, _, 0, .ref hb, rfl, rfl, SqT.of (s14 _ _ a.w), atI_nat (j := 0) rfl, _, h4, _, _, rfl, rfl, _, rfl, hb, xs, rfl, SqT.of (s14 _ _ a.h), fun z => ?_, fun _ p5 n5 => ?_⟩
    · exfalso
      have z1 := z.1
      rw [show ((h : Int) + 1) = ((h + 1 : Nat) : Int) by omega, HT.sIx_nat] at z1
      omega
    have ec : cutV xs (some ((h : Int) + 1)) none = xs.drop (h + 1) := cut_drop xs (h + 1)
    rw [ec]
    have s5 := same_new (.tup (xs.drop (h + 1))) n5
    have all : ∀ (G6 : Hp), Same G4 G6 → IsAll G6 ((W.hs.set h x).map encH) (xs.take h ++ [v] ++ xs.drop (h + 1)) := fun G6 s6 => by
      have hi := isAll_set (h := h) (a.hs.k (Same.tk (s14.trans s6))) (iv3.k (Same.tk (s4.trans s6)))
      rw [set_split xs h v (by omega)] at hi
      rw [List.map_set]
      exact hi
    refine ⟨p3, p5, _, _, rfl, rfl, SqT.of (s5 _ _ e4), SqT.of upd_same, ?_, fun e => ?_, fun _ e => ?_, fun _ _ p6 n6 => ?_⟩
    · rw [List.length_append, List.length_take, List.length_drop]
      exact szl (by simp only [List.length_singleton]; omega)
    · exact absurd e (by simp)
    · have al := all _ s5
      rw [show xs.take h ++ [v] ++ xs.drop (h + 1) = xs.take h ++ [v] by rw [e, List.append_nil]] at al
      exact q _ p3 _ (s14.trans s5) (s5 _ _ e4) al
    · have s6 := same_new (.tup (xs.take h ++ [v] ++ xs.drop (h + 1))) n6
      exact q _ p6 _ ((s14.trans s5).trans s6) upd_same (all _ (s5.trans s6))
  refine ⟨p1, p2, _, _, rfl, rfl, SqT.of e1, SqT.of e2, ?_, fun e => ?_, fun _ e => ?_, fun _ _ p3 n3 => ?_⟩
  · rw [List.length_take]
    exact szl (by simp only [List.length_singleton]; omega)
  · refine fin _ p2 (Same.refl _) ?_
    rw [e]
    exact e2
  · cases e
  · exact fin _ p3 (same_new _ n3) upd_same
theorem law_eq {W : Web} {M : Mkt} (F : Fits W M) {h : Nat} (hh : h < W.hs.length) (hsell : Sellsof W h = []) {ws L : List Nat} (sw : ∀ c ∈ ws, c ∈ Buysof W h) (sL : ∀ c ∈ L, c ∈ Buysof W h) {O A O' A' r : List Nat} (cO : Can W.cs.length O) (cO' : Can W.cs.length O')
    (g : (M.tells h ws).Greatest O.contains A.contains) (g' : (M.tells h L).Greatest O'.contains A'.contains) (hr : ∀ c, c ∈ r ↔ c ∈ O.filter A.contains ∨ c ∈ O'.filter A'.contains) :
    lawC (.sides 1 ws 0 []) (r.filter (ownP W h)) = (O.filter A.contains).filter (ownP W h) := by
  have buy : ∀ c, c ∈ Buysof W h → c < M.n ∧ M.bu c = h := fun c hc => by
    rw [F.n, F.bu]
    exact mem_buys.mp hc
  have hs : ∀ c, c < M.n → M.sl c ≠ h := fun c hc z => by
    rw [F.n] at hc
    rw [F.sl] at z
    have : c ∈ Sellsof W h := mem_sells.mpr ⟨hc, z⟩
    rw [hsell] at this
    cases this
  have canlt : ∀ {O : List Nat}, Can W.cs.length O → (∀ c ∈ O, c < W.cs.length) ∧ O.Nodup := fun {O} cO => by
    refine ⟨fun c hc => ?_, ?_⟩
    · rw [cO] at hc
      exact List.mem_range.mp (List.mem_filter.mp hc).1
    · rw [cO]
      exact nodup_filter_range _ _
  have e : lawC (.sides 1 ws 0 []) (r.filter (ownP W h)) = srt (pick ws (r.filter (ownP W h)).contains) := by
    unfold lawC
    show srt ((ws.filter _).take 1 ++ (([] : List Nat).filter _).take 0) = _
    rw [List.filter_nil, List.take_nil, List.append_nil]
    rfl
  rw [e]
  refine end_eq F.ok (fun c hc => buy c (sw c hc)) (fun c hc => buy c (sL c hc)) hs (by rw [F.m]; exact hh) g g' (fun c hc => ?_) (((canlt cO).2.filter _).filter _) fun c => ?_
  · have hb := buy c (sw c hc)
    have own : ownP W h c = true := by
      unfold ownP
      rw [F.bu] at hb
      rw [hb.2]
      simp
    rw [Bool.eq_iff_iff, List.contains_iff_mem, List.mem_filter, hr]
    simp only [own, and_true, List.mem_filter, List.contains_iff_mem, Bool.or_eq_true, Bool.and_eq_true]
  · rw [List.mem_filter, List.mem_filter, List.contains_iff_mem, List.contains_iff_mem]
    unfold ownP
    simp only [Bool.or_eq_true, beq_iff_eq]
    constructor
    · rintro ⟨⟨h1, h2⟩, h3⟩
      have lt := (canlt cO).1 c h1
      rw [← F.n] at lt
      refine ⟨lt, ?_, h1, h2⟩
      rw [F.bu]
      rcases h3 with h3 | h3
      · rw [← F.sl] at h3
        exact absurd h3 (hs c lt)
      · exact h3
    · rintro ⟨h1, h2, h3, h4⟩
      rw [F.bu] at h2
      exact ⟨⟨h3, h4⟩, .inr h2⟩
end KW

namespace KW
open PySem PySem.Spec PyProof.Rows L2 K39 LamX
theorem tst_of {t : TE} {σ : L2.St} {H : Hp} {Q : Bool → Hp → Prop} (h : t σ H fun x H' => ∃ k, x = .bl k ∧ Q k H') : tTest t σ H Q := h
theorem op_of {r : R2} {ta tb : TE} {σ : L2.St} {H : Hp} {Q : VK} (h : ta σ H fun x H1 => tb σ H1 fun y H2 => r x y H2 Q) : tOp r ta tb σ H Q := h
theorem tup_of {t : TA} {σ : L2.St} {H : Hp} {Q : VK} (h : t σ H fun xs H1 => xs.length ≤ sizeLine ∧ ∀ p, H1 p = none → Q (.ref p) (upd H1 p (.tup xs))) : tTup t σ H Q := h
theorem call_of {sp : Sp} {dvs : List V} {E : XK} {t : TA} {σ : L2.St} {H : Hp} {Q : VK} (h : t σ H fun vs H1 => sp (vs ++ dvs) H1 Q E) : tCall sp dvs E t σ H Q := h
def lNum (l : List Nat) : PyData := .list (l.map fun n : Nat => .int (n : Int))
theorem dp_l {K : PySem.W.Frag} {H : Hp} {a : Addr} {l : List Nat} (h : H a = some (.lst (l.map nv))) : Dp K H (.ref a) (lNum l) := .lst (SqL.of h) (dp_nums l)
theorem shaped_lNum (l : List Nat) : SeqAt.shaped (lNum l) = true := by
  unfold SeqAt.shaped lNum
  rw [PyData.canLay0, PyData.depth, (lay_nums l).1, (lay_nums l).2]
  rfl
theorem eqv_lNum (l m : List Nat) : PyData.eqv (lNum l) (lNum m) = decide (l = m) := by
  unfold lNum
  rw [PyData.eqv, eqv_nums]
section
variable {P : Program} {w : World} {K : PySem.W.Frag} {mg : Str → Option Value} {base : Heap}
abbrev NL : List Str := ["_law_script", "_law_draws_here", "_law_web_here", "_law_ends", "_law_house", "_law_c", "_law_sells", "_law_buys", "_law_wishes_here", "_law_name", "_law_truth", "_law_k", "_law_choice_here", "_law_lie"]
theorem scLaw : FnScope NL ["_law_script"] (defScope (top 38)) := ⟨rfl, rfl, rfl, by decide +kernel, rfl, by decide +kernel, by decide +kernel⟩
def spLaw (K : PySem.W.Frag) : Sp := fun vs H Q _ => ∃ (a : Addr) (ns : List Int), vs = [.ref a] ∧ SqL K H a (ns.map V.int) ∧ ns.length ≤ 63 ∧ Tabs (Tt K) H ∧ ∀ H', Q (.bl true) H'
theorem ok_Law (bt : Bt mg) (hdr : Has P w K mg base 1 "_law_draws" ["_law_script", "_law_many"] (spDr K)) (htk : Has P w K mg base 1 "_law_take" ["_law_draws_here", "_law_many"] spTk) (hwb : Has P w K mg base 4 "_law_web" ["_law_draws_here", "_law_many", "_law_most"] (spWb K))
    (hws : Has P w K mg base 2 "_law_wishes" ["_law_draws_here", "_law_contracts"] (spWs K)) (hln : Has P w K mg base 9 "_law_network_of" ["_law_web_here"] (spLn K)) (htl : Has P w K mg base 3 "_law_told" ["_law_draws_here", "_law_buys", "_law_wishes_here"] (spTl K))
    (hlh : Has P w K mg base 2 "_law_choose" ["_law_web_here", "_law_house", "_law_offered"] (spLh K)) (hbo : Has P w K mg base 1 "_law_both" ["_law_one", "_law_other"] (spBo K)) (how : Has P w K mg base 1 "_law_own" ["_law_web_here", "_law_house", "_law_contracts"] (spOw K)) {f : Addr} {fd : FuncData} (F0 : FnP K "law" 38 f fd) :
    FnOk P w K mg base CX0 10 f fd ["_law_script"] (spLaw K) := by
  obtain ⟨fD, fdD, GD, gD, kD, bD⟩ := (hdr.up (k := 9) (by decide)).ex
  obtain ⟨fT, fdT, GT, gT, kT, bT⟩ := (htk.up (k := 9) (by decide)).ex
  obtain ⟨fB, fdB, GB, gB, kB, bB⟩ := (hwb.up (k := 9) (by decide)).ex
  obtain ⟨fW, fdW, GW, gW, kW, bW⟩ := (hws.up (k := 9) (by decide)).ex
  obtain ⟨fN, fdN, GN, gN, kN, bN⟩ := hln.ex
  obtain ⟨fL, fdL, GL, gL, kL, bL⟩ := (htl.up (k := 9) (by decide)).ex
  obtain ⟨fC, fdC, GC, gC, kC, bC⟩ := (hlh.up (k := 9) (by decide)).ex
  obtain ⟨fU, fdU, GU, gU, kU, bU⟩ := (hbo.up (k := 9) (by decide)).ex
  obtain ⟨fO, fdO, GO, gO, kO, bO⟩ := (how.up (k := 9) (by decide)).ex
  refine ok_of F0 scLaw (fun vs H Q E h => ?_) fun cdv A0 outer s H vs Q E hr h => ?_
  · obtain ⟨a, ns, rfl, _⟩ := h
    rfl
  obtain ⟨a, ns, rfl, ha, hl, tb, q⟩ := h
  have ru : (A0.deeper (envOfC "law" (defScope (top 38)) s.heap.objs.size f cdv)).units + 64 < cLine := by have := hr.un; omega
  refine ⟨_, pss_cons (ps_set (i := 1) scLaw.nd rfl (Or.inl rfl) (pe_call GD hr rfl gD kD bD .nil pass0 (pa_cons (pv 0) (pa_cons pe_int pa_nil))))
    (pss_cons (ps_set (i := 2) scLaw.nd rfl (Or.inr rfl) (pe_call GB hr rfl gB kB bB .nil pass0 (pa_cons (pv 1) (pa_cons (pe_ix ix_list (pe_lst (pa_cons pe_int (pa_cons pe_int (pa_cons pe_int (pa_cons pe_int pa_nil))))) (pe_call GT hr rfl gT kT bT .nil pass0 (pa_cons (pv 1) (pa_cons pe_int pa_nil))) (fun _ _ => rfl)) (pa_cons pe_int pa_nil)))))
    (pss_cons (ps_set (i := 3) scLaw.nd rfl (Or.inl rfl) (pe_lst pa_nil))
    (pss_cons (ps_for PassesOwn.never rfl (pi_range1 rfl bt.range (pa_cons (pe_callB (r := rLenS K) call_len_seq rfl bt.len (by decide +kernel) (pa_cons (pe_ix ix_tup (pv 2) pe_int (fun _ _ => rfl)) pa_nil)) pa_nil)) (pg_name (i := 4) scLaw.nd rfl (Or.inr rfl))
      (pss_cons (ps_setLc (i := 6) (own := [("_law_c", 5)]) (g := gName 5) rfl scLaw.nd rfl rfl (sw_true rfl rfl rfl (by decide +kernel)) (pi_range1 rfl bt.range (pa_cons (pe_callB (r := rLenS K) call_len_seq rfl bt.len (by decide +kernel) (pa_cons (pe_ix ix_tup (pv 2) pe_int (fun _ _ => rfl)) pa_nil)) pa_nil))
        (blkOk_by (N := NL) (sc := defScope (top 38)) (by decide +kernel))
        (fun _ _ _ _ _ => pg_name (i := 5) scLaw.nd rfl (.inl rfl)) (fun _ _ _ _ _ => pts_one (pt_cmpR op_eq (pe_ix (r := rIxT K) ix_tup (pe_ix (r := rIxT K) ix_tup (pe_ix (r := rIxT K) ix_tup (pv 2) pe_int (fun _ _ => rfl)) (pv 5) (fun _ _ => rfl)) pe_int (fun _ _ => rfl)) (pv 4) (nomark _))) (fun _ _ _ _ _ => pv 5))
      (pss_one (ps_if (PW.pt (pw_and (pt_cmpR (op_eqD ru) (pv 6) (pe_lst pa_nil) (nomark _)) (pw_and1 (pt_cmpR op_gt (pe_callB (r := rLenS K) call_len_seq rfl bt.len (by decide +kernel) (pa_cons (pe_lc (own := [("_law_c", 5)]) (g := gName 5) rfl scLaw.nd (pi_range1 rfl bt.range (pa_cons (pe_callB (r := rLenS K) call_len_seq rfl bt.len (by decide +kernel) (pa_cons (pe_ix ix_tup (pv 2) pe_int (fun _ _ => rfl)) pa_nil)) pa_nil))
          (blkOk_by (N := NL) (sc := defScope (top 38)) (by decide +kernel))
          (fun _ _ _ _ _ => pg_name (i := 5) scLaw.nd rfl (.inl rfl)) (fun _ _ _ _ _ => pts_one (pt_cmpR op_eq (pe_ix (r := rIxT K) ix_tup (pe_ix (r := rIxT K) ix_tup (pe_ix (r := rIxT K) ix_tup (pv 2) pe_int (fun _ _ => rfl)) (pv 5) (fun _ _ => rfl)) pe_int (fun _ _ => rfl)) (pv 4) (nomark _))) (fun _ _ _ _ _ => pv 5)) pa_nil)) pe_int (nomark _)))))
        (pss_one (ps_expr (pe_bm PySem.F.plainAttrs_list PySem.F.slot_list_append PySem.F.type_list_append mt_append (pv 3) (pa_cons (pv 4) pa_nil)))) pss_nil))))
    (pss_cons (ps_if (pt_cmpR op_eq (pe_callB (r := rLenS K) call_len_seq rfl bt.len (by decide +kernel) (pa_cons (pv 3) pa_nil)) pe_int (nomark _)) (pss_one (ps_ret pe_bl)) pss_nil)
    (pss_cons (ps_set (i := 4) scLaw.nd rfl (Or.inr rfl) (pe_ix ix_list (pv 3) (pe_call GT hr rfl gT kT bT .nil pass0 (pa_cons (pv 1) (pa_cons (pe_callB (r := rLenS K) call_len_seq rfl bt.len (by decide +kernel) (pa_cons (pv 3) pa_nil)) pa_nil))) (fun _ _ => rfl)))
    (pss_cons (ps_setLc (i := 7) (own := [("_law_c", 5)]) (g := gName 5) rfl scLaw.nd rfl rfl (sw_true rfl rfl rfl (by decide +kernel)) (pi_range1 rfl bt.range (pa_cons (pe_callB (r := rLenS K) call_len_seq rfl bt.len (by decide +kernel) (pa_cons (pe_ix ix_tup (pv 2) pe_int (fun _ _ => rfl)) pa_nil)) pa_nil))
        (blkOk_by (N := NL) (sc := defScope (top 38)) (by decide +kernel))
        (fun _ _ _ _ _ => pg_name (i := 5) scLaw.nd rfl (.inl rfl)) (fun _ _ _ _ _ => pts_one (pt_cmpR op_eq (pe_ix (r := rIxT K) ix_tup (pe_ix (r := rIxT K) ix_tup (pe_ix (r := rIxT K) ix_tup (pv 2) pe_int (fun _ _ => rfl)) (pv 5) (fun _ _ => rfl)) pe_int (fun _ _ => rfl)) (pv 4) (nomark _))) (fun _ _ _ _ _ => pv 5))
    (pss_cons (ps_set (i := 8) scLaw.nd rfl (Or.inl rfl) (pe_call GW hr rfl gW kW bW .nil pass0 (pa_cons (pv 1) (pa_cons (pv 7) pa_nil))))
    (pss_cons (ps_set (i := 9) scLaw.nd rfl (Or.inl rfl) (pe_ix ix_tup (pe_ix ix_tup (pe_ix ix_tup (pv 2) pe_int (fun _ _ => rfl)) (pv 4) (fun _ _ => rfl)) pe_int (fun _ _ => rfl)))
    (pss_cons (ps_set (i := 2) scLaw.nd rfl (Or.inr rfl) (pe_tup (pa_cons (pe_op op_catA (pe_op op_catA (pe_slice sl_tupA (pe_ix ix_tup (pv 2) pe_int (fun _ _ => rfl)) po_none (po_some (pv 4)))
        (pe_tup (pa_cons (pe_tup (pa_cons (pv 9) (pa_cons (pe_tup (pa_cons pe_str (pa_cons pe_int (pa_cons (pv 8) (pa_cons pe_int (pa_cons (pe_tup pa_nil) pa_nil)))))) pa_nil))) pa_nil)))
        (pe_slice sl_tupA (pe_ix ix_tup (pv 2) pe_int (fun _ _ => rfl)) (po_some (pe_op op_add (pv 4) pe_int)) po_none)) (pa_cons (pe_ix ix_tup (pv 2) pe_int (fun _ _ => rfl)) pa_nil))))
    (pss_cons (ps_set (i := 10) scLaw.nd rfl (Or.inl rfl) (pe_call GN hr rfl gN kN bN .nil pass0 (pa_cons (pv 2) pa_nil)))
    (pss_cons (ps_for PassesOwn.never rfl (pi_range1 rfl bt.range (pa_cons pe_int pa_nil)) (pg_name (i := 11) scLaw.nd rfl (Or.inl rfl))
      (pss_cons (ps_set (i := 12) scLaw.nd rfl (Or.inl rfl) (pe_call GL hr rfl gL kL bL .nil pass0 (pa_cons (pv 1) (pa_cons (pv 7) (pa_cons (pv 8) pa_nil)))))
      (pss_cons (ps_set (i := 13) scLaw.nd rfl (Or.inl rfl) (pe_call GN hr rfl gN kN bN .nil pass0 (pa_cons (pe_tup (pa_cons (pe_op op_catA (pe_op op_catA (pe_slice sl_tupA (pe_ix ix_tup (pv 2) pe_int (fun _ _ => rfl)) po_none (po_some (pv 4)))
        (pe_tup (pa_cons (pe_tup (pa_cons (pv 9) (pa_cons (pv 12) pa_nil))) pa_nil)))
        (pe_slice sl_tupA (pe_ix ix_tup (pv 2) pe_int (fun _ _ => rfl)) (po_some (pe_op op_add (pv 4) pe_int)) po_none)) (pa_cons (pe_ix ix_tup (pv 2) pe_int (fun _ _ => rfl)) pa_nil))) pa_nil)))
      (pss_one (ps_if (pt_cmpR (op_neD ru) (pe_call GC hr rfl gC kC bC .nil pass0 (pa_cons (pv 2) (pa_cons (pv 4) (pa_cons (pe_call GU hr rfl gU kU bU .nil pass0 (pa_cons (pv 10) (pa_cons (pv 13) pa_nil))) pa_nil)))) (pe_call GO hr rfl gO kO bO .nil pass0 (pa_cons (pv 2) (pa_cons (pv 4) (pa_cons (pv 10) pa_nil)))) (nomark _)) pss_never pss_nil)))))
    (pss_one (ps_ret pe_bl))))))))))))), ?_⟩
  refine ⟨_, rfl, a, ns, rfl, ha, hl, fun H1 da s1 dr1 => ?_⟩
  have tb1 := tb.ext s1
  refine ⟨_, rfl, (by show 4 ≤ sizeLine; decide), fun l1 nl1 => ?_⟩
  have s2 := same_new (.lst [.int 2, .int 3, .int 5, .int 6]) nl1
  have kp1 : Kp da H1 (upd H1 l1 (.lst [.int 2, .int 3, .int 5, .int 6])) := Same.kp s2 dr1
  refine ⟨_, rfl, da, 4, rfl, by decide, kp1.drw, fun H2 r2 k2 hr2 => ?_⟩
  have kp2 := kp1.trans k2
  have at4 : ∃ many : Nat, atI [V.int 2, V.int 3, V.int 5, V.int 6] (r2 : Int) = some (nv many) ∧ 2 ≤ many ∧ many ≤ 6 := by
    match r2, hr2 with
    | 0, _ => exact ⟨2, rfl, by decide, by decide⟩
    | 1, _ => exact ⟨3, rfl, by decide, by decide⟩
    | 2, _ => exact ⟨5, rfl, by decide, by decide⟩
    | 3, _ => exact ⟨6, rfl, by decide, by decide⟩
  obtain ⟨many, em, m2, m6⟩ := at4
  refine ⟨l1, _, r2, nv many, rfl, rfl, SqL.of (k2.at_ (dr1.ne nl1) upd_same), em, ?_⟩
  refine ⟨da, many, rfl, m2, m6, kp2.drw, fun H3 v W k3 iw wf gw c9 h6 => ?_⟩
  have kp3 := kp2.trans k3
  have tb3 : Tabs (Tt K) H3 := Tabs.kp tb1 dr1 kp3
  have dr3 := kp3.drw
  obtain ⟨wp, hb, cb, xs, ys, rfl, wa⟩ := webAt_of iw
  obtain ⟨M, F⟩ := has_mkt wf gw
  refine ⟨(by show 0 ≤ sizeLine; decide), fun el nel => ?_⟩
  have s4 := same_new (.lst []) nel
  have elda := dr3.ne nel
  have kp4 := Same.kp s4 dr3
  have wa4 := wa.k (Same.tk s4)
  have tb4 := tb3.ext s4
  have eel : upd H3 el (.lst []) el = some (.lst []) := upd_same
  generalize upd H3 el (.lst []) = H4 at *
  have dr4 := kp4.drw
  have xl : xs.length = W.hs.length := by rw [wa.hs.length, List.length_map]
  refine nm_of ?_
  dsimp only
  refine seq_cut (fun σ' H' => ∃ (y4 y6 : Option V) (ends : List Nat), σ' = [some (.ref a), some (.ref da), some (.ref wp), some (.ref el), y4, none, y6, none, none, none, none, none, none, none] ∧ WebAt H' W wp hb cb xs ys ∧ Drw H' da ∧ Tabs (Tt K) H' ∧ H' el = some (.lst (ends.map nv)) ∧ ends.length ≤ W.hs.length ∧
    ∀ e ∈ ends, e < W.hs.length ∧ Sellsof W e = [] ∧ Buysof W e ≠ []) (fun σ' H' p => ?_) fun last => ?_
  case refine_2 =>
    refine ⟨_, rfl, wp, _, 0, .ref hb, rfl, rfl, SqT.of wa4.w, atI_nat (j := 0) rfl, hb, xs, rfl, .inr (SqT.of wa4.h), _, rfl, by omega, by omega, ?_⟩
    rw [Int.toNat_natCast, xl]
    refine for_rngN (fun i σ H' => ∃ (y4 y6 : Option V) (ends : List Nat), σ = [some (.ref a), some (.ref da), some (.ref wp), some (.ref el), y4, none, y6, none, none, none, none, none, none, none] ∧ WebAt H' W wp hb cb xs ys ∧ Drw H' da ∧ Tabs (Tt K) H' ∧ H' el = some (.lst (ends.map nv)) ∧ ends.length ≤ i ∧
      ∀ e ∈ ends, e < W.hs.length ∧ Sellsof W e = [] ∧ Buysof W e ≠ []) ⟨none, none, [], rfl, wa4, dr4, tb4, eel, Nat.le_refl _, fun e h => (by cases h)⟩ (fun i σ H' hi p => ?_) fun σ H' p => last σ H' p
    obtain ⟨y4, y6, ends, rfl, wa, dr, tb, ee, elen, eall⟩ := p
    refine nm_of ?_
    dsimp only
    refine seq_of (asg_of ?_)
    refine rd_side2 (K := K) (σ := [some (.ref a), some (.ref da), some (.ref wp), some (.ref el), some (nv i), none, y6, none, none, none, none, none, none, none]) (sel := fun c => c.s) (j := 0) (k := i) (fun _ => rfl) rfl (fun _ => rfl) (fun _ => rfl) (fun _ => rfl) (fun _ => rfl) wa (by omega) fun D H5 s5 nD eD => ?_
    have wa5 := wa.k (Same.tk s5)
    have eD' : H5 D = some (.lst ((Sellsof W i).map nv)) := eD
    refine ⟨_, rfl, (by show 0 ≤ sizeLine; decide), fun l0 nl0 => ?_⟩
    have s6 := same_new (.lst []) nl0
    have s56 := s5.trans s6
    have ee6 := s56 _ _ ee
    have no : ∀ {H7 : Hp}, Same H' H7 → ∃ (y4' y6' : Option V) (ends : List Nat), [some (V.ref a), some (.ref da), some (.ref wp), some (.ref el), some (nv i), none, some (.ref D), none, none, none, none, none, none, none] = [some (V.ref a), some (.ref da), some (.ref wp), some (.ref el), y4', none, y6', none, none, none, none, none, none, none] ∧ WebAt H7 W wp hb cb xs ys ∧ Drw H7 da ∧ Tabs (Tt K) H7 ∧ H7 el = some (.lst (ends.map nv)) ∧ ends.length ≤ i + 1 ∧
      ∀ e ∈ ends, e < W.hs.length ∧ Sellsof W e = [] ∧ Buysof W e ≠ [] := fun {H7} s7 => ⟨_, _, ends, rfl, wa.k (Same.tk s7), (Same.kp s7 dr).drw, tb.ext s7, s7 _ _ ee, by omega, eall⟩
    refine ⟨lNum (Sellsof W i), lNum [], dp_l (s6 _ _ eD'), dp_l upd_same, shaped_lNum _, shaped_lNum _, _, rfl, ?_⟩
    rw [eqv_lNum]
    refine ite2 (fun hs => ?_) (fun hs => iteF (A := True) (no s56))
    refine tst_of (op_of (cb_of (cons_of ?_)))
    refine rd_side2 (K := K) (σ := [some (.ref a), some (.ref da), some (.ref wp), some (.ref el), some (nv i), none, some (.ref D), none, none, none, none, none, none, none]) (sel := fun c => c.b) (j := 1) (k := i) (fun _ => rfl) rfl (fun _ => rfl) (fun _ => rfl) (fun _ => rfl) (fun _ => rfl) (wa5.k (Same.tk s6)) (by omega) fun D2 H7 s7 nD2 eD2 => ?_
    have s57 := s56.trans s7
    have eD2' : H7 D2 = some (.lst ((Buysof W i).map nv)) := eD2
    refine ⟨D2, _, rfl, .inl (SqL.of eD2'), _, _, rfl, rfl, _, rfl, ?_⟩
    rw [List.length_map]
    refine ite2 (fun hb2 => ?_) (fun _ => no s57)
    have bp : Buysof W i ≠ [] := fun z => by
      have := of_decide_eq_true hb2
      rw [z] at this
      simp at this
    have ee7 := s57 _ _ ee
    refine ⟨_, rfl, .inl ⟨rfl, _, SqL.of ee7⟩, _, rfl, el, _, _, rfl, rfl, ee7, by rw [List.length_map]; exact szk (by omega), ?_⟩
    have tkU := TK.lst (.lst (ends.map nv ++ [nv i])) ee7
    refine ⟨_, _, ends ++ [i], rfl, (wa.k (Same.tk s57)).k tkU, ?_, Tabs.put (tb.ext s57) ee7 _, by rw [upd_same, List.map_append]; rfl, by rw [List.length_append]; simp only [List.length_singleton]; omega, fun e he => ?_⟩
    · obtain ⟨ds, e⟩ := (Same.kp s57 dr).drw
      exact ⟨ds, by rw [upd_ne (fun z => elda z.symm)]; exact e⟩
    · rcases List.mem_append.mp he with h | h
      · exact eall e h
      · rw [List.mem_singleton.mp h]
        exact ⟨hi, of_decide_eq_true hs, bp⟩
  case refine_1 =>
    obtain ⟨y4, y6, ends, rfl, wa, dr, tb, ee, elen, eall⟩ := p
    refine ⟨_, rfl, el, _, rfl, .inl (SqL.of ee), rfl, _, rfl, ?_⟩
    rw [List.length_map]
    refine ite2 (fun _ => q _) (fun hne => ?_)
    have epos : 0 < ends.length := Nat.pos_of_ne_zero fun z => hne (by rw [z]; rfl)
    refine ⟨_, rfl, _, rfl, _, rfl, el, _, rfl, .inl (SqL.of ee), ?_⟩
    rw [List.length_map]
    refine ⟨da, ends.length, rfl, epos, dr, fun H5 r5 k5 hr5 => ?_⟩
    refine ⟨el, _, r5, nv ends[r5], rfl, rfl, SqL.of (k5.at_ elda ee), at_nats hr5, ?_⟩
    obtain ⟨hh, hsell, hbne⟩ := eall ends[r5] (List.getElem_mem hr5)
    generalize ends[r5] = h at *
    have wa5 := wa.k (k5.tk dr)
    have dr5 := k5.drw
    have tb5 := Tabs.kp tb dr k5
    refine nm_of ?_
    dsimp only
    refine seq_of (asg_of ?_)
    refine rd_side2 (K := K) (σ := [some (.ref a), some (.ref da), some (.ref wp), some (.ref el), some (nv h), none, y6, none, none, none, none, none, none, none]) (sel := fun c => c.b) (j := 1) (k := h) (fun _ => rfl) rfl (fun _ => rfl) (fun _ => rfl) (fun _ => rfl) (fun _ => rfl) wa5 (by omega) fun ba H6 s6 nba eb => ?_
    have eb6 : H6 ba = some (.lst ((Buysof W h).map nv)) := eb
    have bda := dr5.ne nba
    have wa6 := wa5.k (Same.tk s6)
    have dr6 := (Same.kp s6 dr5).drw
    have tb6 := tb5.ext s6
    have nB : (Buysof W h).Nodup := nodup_filter_range _ _
    have lB : (Buysof W h).length ≤ 9 := Nat.le_trans (buys_len h) c9
    refine ⟨_, rfl, _, rfl, da, ba, Buysof W h, rfl, bda, eb6, nB, by omega, dr6, fun H7 wsa ws k7 ew nw sw => ?_⟩
    have wa7 := wa6.k (k7.tk dr6)
    have dr7 := k7.drw
    have tb7 := Tabs.kp tb6 dr6 k7
    have eb7 := k7.at_ bda eb6
    have ehh := List.getElem?_eq_getElem hh
    obtain ⟨hx, hx1, hx2⟩ := wa7.hs.get (i := h) (t := encH W.hs[h]) (by rw [List.getElem?_map, ehh]; rfl)
    obtain ⟨hp, chv, rfl, hp1, hp2⟩ := is_house.mp hx2
    generalize W.hs[h].name = nm at *
    refine ⟨_, rfl, wp, _, 0, .ref hb, rfl, rfl, SqT.of wa7.w, atI_nat (j := 0) rfl, _, rfl, hb, xs, h, .ref hp, rfl, rfl, SqT.of wa7.h, atI_nat (j := h) hx1, hp, _, 0, .str nm, rfl, rfl, SqT.of hp1, atI_nat (j := 0) rfl, ?_⟩
    refine nm_of ?_
    dsimp only
    refine seq_of (asg_of (tup_of (cons_of ?_)))
    refine rd_swap (K := K) (W := W) (h := h) (x := ⟨nm, .plain (.sides 1 ws 0 [])⟩) (σ := [some (.ref a), some (.ref da), some (.ref wp), some (.ref el), some (nv h), none, y6, some (.ref ba), some (.ref wsa), some (.str nm), none, none, none, none]) rfl rfl wa7 hh (by omega) (fun G Q' sG k => ?_) fun H8 p8 zs s8 e8 i8 => ?_
    · refine ⟨_, rfl, _, rfl, (by show 0 ≤ sizeLine; decide), fun e0 ne0 => ⟨(by show 5 ≤ sizeLine; decide), fun t1 nt1 => ⟨(by show 2 ≤ sizeLine; decide), fun t2 nt2 => ?_⟩⟩⟩
      have u1 := same_new (.tup []) ne0
      have u2 := same_new (.tup [.str "sides", nv 1, .ref wsa, nv 0, .ref e0]) nt1
      have u3 := same_new (.tup [.str nm, .ref t1]) nt2
      exact k _ (.ref t2) ((u1.trans u2).trans u3) (is_house.mpr ⟨t2, .ref t1, rfl, upd_same, is_sides.mpr ⟨t1, wsa, e0, rfl, u3 _ _ upd_same, u3 _ _ (u2 _ _ (u1 _ _ (sG _ _ ew))), u3 _ _ (u2 _ _ upd_same)⟩⟩)
    have wa8 := wa7.k (Same.tk s8)
    refine ⟨_, rfl, wp, _, 1, .ref cb, rfl, rfl, SqT.of wa8.w, atI_nat (j := 1) rfl, (by show 2 ≤ sizeLine; decide), fun wp2 nwp2 => ?_⟩
    have s9 := same_new (.tup [.ref p8, .ref cb]) nwp2
    have s89 := s8.trans s9
    have wa9 : WebAt (upd H8 wp2 (.tup [.ref p8, .ref cb])) (W.setH h ⟨nm, .plain (.sides 1 ws 0 [])⟩) wp2 p8 cb zs ys := ⟨upd_same, s9 _ _ e8, i8.k (Same.tk s9), s9 _ _ wa8.c, wa8.cs.k (Same.tk s9)⟩
    have dr9 := (Same.kp s89 dr7).drw
    have tb9 := tb7.ext s89
    have eb9 := s89 _ _ eb7
    have ew9 : NT _ wsa ws := s89 _ _ ew
    generalize upd H8 wp2 (.tup [.ref p8, .ref cb]) = H9 at *
    have lw : ws.length ≤ 9 := Nat.le_trans (nodup_len nw sw) lB
    have buy : ∀ c, c ∈ Buysof W h → c < M.n ∧ M.bu c = h := fun c hc => by
      rw [F.n, F.bu]
      exact mem_buys.mp hc
    have lt : ∀ c, c ∈ Buysof W h → c < W.cs.length := fun c hc => (mem_buys.mp hc).1
    have hp1s : ∀ (price : Nat → Int) (Y : CS), (PCh.sides 1 ws 0 []).chosen price Y = pick ws Y := fun price Y => by
      show (ws.filter Y).take 1 ++ (([] : List Nat).filter Y).take 0 = _
      rw [List.filter_nil, List.take_nil, List.append_nil]
      rfl
    obtain ⟨wf1, F1⟩ := told_fits wf F hh nm hp1s ⟨⟨by omega, fun c hc => lt c (sw c hc)⟩, by simp, fun c hc => (by cases hc)⟩ (fun c hc => buy c (sw c hc))
    have hh1 : h < (W.setH h ⟨nm, .plain (.sides 1 ws 0 [])⟩).hs.length := by
      show h < (W.hs.set h _).length
      rw [List.length_set]
      exact hh
    refine ⟨_, rfl, .ref wp2, W.setH h ⟨nm, .plain (.sides 1 ws 0 [])⟩, M.tells h ws, rfl, wa9.is, wf1, F1, tb9, fun H10 tp O A x10 et cO gO => ?_⟩
    have n9 : W.cs.length ≤ 9 := c9
    have drx : ∀ {G G' : Hp}, Drw G da → Xt (Tt K) G G' → Drw G' da := fun d x => by
      obtain ⟨ds, e⟩ := d
      exact ⟨ds, x.lst e⟩
    refine ⟨4, rfl, by decide, by decide, ?_⟩
    refine for_rngN (n := 4) (fun i σ H' => ∃ (y11 y12 y13 : Option V), σ = [some (.ref a), some (.ref da), some (.ref wp2), some (.ref el), some (nv h), none, y6, some (.ref ba), some (.ref wsa), some (.str nm), some (.ref tp), y11, y12, y13] ∧ WebAt H' (W.setH h ⟨nm, .plain (.sides 1 ws 0 [])⟩) wp2 p8 cb zs ys ∧ Drw H' da ∧ Tabs (Tt K) H' ∧
      H' ba = some (.lst ((Buysof W h).map nv)) ∧ NT H' wsa ws ∧ NT H' tp (O.filter A.contains)) ⟨none, none, none, rfl, wa9.k x10.tk, drx dr9 x10, x10.2, x10.lst eb9, x10.tk _ _ ew9, et⟩ (fun i σ H' hi p => ?_) fun σ H' p => ?_
    · obtain ⟨y11, y12, y13, rfl, wa, dr, tb, eb, ew, et⟩ := p
      refine ⟨_, rfl, _, rfl, _, rfl, da, ba, wsa, Buysof W h, ws, rfl, bda, eb, ew, nB, hbne, by omega, nw, sw, dr, fun H11 cv p L k11 ic nL sL hpL wpL => ?_⟩
      have tk11 := k11.tk dr
      have wa11 := wa.k tk11
      have dr11 := k11.drw
      have tb11 := Tabs.kp tb dr k11
      have eb11 := k11.at_ bda eb
      have ew11 : NT H11 wsa ws := tk11 _ _ ew
      have et11 : NT H11 tp _ := tk11 _ _ et
      refine nm_of ?_
      dsimp only
      refine seq_of (asg_of (call_of (cons_of (tup_of (cons_of ?_)))))
      refine rd_swap (K := K) (W := W.setH h ⟨nm, .plain (.sides 1 ws 0 [])⟩) (h := h) (x := ⟨nm, .plain p⟩) (σ := [some (.ref a), some (.ref da), some (.ref wp2), some (.ref el), some (nv h), none, y6, some (.ref ba), some (.ref wsa), some (.str nm), some (.ref tp), some (nv i), some cv, y13]) rfl rfl wa11 hh1 wf1.m (fun G Q' sG k => ?_) fun H12 p12 us s12 e12 i12 => ?_
      · refine ⟨_, rfl, _, rfl, (by show 2 ≤ sizeLine; decide), fun t2 nt2 => ?_⟩
        have u3 := same_new (.tup [.str nm, cv]) nt2
        exact k _ (.ref t2) u3 (is_house.mpr ⟨t2, cv, rfl, upd_same, Is.k (t := encP p) ic ((Same.tk sG).trans (Same.tk u3))⟩)
      have wa12 := wa11.k (Same.tk s12)
      refine ⟨_, rfl, wp2, _, 1, .ref cb, rfl, rfl, SqT.of wa12.w, atI_nat (j := 1) rfl, (by show 2 ≤ sizeLine; decide), fun wp3 nwp3 => ?_⟩
      have s13 := same_new (.tup [.ref p12, .ref cb]) nwp3
      have ss := s12.trans s13
      have wa13 : WebAt (upd H12 wp3 (.tup [.ref p12, .ref cb])) ((W.setH h ⟨nm, .plain (.sides 1 ws 0 [])⟩).setH h ⟨nm, .plain p⟩) wp3 p12 cb us ys := ⟨upd_same, s13 _ _ e12, i12.k (Same.tk s13), s13 _ _ wa12.c, wa12.cs.k (Same.tk s13)⟩
      have wa13' := wa11.k (Same.tk ss)
      have dr13 := (Same.kp ss dr11).drw
      have tb13 := tb11.ext ss
      have eb13 := ss _ _ eb11
      have ew13 : NT _ wsa ws := ss _ _ ew11
      have et13 : NT _ tp _ := ss _ _ et11
      generalize upd H12 wp3 (.tup [.ref p12, .ref cb]) = H13 at *
      obtain ⟨wf2, F2⟩ := told_fits wf1 F1 hh1 nm hpL (wpL _ lt) (fun c hc => buy c (sL c hc))
      refine ⟨.ref wp3, _, (M.tells h ws).tells h L, rfl, wa13.is, wf2, F2, tb13, fun H14 lp O' A' x14 el14 cO' gO' => ?_⟩
      have wa14 := wa13'.k x14.tk
      have et14 : NT H14 tp _ := x14.tk _ _ et13
      have lO : (O.filter A.contains).length ≤ 9 := Nat.le_trans (List.length_filter_le _ _) (Nat.le_trans cO.len n9)
      have lO' : (O'.filter A'.contains).length ≤ 9 := Nat.le_trans (List.length_filter_le _ _) (Nat.le_trans cO'.len n9)
      have ltO : ∀ c ∈ O.filter A.contains, c < W.cs.length := fun c hc => by
        have h1 := (List.mem_filter.mp hc).1
        rw [cO] at h1
        exact List.mem_range.mp (List.mem_filter.mp h1).1
      have ltO' : ∀ c ∈ O'.filter A'.contains, c < W.cs.length := fun c hc => by
        have h1 := (List.mem_filter.mp hc).1
        rw [cO'] at h1
        exact List.mem_range.mp (List.mem_filter.mp h1).1
      refine ⟨_, rfl, _, rfl, _, rfl, _, rfl, tp, lp, _, _, rfl, et14, el14, by omega, fun H15 bp r s15 eb15 hr rl => ?_⟩
      have wa15 := wa14.k (Same.tk s15)
      have ltr : ∀ c ∈ r, c < W.cs.length := fun c hc => by
        rcases (hr c).mp hc with z | z
        · exact ltO c z
        · exact ltO' c z
      refine ⟨.ref wp2, W.setH h ⟨nm, .plain (.sides 1 ws 0 [])⟩, h, bp, r, .sides 1 ws 0 [], ws, [], rfl, wa15.is, hh1, setH_ch hh _, rfl, by omega, by simp, eb15, ltr, by omega, fun H16 cp s16 ec => ?_⟩
      have wa16 := wa15.k (Same.tk s16)
      have et16 : NT H16 tp _ := s16 _ _ (s15 _ _ et14)
      refine ⟨_, rfl, _, rfl, _, rfl, .ref wp2, W.setH h ⟨nm, .plain (.sides 1 ws 0 [])⟩, h, tp, O.filter A.contains, rfl, wa16.is, et16, ltO, by omega, fun H17 op s17 eo => ?_⟩
      have s157 := (s15.trans s16).trans s17
      have law := law_eq F hh hsell sw sL cO cO' gO (by rw [← tells_tells M h ws L]; exact gO') hr
      refine ⟨dNum _, dNum _, dp_nt (s17 _ _ ec), dp_nt eo, shaped_dNum _, shaped_dNum _, _, rfl, ?_⟩
      have eqb : (!PyData.eqv (dNum (lawC (.sides 1 ws 0 []) (r.filter (ownP (W.setH h ⟨nm, .plain (.sides 1 ws 0 [])⟩) h)))) (dNum ((O.filter A.contains).filter (ownP (W.setH h ⟨nm, .plain (.sides 1 ws 0 [])⟩) h)))) = false := by
        rw [eqv_dNum, decide_eq_true (show lawC (.sides 1 ws 0 []) (r.filter (ownP (W.setH h ⟨nm, .plain (.sides 1 ws 0 [])⟩) h)) = (O.filter A.contains).filter (ownP (W.setH h ⟨nm, .plain (.sides 1 ws 0 [])⟩) h) from law)]
        rfl
      rw [eqb]
      refine iteF (A := True) ?_
      have x13 : Xt (Tt K) H13 H17 := x14.same s157
      exact ⟨_, _, _, rfl, wa13'.k x13.tk, drx dr13 x13, x13.2, x13.lst eb13, x13.tk _ _ ew13, x13.tk _ _ et13⟩
    · exact q _
end
end KW

namespace KW
open PySem PySem.Spec PyProof.Rows L2 K39 LamX
section
variable {K : PySem.W.Frag} {h : Heap} {mg : Str → Option Value}
theorem at_ix (X : K.In h) (G : h.Ns mainGlobals mg) (c : He.SaysD fa fn K) {x : Str} {i : Nat} (a b : Nat) (ha : fn[a]? = some (dd x i)) (hb : KW.fa[b]? = some (.glo x)) : At K mg x i := by
  obtain ⟨fd, F⟩ := c.def_ a (d := dd x i) ha
  exact ⟨_, fd, F, He.glo_ok X G (c.fact b (f := .glo x) hb)⟩
theorem bt_of (X : K.In h) (G : h.Ns mainGlobals mg) (c : He.SaysD fa fn K) : Bt mg where
  tuple := He.free_ok X G (c.fact 34 (f := .free "tuple") rfl)
  enumerate := He.free_ok X G (c.fact 35 (f := .free "enumerate") rfl)
  all := He.free_ok X G (c.fact 36 (f := .free "all") rfl)
  list := He.free_ok X G (c.fact 37 (f := .free "list") rfl)
  sorted := He.free_ok X G (c.fact 38 (f := .free "sorted") rfl)
  zip := He.free_ok X G (c.fact 39 (f := .free "zip") rfl)
  len := He.free_ok X G (c.fact 40 (f := .free "len") rfl)
  min := He.free_ok X G (c.fact 41 (f := .free "min") rfl)
  range := He.free_ok X G (c.fact 42 (f := .free "range") rfl)
  int := He.free_ok X G (c.fact 43 (f := .free "int") rfl)
  set := He.free_ok X G (c.fact 44 (f := .free "set") rfl)
theorem atT_of (X : K.In h) (G : h.Ns mainGlobals mg) (c : He.SaysD fa fn K) : AtT K mg := by
  obtain ⟨fd, F⟩ := c.def_ 5 (d := dd "traded" 7) rfl
  exact ⟨fd, F, He.glo_ok X G (c.fact 5 (f := .glo "traded") rfl)⟩
theorem law_all {P : Program} {w : World} (X : K.In h) (G : h.Ns mainGlobals mg) (c : He.SaysD fa fn K) {base : Heap} (TB : TabB base mg (He.cT K tq).1 (He.cT K tq).2) {f : Addr} {fd : FuncData} (F : FnP K "law" 38 f fd) : FnOk P w K mg base CX0 10 f fd ["_law_script"] (spLaw K) := by
  have bt := bt_of X G c
  have hoff := has_off (P := P) (w := w) (base := base) (at_ix X G c (x := "offered_of") (i := 5) 3 3 rfl rfl)
  have hbuys := has_Buys (P := P) (w := w) (base := base) bt (at_ix X G c (x := "buys_of") (i := 1) 0 0 rfl rfl)
  have hsells := has_Sells (P := P) (w := w) (base := base) bt (at_ix X G c (x := "sells_of") (i := 2) 1 1 rfl rfl)
  have hwish := has_wish (P := P) (w := w) (base := base) (at_ix X G c (x := "wishes_of") (i := 3) 2 2 rfl rfl)
  have hrow := has_row (P := P) (w := w) (base := base) bt (at_ix X G c (x := "chosen_row") (i := 6) 4 4 rfl rfl)
  have hcaps := has_caps bt hoff (at_ix X G c (x := "within_caps") (i := 8) 6 6 rfl rfl)
  have htrd := has_Trd bt TB hoff (atT_of X G c)
  have hcb := has_Cb bt hoff hwish hrow hcaps htrd (at_ix X G c (x := "chosen_by") (i := 9) 7 7 rfl rfl)
  have hch := has_Ch bt hcb (at_ix X G c (x := "choose") (i := 10) 8 8 rfl rfl)
  have hot := has_Ot bt hbuys hsells (at_ix X G c (x := "offered_to") (i := 12) 9 9 rfl rfl)
  have hnx := has_Nx bt hot hch (at_ix X G c (x := "next_stand") (i := 14) 10 10 rfl rfl)
  have hco := has_Co (P := P) (w := w) (base := base) bt (at_ix X G c (x := "common") (i := 15) 11 11 rfl rfl)
  have hnw := has_Nw hco (at_ix X G c (x := "network_of") (i := 16) 12 12 rfl rfl)
  have hse := has_Se hnx (at_ix X G c (x := "settled_from") (i := 17) 13 13 rfl rfl)
  have hal := has_Al (P := P) (w := w) (base := base) bt (at_ix X G c (x := "all_contracts") (i := 18) 14 14 rfl rfl)
  have hbe := has_Be hal hse (at_ix X G c (x := "best_for_buyers") (i := 19) 15 15 rfl rfl)
  have htk := has_Tk (P := P) (w := w) (base := base) bt (at_ix X G c (x := "_law_take") (i := 21) 16 16 rfl rfl)
  have hws := has_Ws bt htk (at_ix X G c (x := "_law_wishes") (i := 22) 17 17 rfl rfl)
  have hwsF := has_WsF bt htk (at_ix X G c (x := "_law_wishes") (i := 22) 17 17 rfl rfl)
  have hdr := has_Dr (P := P) (w := w) (base := base) bt (at_ix X G c (x := "_law_draws") (i := 23) 18 18 rfl rfl)
  have hwd := has_Wd (P := P) (w := w) (base := base) bt (at_ix X G c (x := "_law_word") (i := 24) 19 19 rfl rfl)
  have hlc := has_Lc (P := P) (w := w) (base := base) bt (at_ix X G c (x := "_law_chosen_by") (i := 27) 20 22 rfl rfl)
  have hss := has_Ss (P := P) (w := w) (base := base) (at_ix X G c (x := "_law_sets") (i := 28) 21 23 rfl rfl)
  have htb := has_Tb bt hss hlc (at_ix X G c (x := "_law_table") (i := 29) 22 24 rfl rfl)
  have hgr := has_Gr bt htk (at_ix X G c (x := "_law_groups") (i := 30) 23 25 rfl rfl)
  have hcc := has_Cc bt htk hwsF hgr htb (at_ix X G c (x := "_law_choice") (i := 31) 24 26 rfl rfl)
  have hwb := has_Wb bt htk hcc hwd (at_ix X G c (x := "_law_web") (i := 32) 25 27 rfl rfl)
  have how := has_Ow (P := P) (w := w) (base := base) bt (at_ix X G c (x := "_law_own") (i := 33) 26 28 rfl rfl)
  have hlh := has_Lh hlc how (at_ix X G c (x := "_law_choose") (i := 34) 27 29 rfl rfl)
  have hbo := has_Bo (P := P) (w := w) (base := base) bt (at_ix X G c (x := "_law_both") (i := 35) 28 30 rfl rfl)
  have htl := has_Tl bt htk hws (at_ix X G c (x := "_law_told") (i := 36) 29 31 rfl rfl)
  have hln := has_Ln hbe hnw (at_ix X G c (x := "_law_network_of") (i := 37) 30 32 rfl rfl)
  exact ok_Law bt hdr htk hwb hws hln htl hlh hbo how F
end
end KW
open PySem PySem.W PySem.Calls PyProof.Rows
theorem PySem.Challenge.cw_nochaingains_k39_whole_who_buys_one_need_holds : PySem.Challenge.rw_nochaingains_k39_whole_who_buys_one_need.Holds := by
  w_on; o_law
  refine HandSHeadRun.head_any (r := OpenLaw.row PySem.Challenge.rw_nochaingains_k39_whole_who_buys_one_need) (q := view (OpenLaw.row PySem.Challenge.rw_nochaingains_k39_whole_who_buys_one_need).prog [38]) (H := KW.hk) (ob := KW.ob) (M := 2000) (loose := KW.loose1) (d := HandSHeadRun.topDef (OpenLaw.row PySem.Challenge.rw_nochaingains_k39_whole_who_buys_one_need).prog 38) (kwd := []) KW.ob_eq
    (by kernel_rfl) (fun s => by kernel_rfl) KW.run (by kernel_rfl) (by kernel_rfl) (by kernel_rfl) (by rfl) (by first | assumption | decide +kernel) (by decide +kernel) ⟨rfl, rfl, rfl, rfl, rfl, by decide +kernel⟩ ?hw ?hc
  case hw => w_witness2
  case hc =>
    refine LamX.walk_ofTsE (l := PySem.Challenge.rw_nochaingains_k39_whole_who_buys_one_need) (n := 63) (k := 10) (x := "_law_script") (CX := fun _ => L2.CX0) rfl (by decide) (by kernel_rfl) ⟨rfl, by decide, by decide⟩ ?F (fun _ _ _ _ _ z => z)
    intro w mg fa h Y G hmg0
    obtain ⟨K, KX, c⟩ := Y
    have hmg : mg ("law" : PySem.Str) = some (.ref fa) := by
      have e : (HandSHeadRun.topDef (OpenLaw.row PySem.Challenge.rw_nochaingains_k39_whole_who_buys_one_need).prog 38).name = ("law" : PySem.Str) := by kernel_rfl
      rw [← e]
      exact hmg0
    have cd := c.t.d
    obtain ⟨fd, F⟩ := cd.def_ 31 (d := KW.dd "law" 38) rfl
    have e := hmg.symm.trans (He.glo_ok KX G (cd.fact 33 (f := .glo "law") rfl))
    cases e
    have b := L2.FunD.bindsA (ps := ["_law_script"]) F fun _ _ _ _ _ _ us hl => match us, hl with | [_], _ => rfl
    have one : ∀ {p : Addr × Addr}, p ∈ [He.cT K KW.tq] → p = He.cT K KW.tq := fun hp => List.mem_singleton.mp hp
    have mem : KW.tq ∈ KW.tf := List.mem_singleton.mpr rfl
    refine ⟨K, KX, fd, [He.cT K KW.tq], KW.spLaw K, fun p hp => ?_, fun p hp => ?_, fun p hp => ?_, fun s v => b s [v] rfl, fun H a ns hn _ hT hS => ⟨a, ns, rfl, hS, hn, fun p hp => ?_, fun _ => rfl⟩, fun base _ _ hTB => KW.law_all KX G cd (hTB _ (List.mem_singleton.mpr rfl)) F⟩
    · rw [one hp]
      exact c.empty _ mem
    · rw [one hp]
      exact c.out _ mem
    · rw [one hp]
      exact codeHd_of_K KX (c.hd _ mem)
    · rw [List.mem_singleton.mp hp]
      exact LamX.TabS.nil (hT _ (List.mem_singleton.mpr rfl))

