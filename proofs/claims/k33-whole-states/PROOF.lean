import PyProof.Rows.All
import HandS.ForMost
import HandS.Deep
import HandS.Evl
import HandS.Defaults
import KE.KDictWalk
import HandS.SortKw
import HandS.SortInts
import HandS.DictTup
import HandS.ListItems
import KE.DataMinMax
import KE.KDictPairs
import HandS.DictComp
import Wide.All
import OpenK.AllK
import Wide.FinOn
import HandS.IsInst
import HandS.Codes
import HandS.MakeKwOnly
import HandS.OwnEq
import HandS.NoneIn
import HandS.RaiseMore
import HandS.TupAny
import HandS.HeadHook1
import HandS.HeadHook2
import HandS.Walk
import HandS.WordsDict
import HandS.Conv
import KE.KDictDisplayH
import PyProof.EqAt
import HandS.WideBits
import HandS.Small
import HandS.Head0
import HandS.Head1
import HandS.Head2
import HandS.HeadEnd
import HandS.HeadHook4
import PySem.Challenge.RW_crywalks_k33_whole_states_by_steps
set_option linter.all false
/-! The knots' graph: walks, first rises, and how often a walk of so many steps may rise. -/
namespace K33
/-- a piece as seen from its beginning: the knot at its end, its length, its turn -/
structure Ed where
  o : Nat
  l : Nat
  u : Int
structure Gr (N : Nat) (pc : Nat → List Ed) : Prop where
  lt : ∀ k e, k < N → e ∈ pc k → e.o < N
  pos : ∀ k e, e ∈ pc k → 1 ≤ e.l
  up : ∀ k e, e ∈ pc k → e.u ≤ 1
  dn : ∀ k e, e ∈ pc k → -1 ≤ e.u
inductive Wk (pc : Nat → List Ed) : Nat → List Ed → Nat → Prop where
  | nil (k : Nat) : Wk pc k [] k
  | cons {k : Nat} {e : Ed} {r : List Ed} {l : Nat} : e ∈ pc k → Wk pc e.o r l → Wk pc k (e :: r) l
def wl : List Ed → Nat
  | [] => 0
  | e :: r => e.l + wl r
def wu : List Ed → Int
  | [] => 0
  | e :: r => e.u + wu r
theorem wl_app : ∀ a b : List Ed, wl (a ++ b) = wl a + wl b
  | [], b => by simp [wl]
  | e :: a, b => by
    show e.l + wl (a ++ b) = e.l + wl a + wl b
    rw [wl_app a b]; omega
theorem wu_app : ∀ a b : List Ed, wu (a ++ b) = wu a + wu b
  | [], b => by simp [wu]
  | e :: a, b => by
    show e.u + wu (a ++ b) = e.u + wu a + wu b
    rw [wu_app a b]; omega
theorem Wk.app {pc : Nat → List Ed} : ∀ {a : List Ed} {k x l : Nat} {b : List Ed}, Wk pc k a x → Wk pc x b l → Wk pc k (a ++ b) l
  | [], _, _, _, _, .nil _, h => h
  | _ :: _, _, _, _, _, .cons m t, h => .cons m (Wk.app t h)
theorem Wk.split {pc : Nat → List Ed} : ∀ {a : List Ed} {k l : Nat} {b : List Ed}, Wk pc k (a ++ b) l → ∃ x, Wk pc k a x ∧ Wk pc x b l
  | [], k, _, _, h => ⟨k, .nil k, h⟩
  | _ :: _, _, _, _, .cons m t => let ⟨x, h1, h2⟩ := Wk.split t; ⟨x, .cons m h1, h2⟩
theorem Wk.det {pc : Nat → List Ed} : ∀ {a : List Ed} {k l m : Nat}, Wk pc k a l → Wk pc k a m → l = m
  | [], _, _, _, .nil _, .nil _ => rfl
  | _ :: _, _, _, _, .cons _ t, .cons _ t' => Wk.det t t'
theorem Wk.lt {N : Nat} {pc : Nat → List Ed} (G : Gr N pc) : ∀ {a : List Ed} {k l : Nat}, k < N → Wk pc k a l → l < N
  | [], _, _, h, .nil _ => h
  | _ :: _, _, _, h, .cons m t => Wk.lt G (G.lt _ _ h m) t
/-! ### the search: sums never above 0 ahead of the last piece -/
inductive SW (N : Nat) (pc : Nat → List Ed) (a : Nat) : Nat → Int → Nat → Prop where
  | start : SW N pc a a 0 0
  | step {k : Nat} {s : Int} {L : Nat} {e : Ed} : SW N pc a k s L → s ≤ 0 → e ∈ pc k → -(N : Int) ≤ s + e.u → s + e.u ≤ N → SW N pc a e.o (s + e.u) (L + e.l)
theorem SW.walk {N : Nat} {pc : Nat → List Ed} {a k : Nat} {s : Int} {L : Nat} (h : SW N pc a k s L) : ∃ r, Wk pc a r k ∧ wl r = L ∧ wu r = s := by
  induction h with
  | start => exact ⟨[], .nil _, rfl, rfl⟩
  | step h _ hm _ _ ih =>
    obtain ⟨r, h1, h2, h3⟩ := ih
    refine ⟨r ++ [_], h1.app (.cons hm (.nil _)), ?_, ?_⟩
    · rw [wl_app, h2]; simp [wl]
    · rw [wu_app, h3]; simp [wu]
theorem SW.lt {N : Nat} {pc : Nat → List Ed} (G : Gr N pc) {a k : Nat} {s : Int} {L : Nat} (h0 : a < N) (h : SW N pc a k s L) : k < N := by
  induction h with
  | start => exact h0
  | step h _ hm _ _ ih => exact G.lt _ _ ih hm
theorem SW.le {N : Nat} {pc : Nat → List Ed} (G : Gr N pc) {a k : Nat} {s : Int} {L : Nat} (h : SW N pc a k s L) : s ≤ L := by
  induction h with
  | start => exact Int.le_refl 0
  | step h _ hm _ _ ih =>
    have h1 := G.up _ _ hm
    have h2 := G.pos _ _ hm
    omega
theorem SW.bd {N : Nat} {pc : Nat → List Ed} {a k : Nat} {s : Int} {L : Nat} (h : SW N pc a k s L) : -(N : Int) ≤ s ∧ s ≤ N := by
  cases h with
  | start => omega
  | step h _ hm h1 h2 => exact ⟨h1, h2⟩
/-- a walk behind a search's walk -/
theorem SW.on {N : Nat} {pc : Nat → List Ed} {a : Nat} : ∀ {r : List Ed} {x y : Nat} {s : Int} {L : Nat}, SW N pc a x s L → Wk pc x r y → (∀ r1 r2, r = r1 ++ r2 → r2 ≠ [] → s + wu r1 ≤ 0) →
    (∀ r1 r2, r = r1 ++ r2 → -(N : Int) ≤ s + wu r1 ∧ s + wu r1 ≤ N) → SW N pc a y (s + wu r) (L + wl r)
  | [], x, y, s, L, h, t, _, _ => by
    cases t
    simp only [wu, wl, Int.add_zero, Nat.add_zero]
    exact h
  | e :: r, x, y, s, L, h, .cons hm t, h1, h2 => by
    have b := h2 [e] r rfl
    simp only [wu, Int.add_zero] at b
    have z := h1 [] (e :: r) rfl (by simp)
    simp only [wu, Int.add_zero] at z
    have n := SW.step h z hm b.1 b.2
    have q := SW.on n t (fun r1 r2 er hr => by
      have := h1 (e :: r1) r2 (by rw [er]; rfl) hr
      simp only [wu] at this; omega) fun r1 r2 er => by
      have := h2 (e :: r1) r2 (by rw [er]; rfl)
      simp only [wu] at this; omega
    have e1 : s + wu (e :: r) = s + e.u + wu r := by simp only [wu]; omega
    have e2 : L + wl (e :: r) = L + e.l + wl r := by simp only [wl]; omega
    rw [e1, e2]
    exact q
/-! ### so many rises -/
def Ris (N : Nat) (pc : Nat → List Ed) : Nat → Nat → Nat → Nat → Prop
  | 0, k, l, L => k = l ∧ L = 0
  | m + 1, k, l, L => ∃ j L1 L2, SW N pc k j 1 L1 ∧ Ris N pc m j l L2 ∧ L = L1 + L2
theorem Ris.one {N : Nat} {pc : Nat → List Ed} {k l L : Nat} : Ris N pc 1 k l L ↔ SW N pc k l 1 L := by
  constructor
  · rintro ⟨j, L1, L2, h, ⟨rfl, rfl⟩, rfl⟩
    exact h
  · intro h
    exact ⟨l, L, 0, h, ⟨rfl, rfl⟩, rfl⟩
theorem Ris.add {N : Nat} {pc : Nat → List Ed} : ∀ (a b : Nat) (k l L : Nat), Ris N pc (a + b) k l L ↔ ∃ j L1 L2, Ris N pc a k j L1 ∧ Ris N pc b j l L2 ∧ L = L1 + L2
  | 0, b, k, l, L => by
    rw [Nat.zero_add]
    constructor
    · intro h
      exact ⟨k, 0, L, ⟨rfl, rfl⟩, h, (Nat.zero_add _).symm⟩
    · rintro ⟨j, L1, L2, ⟨rfl, rfl⟩, h, rfl⟩
      rw [Nat.zero_add]
      exact h
  | a + 1, b, k, l, L => by
    rw [show a + 1 + b = (a + b) + 1 by omega]
    constructor
    · rintro ⟨j, L1, L2, h1, h2, rfl⟩
      obtain ⟨j', M1, M2, h3, h4, rfl⟩ := (Ris.add a b j l L2).mp h2
      exact ⟨j', L1 + M1, M2, ⟨j, L1, M1, h1, h3, rfl⟩, h4, by omega⟩
    · rintro ⟨j, L1, L2, ⟨j', M1, M2, h1, h2, rfl⟩, h3, rfl⟩
      exact ⟨j', M1, M2 + L2, h1, (Ris.add a b j' l _).mpr ⟨j, M2, L2, h2, h3, rfl⟩, by omega⟩
theorem Ris.le {N : Nat} {pc : Nat → List Ed} (G : Gr N pc) : ∀ {m k l L : Nat}, Ris N pc m k l L → m ≤ L
  | 0, _, _, _, _ => Nat.zero_le _
  | m + 1, _, _, _, ⟨j, L1, L2, h1, h2, e⟩ => by
    have a := h1.le G
    have b := Ris.le G h2
    omega
theorem Ris.lt {N : Nat} {pc : Nat → List Ed} (G : Gr N pc) : ∀ {m k l L : Nat}, k < N → Ris N pc m k l L → l < N
  | 0, _, _, _, h, ⟨e, _⟩ => e ▸ h
  | m + 1, _, _, _, h, ⟨j, L1, L2, h1, h2, e⟩ => Ris.lt G (h1.lt G h) h2
theorem Ris.walk {N : Nat} {pc : Nat → List Ed} : ∀ {m k l L : Nat}, Ris N pc m k l L → ∃ r, Wk pc k r l ∧ wl r = L ∧ wu r = m
  | 0, k, l, L, ⟨e, h⟩ => by
    subst e
    exact ⟨[], .nil _, by rw [h]; rfl, rfl⟩
  | m + 1, k, l, L, ⟨j, L1, L2, h1, h2, e⟩ => by
    obtain ⟨r1, a1, a2, a3⟩ := h1.walk
    obtain ⟨r2, b1, b2, b3⟩ := Ris.walk h2
    refine ⟨r1 ++ r2, a1.app b1, ?_, ?_⟩
    · rw [wl_app]; omega
    · rw [wu_app]; omega
def Fits (N : Nat) (pc : Nat → List Ed) (k n m : Nat) : Prop := ∃ l L, Ris N pc m k l L ∧ L ≤ n
theorem Fits.zero {N : Nat} {pc : Nat → List Ed} {k n : Nat} : Fits N pc k n 0 := ⟨k, 0, ⟨rfl, rfl⟩, Nat.zero_le _⟩
theorem Fits.down {N : Nat} {pc : Nat → List Ed} {k n m : Nat} (h : Fits N pc k n (m + 1)) : Fits N pc k n m := by
  obtain ⟨l, L, h, hL⟩ := h
  obtain ⟨j, L1, L2, h1, _, e⟩ := (Ris.add m 1 k l L).mp h
  exact ⟨j, L1, h1, by omega⟩
theorem Fits.mono {N : Nat} {pc : Nat → List Ed} {k n m m' : Nat} (h : Fits N pc k n m) (hm : m' ≤ m) : Fits N pc k n m' := by
  induction m with
  | zero => rw [show m' = 0 by omega]; exact h
  | succ m ih =>
    by_cases e : m' = m + 1
    · rw [e]; exact h
    · exact ih h.down (by omega)
theorem Fits.le {N : Nat} {pc : Nat → List Ed} (G : Gr N pc) {k n m : Nat} (h : Fits N pc k n m) : m ≤ n := by
  obtain ⟨l, L, h, hL⟩ := h
  have := h.le G
  omega
/-! ### loops -/
/-- no loop of the walk comes to 0 or less -/
def NoLoop (pc : Nat → List Ed) (k : Nat) (r : List Ed) : Prop := ∀ r1 r2 r3 x, r = r1 ++ (r2 ++ r3) → Wk pc k r1 x → Wk pc x r2 x → r2 ≠ [] → 0 < wu r2
theorem NoLoop.tail {pc : Nat → List Ed} {k : Nat} {e : Ed} {r : List Ed} (hm : e ∈ pc k) (h : NoLoop pc k (e :: r)) : NoLoop pc e.o r := fun r1 r2 r3 x er h1 h2 h3 =>
  h (e :: r1) r2 r3 x (by rw [er]; rfl) (.cons hm h1) h2 h3
theorem NoLoop.left {pc : Nat → List Ed} {k : Nat} {a b : List Ed} (h : NoLoop pc k (a ++ b)) : NoLoop pc k a := fun r1 r2 r3 x er h1 h2 h3 =>
  h r1 r2 (r3 ++ b) x (by rw [er]; simp) h1 h2 h3
theorem deep {N : Nat} {pc : Nat → List Ed} (G : Gr N pc) : ∀ {r : List Ed} {k l : Nat} (d : Nat), Wk pc k r l → NoLoop pc k r → wu r ≤ -(d : Int) →
    ∃ ks : List Nat, ks.length = d + 1 ∧ ks.Nodup ∧ ∀ (i : Nat) (x : Nat), ks[i]? = some x → ∃ q q2, r = q ++ q2 ∧ Wk pc k q x ∧ wu q ≤ -(i : Int)
  | [], k, l, d, h, _, hd => by
    have e : d = 0 := by simp only [wu] at hd; omega
    subst e
    refine ⟨[k], rfl, by simp, fun i x hx => ?_⟩
    cases i with
    | zero =>
      have : k = x := by simpa using hx
      subst this
      exact ⟨[], [], rfl, .nil _, by simp [wu]⟩
    | succ i => simp at hx
  | e :: r, k, l, d, .cons hm t, hN, hd => by
    have hN' := hN.tail hm
    have u1 := G.up _ _ hm
    have u2 := G.dn _ _ hm
    simp only [wu] at hd
    by_cases e1 : e.u = -1
    · cases d with
      | zero =>
        refine ⟨[k], rfl, by simp, fun i x hx => ?_⟩
        cases i with
        | zero =>
          have : k = x := by simpa using hx
          subst this
          exact ⟨[], e :: r, rfl, .nil _, by simp [wu]⟩
        | succ i => simp at hx
      | succ d =>
        obtain ⟨ks, hl, hn, hk⟩ := deep G d t hN' (by omega)
        refine ⟨k :: ks, by simp [hl], ?_, fun i x hx => ?_⟩
        · refine List.nodup_cons.mpr ⟨fun hin => ?_, hn⟩
          obtain ⟨i, hi⟩ := List.getElem?_of_mem hin
          obtain ⟨q, q2, er, hq, hu⟩ := hk i k hi
          have := hN [] (e :: q) q2 k (by rw [er]; rfl) (.nil _) (.cons hm hq) (by simp)
          simp only [wu] at this
          omega
        · cases i with
          | zero =>
            have : k = x := by simpa using hx
            subst this
            exact ⟨[], e :: r, rfl, .nil _, by simp [wu]⟩
          | succ i =>
            obtain ⟨q, q2, er, hq, hu⟩ := hk i x (by simpa using hx)
            refine ⟨e :: q, q2, by rw [er]; rfl, .cons hm hq, ?_⟩
            simp only [wu]; omega
    · by_cases e0 : e.u = 0
      · obtain ⟨ks, hl, hn, hk⟩ := deep G d t hN' (by omega)
        refine ⟨ks, hl, hn, fun i x hx => ?_⟩
        obtain ⟨q, q2, er, hq, hu⟩ := hk i x hx
        refine ⟨e :: q, q2, by rw [er]; rfl, .cons hm hq, ?_⟩
        simp only [wu]; omega
      · obtain ⟨ks, hl, hn, hk⟩ := deep G (d + 1) t hN' (by omega)
        cases ks with
        | nil => simp at hl
        | cons y ks =>
          refine ⟨ks, by simpa using hl, (List.nodup_cons.mp hn).2, fun i x hx => ?_⟩
          obtain ⟨q, q2, er, hq, hu⟩ := hk (i + 1) x (by simpa using hx)
          refine ⟨e :: q, q2, by rw [er]; rfl, .cons hm hq, ?_⟩
          simp only [wu]; omega
theorem pigeon : ∀ (N : Nat) (ks : List Nat), ks.Nodup → (∀ x ∈ ks, x < N) → ks.length ≤ N
  | 0, ks, _, h => by
    cases ks with
    | nil => exact Nat.le_refl _
    | cons x r => exact absurd (h x List.mem_cons_self) (Nat.not_lt_zero _)
  | N + 1, ks, hn, h => by
    have h1 := pigeon N (ks.erase N) (hn.erase _) fun x hx => by
      have h2 := h x (List.mem_of_mem_erase hx)
      have h3 : x ≠ N := fun e => by
        subst e
        exact (List.Nodup.not_mem_erase hn) hx
      omega
    have h4 := List.length_erase_le (a := N) (l := ks)
    by_cases hm : N ∈ ks
    · have := List.length_erase_of_mem hm
      omega
    · rw [List.erase_of_not_mem hm] at h1
      omega
theorem shallow {N : Nat} {pc : Nat → List Ed} (G : Gr N pc) {r : List Ed} {k l : Nat} (hk : k < N) (h : Wk pc k r l) (hN : NoLoop pc k r) : -(N : Int) < wu r := by
  by_cases c : -(N : Int) < wu r
  · exact c
  · obtain ⟨ks, hl, hn, hx⟩ := deep G N h hN (by omega)
    have := pigeon N ks hn fun x hin => by
      obtain ⟨i, hi⟩ := List.getElem?_of_mem hin
      obtain ⟨q, _, _, hq, _⟩ := hx i x hi
      exact hq.lt G hk
    omega
/-- the first place where the sum has come to d -/
theorem first {N : Nat} {pc : Nat → List Ed} (G : Gr N pc) : ∀ {r : List Ed} {k l : Nat} (d : Int), Wk pc k r l → 1 ≤ d → d ≤ wu r → ∃ a b, r = a ++ b ∧ wu a = d ∧ a ≠ [] ∧ ∀ a1 a2, a = a1 ++ a2 → a2 ≠ [] → wu a1 < d
  | [], _, _, d, _, h1, h2 => by simp only [wu] at h2; omega
  | e :: r, k, l, d, .cons hm t, h1, h2 => by
    have u1 := G.up _ _ hm
    simp only [wu] at h2
    by_cases c : e.u = d
    · refine ⟨[e], r, rfl, by simp only [wu]; omega, by simp, fun a1 a2 ea ha => ?_⟩
      cases a1 with
      | nil => simp only [wu]; omega
      | cons x a1 =>
        have : a2 = [] := by
          have e1 : ([] : List Ed) = a1 ++ a2 := by
            injection ea
          exact (List.append_eq_nil_iff.mp e1.symm).2
        exact absurd this ha
    · obtain ⟨a, b, er, ha, _, hp⟩ := first G (d - e.u) t (by omega) (by omega)
      refine ⟨e :: a, b, by rw [er]; rfl, by simp only [wu]; omega, by simp, fun a1 a2 ea hne => ?_⟩
      cases a1 with
      | nil => simp only [wu]; omega
      | cons x a1 =>
        have e1 : e :: a = x :: (a1 ++ a2) := ea
        injection e1 with e2 e3
        subst e2
        have := hp a1 a2 e3 hne
        simp only [wu]; omega
/-- every walk that comes to m is matched by so many rises -/
theorem complete {N : Nat} {pc : Nat → List Ed} (G : Gr N pc) : ∀ (n : Nat) (r : List Ed) (k l m : Nat), r.length ≤ n → k < N → Wk pc k r l → (m : Int) ≤ wu r → Fits N pc k (wl r) m := by
  intro n
  induction n with
  | zero =>
    intro r k l m hr hk h hm
    have e : r = [] := List.eq_nil_of_length_eq_zero (by omega)
    subst e
    simp only [wu] at hm
    rw [show m = 0 by omega]
    exact Fits.zero
  | succ n ih =>
    intro r k l m hr hk h hm
    cases m with
    | zero => exact Fits.zero
    | succ m =>
      by_cases hN : NoLoop pc k r
      · obtain ⟨a, b, er, ha, hne, hp⟩ := first G 1 h (by omega) (by omega)
        subst er
        obtain ⟨x, h1, h2⟩ := h.split
        have hNa : NoLoop pc k a := hN.left
        have hNpos : (1 : Int) ≤ N := by omega
        have sw : SW N pc k x (0 + wu a) (0 + wl a) := SW.on SW.start h1 (fun r1 r2 er hr2 => by
          have := hp r1 r2 er hr2
          omega) fun r1 r2 er => by
          subst er
          obtain ⟨y, g1, _⟩ := h1.split
          have lo := shallow G hk g1 hNa.left
          by_cases c : r2 = []
          · subst c
            rw [List.append_nil] at ha
            omega
          · have := hp r1 r2 rfl c
            omega
        rw [Int.zero_add, Nat.zero_add, ha] at sw
        have hl : b.length ≤ n := by
          have : a.length ≠ 0 := fun e => hne (List.eq_nil_of_length_eq_zero e)
          rw [List.length_append] at hr
          omega
        rw [wu_app] at hm
        obtain ⟨y, L, hR, hL⟩ := ih b x l m hl (h1.lt G hk) h2 (by omega)
        refine ⟨y, wl a + L, ⟨x, wl a, L, sw, hR, rfl⟩, ?_⟩
        rw [wl_app]; omega
      · -- a loop is cut out
        have : ∃ r1 r2 r3 x, r = r1 ++ (r2 ++ r3) ∧ Wk pc k r1 x ∧ Wk pc x r2 x ∧ r2 ≠ [] ∧ wu r2 ≤ 0 := by
          apply Classical.byContradiction
          intro hc
          apply hN
          intro r1 r2 r3 x er h1 h2 h3
          apply Classical.byContradiction
          intro hw
          exact hc ⟨r1, r2, r3, x, er, h1, h2, h3, by omega⟩
        obtain ⟨r1, r2, r3, x, er, h1, h2, h3, hw⟩ := this
        subst er
        obtain ⟨y, g1, g2⟩ := h.split
        have ey := Wk.det g1 h1
        subst ey
        obtain ⟨z, g3, g4⟩ := g2.split
        have ez := Wk.det g3 h2
        subst ez
        have hlen : (r1 ++ r3).length ≤ n := by
          have : r2.length ≠ 0 := fun e => h3 (List.eq_nil_of_length_eq_zero e)
          simp only [List.length_append] at hr ⊢
          omega
        obtain ⟨y', L, hR, hL⟩ := ih (r1 ++ r3) k l (m + 1) hlen hk (h1.app g4) (by
          simp only [wu_app] at hm ⊢
          omega)
        refine ⟨y', L, hR, ?_⟩
        simp only [wl_app] at hL ⊢
        omega
/-- the greatest sum of a walk of at most n steps -/
structure Most (N : Nat) (pc : Nat → List Ed) (k n m : Nat) : Prop where
  yes : Fits N pc k n m
  no : ¬ Fits N pc k n (m + 1)
theorem Most.eq {N : Nat} {pc : Nat → List Ed} {k n m m' : Nat} (h : Most N pc k n m) (h' : Most N pc k n m') : m = m' := by
  have a : ¬ m < m' := fun l => h.no (h'.yes.mono l)
  have b : ¬ m' < m := fun l => h'.no (h.yes.mono l)
  omega
end K33


set_option Elab.async false
set_option linter.all false
set_option maxRecDepth 100000
set_option maxHeartbeats 1000000
/-! Dicts whose keys are texts and pairs (text, whole number), mixed. -/
/-- a spot: a person's name, or a hearer's tie and place -/
inductive K33.Spot where
  | p (x : PySem.Str)
  | h (t : PySem.Str) (i : Int)
  deriving DecidableEq
namespace K33M
open PySem PySem.Spec PyProof.Rows L2 K33
section
variable {prog : Program} {w : World} {A : Around} {E : Value → Shared → Prop} {s : Shared}
abbrev ksp (t : Str) (i : Int) : List Key := [Sum.inr t, Sum.inl i]
def spIs (P : Program) (w : World) (h : Heap) : Spot → Value → Prop
  | .p x, v => ∃ t, v = .str x t
  | .h t i, v => ∃ a, v = .ref a ∧ IsTupleKey (mixKind P w) h (ksp t i) a
def spHash (P : Program) (w : World) : Spot → Int
  | .p x => hashStr w x
  | .h t i => tupleKeyHash (mixKind P w) (ksp t i)
def spDraw : Spot → Nat
  | .p _ => 1
  | .h _ _ => 3
theorem isTup {P : Program} {h : Heap} {ks : List Key} {a : Addr} (x : IsTupleKey (mixKind P w) h ks a) : ∃ items, h.IsTuple a items := by
  obtain ⟨o, items, n, ho, hc, hd, _⟩ := x
  exact ⟨items, o, ho, hc, n, hd⟩
theorem spInj {P : Program} {h : Heap} : ∀ {x y : Spot} {v : Value}, spIs P w h x v → spIs P w h y v → x = y
  | .p _, .p _, _, ⟨_, e⟩, ⟨_, e'⟩ => by
    rw [e] at e'
    injection e' with e1
    rw [e1]
  | .p _, .h _ _, _, ⟨_, e⟩, ⟨_, e', _⟩ => by
    rw [e] at e'
    cases e'
  | .h _ _, .p _, _, ⟨_, e, _⟩, ⟨_, e'⟩ => by
    rw [e] at e'
    cases e'
  | .h t i, .h u j, _, ⟨a, e, z⟩, ⟨b, e', z'⟩ => by
    rw [e] at e'
    injection e' with e1
    subst e1
    have q := z.inj z'
    have q1 : t = u := by
      injection q with q1
      exact Sum.inr.inj q1
    have q2 : i = j := by
      injection q with _ q2
      injection q2 with q3
      exact Sum.inl.inj q3
    rw [q1, q2]
theorem spHash_run {k : Spot} {v : Value} {Q : Int → Shared → Prop} (hu : A.units < cLine) (hk : spIs prog w s.heap k v) (h : Q (spHash prog w k) { s with toks := s.toks + spDraw k }) : wpAny (model prog w) A (pyHash v) Q E s := by
  cases k with
  | p x =>
    obtain ⟨t, rfl⟩ := hk
    exact wpAny_pyHash_str h
  | h t i =>
    obtain ⟨a, rfl, z⟩ := hk
    exact wpAny_pyHash_tuple hu z h
theorem spEq_run {x y : Spot} {u v : Value} {Q : Bool → Shared → Prop} (hu : A.units < cLine) (hx : spIs prog w s.heap x u) (hy : spIs prog w s.heap y v) (h : Q (decide (x = y)) s) : wpAny (model prog w) A (eqBool u v) Q E s := by
  cases x with
  | p x =>
    obtain ⟨t, rfl⟩ := hx
    cases y with
    | p y =>
      obtain ⟨t', rfl⟩ := hy
      refine wpAny_eqBool_str ?_
      have e : decide (Spot.p x = Spot.p y) = decide (x = y) := by
        by_cases q : x = y
        · rw [q]
          simp
        · rw [decide_eq_false q, decide_eq_false fun z => q (Spot.p.inj z)]
      rw [← e]
      exact h
    | h t' i =>
      obtain ⟨b, rfl, z⟩ := hy
      obtain ⟨items, hi⟩ := isTup z
      exact SeqAt.EqAt.str_tuple x t hi hu _ _ _ _ h
  | h t i =>
    obtain ⟨a, rfl, z⟩ := hx
    cases y with
    | p y =>
      obtain ⟨t', rfl⟩ := hy
      obtain ⟨items, hi⟩ := isTup z
      exact SeqAt.EqAt.tuple_str y t' hi hu _ _ _ _ h
    | h t' j =>
      obtain ⟨b, rfl, z'⟩ := hy
      refine wpAny_eqBool_tuple hu z z' ?_
      have e : decide (Spot.h t i = Spot.h t' j) = decide (ksp t i = ksp t' j) := by
        by_cases q : t = t' ∧ i = j
        · rw [q.1, q.2]
          simp
        · rw [decide_eq_false, decide_eq_false]
          · intro w'
            injection w' with w1 w2
            injection w2 with w3
            exact q ⟨Sum.inr.inj w1, Sum.inl.inj w3⟩
          · intro w'
            injection w' with w1 w2
            exact q ⟨w1, w2⟩
      rw [← e]
      exact h
theorem spQuiet {k : Spot} {v : Value} {Q : Bool → Shared → Prop} (hk : spIs prog w s.heap k v) (h : Q true s) : wpAny (model prog w) A (eqIsQuiet 8 v) Q E s := by
  cases k with
  | p x =>
    obtain ⟨t, rfl⟩ := hk
    exact wpAny_pure h
  | h t i =>
    obtain ⟨a, rfl, z⟩ := hk
    exact wpAny_eqIsQuiet_tuple z h
theorem spTell {key : Value} {k : Spot} {stored : List Value} {Q : Bool → Shared → Prop} (hkey : spIs prog w s.heap k key) (hst : ∀ v ∈ stored, ∃ k', spIs prog w s.heap k' v) (h : Q false s) :
    wpAny (model prog w) A (tableMayTell key stored) Q E s := by
  unfold tableMayTell
  split
  · exact wpAny_pure h
  · refine wpAny_bind (spQuiet hkey ?_)
    simp only [Bool.not_true, Bool.false_eq_true, if_false]
    refine wpAny_bind ?_
    refine wpAny_forIn_list _ (fun rest r s' => s' = s ∧ r = (none, ()) ∧ ∀ v ∈ rest, ∃ k', spIs prog w s.heap k' v) _ ?_ ?_ _ _ ⟨rfl, rfl, hst⟩
    · rintro x rest r s' ⟨rfl, rfl, hr⟩
      obtain ⟨k', hb⟩ := hr x List.mem_cons_self
      refine wpAny_bind (spQuiet hb ?_)
      simp only [Bool.not_true, Bool.false_eq_true, if_false]
      exact wpAny_pure ⟨rfl, rfl, fun v hv => hr v (List.mem_cons_of_mem _ hv)⟩
    · rintro r s' ⟨rfl, rfl, _⟩
      exact wpAny_pure h
/-- an entry: key, the value that bears it, what is kept -/
abbrev MX : Type := List (Spot × Value × Value)
def mEnt (P : Program) (w : World) (x : Spot × Value × Value) : DictEntry := ⟨spHash P w x.1, x.2.1, x.2.2⟩
theorem mEnt_at {es : Array DictEntry} {xs : MX} (he : es.toList = xs.map (mEnt prog w)) (j : Nat) : es[j]? = (xs[j]?).map (mEnt prog w) := by
  rw [← Array.getElem?_toList, he, List.getElem?_map]
theorem mEnt_size {es : Array DictEntry} {xs : MX} (he : es.toList = xs.map (mEnt prog w)) : es.size = xs.length := by
  rw [← Array.length_toList, he, List.length_map]
theorem mEnt_uniq {xs : MX} (hn : (xs.map (·.1)).Nodup) {i j : Nat} {k : Spot} {p q : Value × Value} (hi : xs[i]? = some (k, p)) (hj : xs[j]? = some (k, q)) : i = j := by
  have hi' : (xs.map (·.1))[i]? = some k := by rw [List.getElem?_map, hi]; rfl
  have hj' : (xs.map (·.1))[j]? = some k := by rw [List.getElem?_map, hj]; rfl
  exact (List.getElem?_inj (List.getElem?_eq_some_iff.mp hi').1 hn).mp (hi'.trans hj'.symm)
/-- where the key stands, by the lookup's three ways -/
theorem mFind {d : Addr} {o : Obj} {es : Array DictEntry} {ep : Nat} {xs : MX} {k : Spot} {key : Value} {Q : Option Nat → Shared → Prop} (hu : A.units < cLine) (hkey : spIs prog w s.heap k key)
    (ho : s.heap.get? d = some o) (hd : o.data = .dict es ep) (he : es.toList = xs.map (mEnt prog w)) (his : ∀ x ∈ xs, spIs prog w s.heap x.1 x.2.1) (hn : (xs.map (·.1)).Nodup)
    (hnone : (∀ (j : Nat) (p : Value × Value), xs[j]? ≠ some (k, p)) → Q none s) (hsome : ∀ (j : Nat) (p : Value × Value), xs[j]? = some (k, p) → Q (some j) s) :
    wpAny (model prog w) A (dictFind d key (spHash prog w k)) Q E s := by
  have hsz : es.size = xs.length := mEnt_size he
  have hmem : ∀ e ∈ es, ∃ x ∈ xs, e = mEnt prog w x := by
    intro e hin
    have q : e ∈ xs.map (mEnt prog w) := he ▸ Array.mem_toList_iff.mpr hin
    obtain ⟨x, hx, rfl⟩ := List.mem_map.mp q
    exact ⟨x, hx, rfl⟩
  have haskey : ∀ (j : Nat) (p : Value × Value), xs[j]? = some (k, p) → ((es[j]?.map (·.hash)) == some (spHash prog w k)) = true := by
    intro j p hj
    rw [mEnt_at he j, hj]
    simp [mEnt]
  generalize hpl : placesWithHash es.size (fun i => es[i]?.map (·.hash)) (spHash prog w k) = places
  have hpl' : places = (List.range' 0 (es.size - 0)).filter (fun i => (es[i]?.map (·.hash)) == some (spHash prog w k)) := by
    rw [← hpl, placesWithHash, List.range_eq_range', Nat.sub_zero]
  have hst : ∀ v ∈ places.filterMap (fun i => es[i]?.map (·.key)), ∃ k', spIs prog w s.heap k' v := by
    intro v hv
    obtain ⟨i, _, hi⟩ := List.mem_filterMap.mp hv
    cases hei : es[i]? with
    | none => rw [hei] at hi; cases hi
    | some e =>
      rw [hei] at hi
      obtain rfl : e.key = v := by simpa using hi
      obtain ⟨x, hx, rfl⟩ := hmem e (Array.mem_of_getElem? hei)
      exact ⟨x.1, his x hx⟩
  -- the walk over the places whose hash is the key's
  have turn : ∀ (x i : Nat) (rest : List Nat), x :: rest = (List.range' i (es.size - i)).filter (fun i => (es[i]?.map (·.hash)) == some (spHash prog w k)) → i ≤ es.size →
      ∃ (k' : Spot) (kv v : Value), xs[x]? = some (k', kv, v) ∧ es[x]? = some ⟨spHash prog w k', kv, v⟩ ∧ spIs prog w s.heap k' kv ∧ spHash prog w k' = spHash prog w k ∧ x < es.size ∧ i ≤ x ∧
        rest = (List.range' (x + 1) (es.size - (x + 1))).filter (fun i => (es[i]?.map (·.hash)) == some (spHash prog w k)) ∧
        ∀ j p, i ≤ j → j < x → xs[j]? ≠ some (k, p) := by
    intro x i rest hr hi
    obtain ⟨hix, hxn, hpx, hskip, hrest⟩ := filter_range'_cons _ _ _ _ _ hr.symm
    have hlt : x < es.size := by omega
    obtain ⟨⟨k', kv, v⟩, hkv⟩ : ∃ y, xs[x]? = some y := ⟨xs[x]'(by rw [← hsz]; exact hlt), List.getElem?_eq_getElem _⟩
    have hex : es[x]? = some ⟨spHash prog w k', kv, v⟩ := by rw [mEnt_at he x, hkv]; rfl
    have hh : spHash prog w k' = spHash prog w k := by
      rw [hex] at hpx
      simpa using hpx
    refine ⟨k', kv, v, hkv, hex, his _ (List.mem_of_getElem? hkv), hh, hlt, hix, ?_, fun j p h1 h2 hj => ?_⟩
    · rw [hrest]; congr 2; omega
    · have q := hskip j h1 h2
      rw [haskey j p hj] at q
      exact absurd q (by decide)
  have none_of : ∀ i, i ≤ es.size → [] = (List.range' i (es.size - i)).filter (fun i => (es[i]?.map (·.hash)) == some (spHash prog w k)) → (∀ j p, j < i → xs[j]? ≠ some (k, p)) → ∀ (j : Nat) (p : Value × Value), xs[j]? ≠ some (k, p) := by
    intro i hi hr hno j p hj
    rcases Nat.lt_or_ge j i with h | h
    · exact hno j p h hj
    · have hjl : j < es.size := by
        rw [hsz]
        exact (List.getElem?_eq_some_iff.mp hj).1
      have q := List.filter_eq_nil_iff.mp hr.symm j (List.mem_range'_1.mpr ⟨h, by omega⟩)
      rw [haskey j p hj] at q
      exact q rfl
  -- all keys are carried by value
  have plain : wpAny (model prog w) A (dictWalkPlain d key (spHash prog w k) es places) Q E s := by
    unfold dictWalkPlain
    refine wpAny_bind ?_
    refine wpAny_forIn_list _
      (fun rest b s' => s' = s ∧ b = (none, ()) ∧ ∃ i, rest = (List.range' i (es.size - i)).filter (fun i => (es[i]?.map (·.hash)) == some (spHash prog w k)) ∧ i ≤ es.size ∧ ∀ j p, j < i → xs[j]? ≠ some (k, p)) _ ?_ ?_ _ _
      ⟨rfl, rfl, 0, hpl', Nat.zero_le _, fun _ _ h => absurd h (Nat.not_lt_zero _)⟩
    · rintro x rest b s' ⟨rfl, rfl, i, hr, hi, hno⟩
      obtain ⟨k', kv, v, hkv, hex, hib, hh, hlt, hix, hrest, hmid⟩ := turn x i rest hr hi
      simp only [hex]
      rw [if_pos (by simp [hh])]
      refine wpAny_bind (wpAny_dictEpoch ho hd (wpAny_bind (spEq_run (x := k') (y := k) hu hib hkey (wpAny_bind (wpAny_dictEpoch ho hd ?_)))))
      show wpAny _ _ (if (ep != ep) = true then _ else _) _ E _
      rw [if_neg (by simp)]
      by_cases hkk : k' = k
      · rw [decide_eq_true hkk]
        subst hkk
        exact wpAny_bind (wpAny_rule (wpAny_pure (wpAny_pure (hsome x _ hkv))))
      · rw [decide_eq_false hkk]
        refine wpAny_bind (wpAny_rule (wpAny_pure ⟨rfl, rfl, x + 1, hrest, hlt, fun j p hj hx => ?_⟩))
        by_cases c : j < i
        · exact hno j p c hx
        · by_cases c2 : j < x
          · exact hmid j p (by omega) c2 hx
          · have ej : j = x := by omega
            subst ej
            rw [hkv] at hx
            exact hkk (congrArg Prod.fst (Option.some.inj hx))
    · rintro b s' ⟨rfl, rfl, i, hr, hi, hno⟩
      exact wpAny_pure (hnone (none_of i hi hr hno))
  unfold dictFind
  try with_reducible refine wpAny_holding ?_
  refine wpAny_bind (wpAny_dictEntries ho hd ?_)
  rw [hpl]
  dsimp only
  cases k with
  | p x =>
    obtain ⟨t, rfl⟩ := id hkey
    dsimp only
    by_cases hall : (es.all fun e => isExactStrKey e.key) = true
    · rw [if_pos hall]
      unfold foundByValue
      cases hf : es.findIdx? (fun e => e.key.isStr x) with
      | none =>
        refine wpAny_pure (hnone fun j p hj => ?_)
        have he1 : es[j]? = some ⟨spHash prog w (.p x), p.1, p.2⟩ := by rw [mEnt_at he j, hj]; rfl
        obtain ⟨t', et⟩ : ∃ t, p.1 = .str x t := his _ (List.mem_of_getElem? hj)
        have q := Array.findIdx?_eq_none_iff.mp hf _ (Array.mem_of_getElem? he1)
        rw [show (⟨spHash prog w (.p x), p.1, p.2⟩ : DictEntry).key = Value.str x t' from et] at q
        simp [Value.isStr] at q
      | some i =>
        obtain ⟨hlt, hi, _⟩ := Array.findIdx?_eq_some_iff_getElem.mp hf
        simp only [Array.getElem?_eq_getElem hlt]
        obtain ⟨⟨k', kv, v⟩, hkv⟩ : ∃ y, xs[i]? = some y := ⟨xs[i]'(by rw [← hsz]; exact hlt), List.getElem?_eq_getElem _⟩
        have hex : es[i] = ⟨spHash prog w k', kv, v⟩ := by
          have q := mEnt_at he i
          rw [hkv, Array.getElem?_eq_getElem hlt] at q
          exact Option.some.inj q
        have hib : spIs prog w s.heap k' kv := his _ (List.mem_of_getElem? hkv)
        rw [hex] at hi ⊢
        obtain ⟨u, eu⟩ : ∃ u, kv = .str x u := by
          have hi2 : kv.isStr x = true := hi
          cases kv with
          | str y u =>
            have q : y = x := by simpa [Value.isStr] using hi2
            exact ⟨u, by rw [q]⟩
          | _ => simp [Value.isStr] at hi2
        have ek : k' = .p x := spInj hib (show spIs prog w s.heap (.p x) kv from ⟨u, eu⟩)
        refine wpAny_bind (wpAny_dictEpoch ho hd (wpAny_bind (spEq_run (x := k') (y := .p x) hu hib hkey (wpAny_bind (wpAny_dictEpoch ho hd ?_)))))
        show wpAny _ _ (if (ep != ep) = true then _ else _) _ E _
        rw [if_neg (by simp), decide_eq_true ek]
        exact wpAny_bind (wpAny_rule (wpAny_pure (hsome i (kv, v) (by rw [hkv, ek]))))
    · rw [if_neg hall]
      by_cases hby : ((Value.str x t) :: places.filterMap (fun i => es[i]?.map (·.key))).all carriedByValue = true
      · rw [if_pos hby]
        exact plain
      · rw [if_neg hby]
        by_cases hone : ((places.filterMap (fun i => es[i]?.map (·.key))) == [Value.str x t]) = true <;>
        (first | rw [if_pos hone] | rw [if_neg hone]) <;> (first | refine wpAny_bind (wpAny_pure ?_) | refine wpAny_bind (spTell hkey hst ?_)) <;> (
          rw [if_neg (by simp)]
          refine wpAny_bind ?_
          refine wpAny_forIn_list _
            (fun rest b s' => s' = s ∧ ∃ i hit, b = (none, hit) ∧ rest = (List.range' i (es.size - i)).filter (fun i => (es[i]?.map (·.hash)) == some (spHash prog w (.p x))) ∧ i ≤ es.size ∧
              ((hit = none ∧ ∀ j p, j < i → xs[j]? ≠ some (.p x, p)) ∨ ∃ j p, hit = some j ∧ j < i ∧ xs[j]? = some (.p x, p))) _ ?_ ?_ _ _
            ⟨rfl, 0, none, rfl, hpl', Nat.zero_le _, .inl ⟨rfl, fun _ _ h => absurd h (Nat.not_lt_zero _)⟩⟩
          · rintro x' rest b s' ⟨rfl, i', hit, rfl, hr, hi, hH⟩
            obtain ⟨k', kv, v, hkv, hex, hib, hh, hlt, hix, hrest, hmid⟩ := turn x' i' rest hr hi
            have hHx : (hit = none ∧ ∀ j p, j < x' → xs[j]? ≠ some (.p x, p)) ∨ ∃ j p, hit = some j ∧ j < x' ∧ xs[j]? = some (.p x, p) := by
              rcases hH with ⟨h0, hno⟩ | ⟨j, p, h1, hji, hj⟩
              · refine .inl ⟨h0, fun j p hjx hj => ?_⟩
                rcases Nat.lt_or_ge j i' with h | h
                · exact hno j p h hj
                · exact hmid j p h hjx hj
              · exact .inr ⟨j, p, h1, by omega, hj⟩
            rw [hex]
            dsimp only
            rw [if_pos (by simp [hh])]
            refine wpAny_bind (wpAny_dictEpoch ho hd (wpAny_bind (spEq_run (x := k') (y := .p x) hu hib hkey (wpAny_bind (wpAny_dictEpoch ho hd ?_)))))
            show wpAny _ _ (if (ep != ep) = true then _ else _) _ E _
            rw [if_neg (by simp)]
            by_cases hkk : k' = .p x
            · rw [decide_eq_true hkk]
              subst hkk
              rcases hHx with ⟨rfl, _⟩ | ⟨j, p, _, hjx, hj⟩
              · first | rw [if_pos rfl] | skip
                simp only [Option.isSome_none, Bool.false_eq_true, if_false]
                first | refine wpAny_bind (wpAny_pure ?_) | skip
                refine wpAny_bind (wpAny_rule ?_)
                split
                · exact wpAny_pure (wpAny_pure (hsome x' _ hkv))
                · exact wpAny_pure ⟨rfl, x' + 1, some x', rfl, hrest, hlt, .inr ⟨x', _, rfl, Nat.lt_succ_self x', hkv⟩⟩
              · exact absurd (mEnt_uniq hn hj hkv) (by omega)
            · rw [decide_eq_false hkk]
              simp only [Bool.false_eq_true, if_false]
              have hstay : (hit = none ∧ ∀ j p, j < x' + 1 → xs[j]? ≠ some (.p x, p)) ∨ ∃ j p, hit = some j ∧ j < x' + 1 ∧ xs[j]? = some (.p x, p) := by
                rcases hHx with ⟨h0, hno⟩ | ⟨j, p, h1, hjx, hj⟩
                · refine .inl ⟨h0, fun j p hjx hj => ?_⟩
                  rcases Nat.lt_or_ge j x' with h | h
                  · exact hno j p h hj
                  · have ej : j = x' := by omega
                    subst ej
                    rw [hkv] at hj
                    exact hkk (congrArg Prod.fst (Option.some.inj hj))
                · exact .inr ⟨j, p, h1, by omega, hj⟩
              refine wpAny_bind (wpAny_rule ?_)
              first | rw [if_neg (by simp)] | skip
              first
                | exact wpAny_pure ⟨rfl, x' + 1, hit, rfl, hrest, hlt, hstay⟩
                | exact wpAny_bind (wpAny_pure (wpAny_pure ⟨rfl, x' + 1, hit, rfl, hrest, hlt, hstay⟩))
          · rintro b s' ⟨rfl, i', hit, rfl, hr, hi, hH⟩
            rcases hH with ⟨rfl, hno⟩ | ⟨j, p, rfl, _, hj⟩
            · exact wpAny_pure (hnone (none_of i' hi hr hno))
            · exact wpAny_pure (hsome j p hj))
  | h tt ii =>
    obtain ⟨a, rfl, ha⟩ := id hkey
    dsimp only
    rw [if_neg (show ¬ ((Value.ref a :: places.filterMap (fun i => es[i]?.map (·.key))).all carriedByValue) = true by simp [carriedByValue])]
    have hany : ¬ (es.any fun e => e.key == Value.ref a && e.hash != spHash prog w (.h tt ii)) = true := by
      rw [← Array.any_toList, List.any_eq_true]
      rintro ⟨e, hin, hc⟩
      obtain ⟨x, hx, rfl⟩ := hmem e (Array.mem_toList_iff.mp hin)
      simp only [mEnt, Bool.and_eq_true, beq_iff_eq, bne_iff_ne, ne_eq] at hc
      obtain ⟨hxa, hne⟩ := hc
      have q := his x hx
      rw [hxa] at q
      exact hne (by rw [spInj q hkey])
    rw [if_neg hany]
    by_cases hone : ((places.filterMap (fun i => es[i]?.map (·.key))) == [Value.ref a]) = true <;>
    (first | rw [if_pos hone] | rw [if_neg hone]) <;> (first | refine wpAny_bind (wpAny_pure ?_) | refine wpAny_bind (spTell hkey hst ?_)) <;> (
      rw [if_neg (by simp)]
      refine wpAny_bind ?_
      refine wpAny_forIn_list _
        (fun rest b s' => s' = s ∧ ∃ i hit, b = (none, hit) ∧ rest = (List.range' i (es.size - i)).filter (fun i => (es[i]?.map (·.hash)) == some (spHash prog w (.h tt ii))) ∧ i ≤ es.size ∧
          ((hit = none ∧ ∀ j p, j < i → xs[j]? ≠ some (.h tt ii, p)) ∨ ∃ j p, hit = some j ∧ j < i ∧ xs[j]? = some (.h tt ii, p))) _ ?_ ?_ _ _
        ⟨rfl, 0, none, rfl, hpl', Nat.zero_le _, .inl ⟨rfl, fun _ _ h => absurd h (Nat.not_lt_zero _)⟩⟩
      · rintro x' rest b s' ⟨rfl, i', hit, rfl, hr, hi, hH⟩
        obtain ⟨k', kv, v, hkv, hex, hib, hh, hlt, hix, hrest, hmid⟩ := turn x' i' rest hr hi
        have hHx : (hit = none ∧ ∀ j p, j < x' → xs[j]? ≠ some (.h tt ii, p)) ∨ ∃ j p, hit = some j ∧ j < x' ∧ xs[j]? = some (.h tt ii, p) := by
          rcases hH with ⟨h0, hno⟩ | ⟨j, p, h1, hji, hj⟩
          · refine .inl ⟨h0, fun j p hjx hj => ?_⟩
            rcases Nat.lt_or_ge j i' with h | h
            · exact hno j p h hj
            · exact hmid j p h hjx hj
          · exact .inr ⟨j, p, h1, by omega, hj⟩
        rw [hex]
        dsimp only
        rw [if_pos (by simp [hh])]
        refine wpAny_bind (wpAny_dictEpoch ho hd (wpAny_bind (spEq_run (x := k') (y := .h tt ii) hu hib hkey (wpAny_bind (wpAny_dictEpoch ho hd ?_)))))
        show wpAny _ _ (if (ep != ep) = true then _ else _) _ E _
        rw [if_neg (by simp)]
        by_cases hkk : k' = .h tt ii
        · rw [decide_eq_true hkk]
          subst hkk
          rcases hHx with ⟨rfl, _⟩ | ⟨j, p, _, hjx, hj⟩
          · first | rw [if_pos rfl] | skip
            simp only [Option.isSome_none, Bool.false_eq_true, if_false]
            first | refine wpAny_bind (wpAny_pure ?_) | skip
            refine wpAny_bind (wpAny_rule ?_)
            split
            · exact wpAny_pure (wpAny_pure (hsome x' _ hkv))
            · exact wpAny_pure ⟨rfl, x' + 1, some x', rfl, hrest, hlt, .inr ⟨x', _, rfl, Nat.lt_succ_self x', hkv⟩⟩
          · exact absurd (mEnt_uniq hn hj hkv) (by omega)
        · rw [decide_eq_false hkk]
          simp only [Bool.false_eq_true, if_false]
          have hstay : (hit = none ∧ ∀ j p, j < x' + 1 → xs[j]? ≠ some (.h tt ii, p)) ∨ ∃ j p, hit = some j ∧ j < x' + 1 ∧ xs[j]? = some (.h tt ii, p) := by
            rcases hHx with ⟨h0, hno⟩ | ⟨j, p, h1, hjx, hj⟩
            · refine .inl ⟨h0, fun j p hjx hj => ?_⟩
              rcases Nat.lt_or_ge j x' with h | h
              · exact hno j p h hj
              · have ej : j = x' := by omega
                subst ej
                rw [hkv] at hj
                exact hkk (congrArg Prod.fst (Option.some.inj hj))
            · exact .inr ⟨j, p, h1, by omega, hj⟩
          refine wpAny_bind (wpAny_rule ?_)
          first | rw [if_neg (by simp)] | skip
          first
            | exact wpAny_pure ⟨rfl, x' + 1, hit, rfl, hrest, hlt, hstay⟩
            | exact wpAny_bind (wpAny_pure (wpAny_pure ⟨rfl, x' + 1, hit, rfl, hrest, hlt, hstay⟩))
      · rintro b s' ⟨rfl, i', hit, rfl, hr, hi, hH⟩
        rcases hH with ⟨rfl, hno⟩ | ⟨j, p, rfl, _, hj⟩
        · exact wpAny_pure (hnone (none_of i' hi hr hno))
        · exact wpAny_pure (hsome j p hj))
/-- at d stands a dict with these entries, in order -/
def MixOf (P : Program) (w : World) (h : Heap) (d : Addr) (xs : MX) : Prop := ∃ o es ep, h.get? d = some o ∧ o.ExactDict ∧ o.data = .dict es ep ∧ es.toList = xs.map (mEnt P w) ∧ (xs.map (·.1)).Nodup
def putM (xs : MX) (k : Spot) (kv v : Value) : MX := if xs.any (fun x => decide (x.1 = k)) then xs.map (fun x => if x.1 = k then (x.1, x.2.1, v) else x) else xs ++ [(k, kv, v)]
theorem putM_keys (xs : MX) (k : Spot) (v : Value) : (xs.map (fun x => if x.1 = k then (x.1, x.2.1, v) else x)).map (·.1) = xs.map (·.1) := by
  rw [List.map_map]
  refine List.map_congr_left fun x _ => ?_
  show (if x.1 = k then (x.1, x.2.1, v) else x).1 = x.1
  split <;> rfl
theorem MixOf.typeIs {s : Shared} {d : Addr} {xs : MX} (x : MixOf prog w s.heap d xs) : s.TypeIs (.ref d) "dict" := let ⟨o, _, _, ho, hc, _⟩ := x; ⟨o, ho, hc.1⟩
theorem mGet {d : Addr} {xs : MX} {k : Spot} {key : Value} {p : Value × Value} {j : Nat} {Q : Option Value → Shared → Prop} (hu : A.units < cLine) (hkey : spIs prog w s.heap k key) (hm : MixOf prog w s.heap d xs)
    (his : ∀ x ∈ xs, spIs prog w s.heap x.1 x.2.1) (hj : xs[j]? = some (k, p)) (h : Q (some p.2) { s with toks := s.toks + spDraw k }) : wpAny (model prog w) A (dictGet d key) Q E s := by
  obtain ⟨o, es, ep, ho, _, hd, he, hn⟩ := hm
  unfold dictGet
  try with_reducible refine wpAny_holding ?_
  refine wpAny_bind (spHash_run hu hkey (wpAny_bind (mFind (s := { s with toks := s.toks + spDraw k }) hu hkey ho hd he his hn (fun hno => absurd hj (hno j p)) fun i q hi => ?_)))
  have e1 := mEnt_uniq hn hi hj
  subst e1
  rw [hj] at hi
  have e2 : p = q := congrArg Prod.snd (Option.some.inj hi)
  subst e2
  refine wpAny_bind (wpAny_dictEntries (s := { s with toks := s.toks + spDraw k }) ho hd ?_)
  rw [mEnt_at he i, hj]
  exact wpAny_pure h
theorem mGetItem {d : Addr} {xs : MX} {k : Spot} {key : Value} {p : Value × Value} {j : Nat} {Q : Value → Shared → Prop} (hu : A.in1.units < cLine) (hkey : spIs prog w s.heap k key) (hm : MixOf prog w s.heap d xs)
    (his : ∀ x ∈ xs, spIs prog w s.heap x.1 x.2.1) (hj : xs[j]? = some (k, p)) (h : Q p.2 { s with toks := s.toks + spDraw k }) : wpAny (model prog w) A (getItem (.ref d) key) Q E s := by
  unfold getItem
  try with_reducible refine wpAny_holding ?_
  refine wpAny_bind (wpAny_sequenceKey hm.typeIs (by decide) ?_)
  refine wpAny_bind (wpAny_callSpecial?_slot (name := Str.ofString "__getitem__") hm.typeIs slot_dict_getitem
    (wpAny_call_entry slot_dict_getitem hm.typeIs entry_dict_getitem ?_ (args_dict_getitem _ _)))
  show wpAny _ _ (dictGet d key >>= _) _ _ s
  refine wpAny_bind (mGet hu hkey hm his hj ?_)
  exact wpAny_pure ⟨p.2, rfl, wpAny_pure h⟩
theorem putM_new {xs : MX} {k : Spot} (h : ∀ (j : Nat) (p : Value × Value), xs[j]? ≠ some (k, p)) (kv v : Value) : putM xs k kv v = xs ++ [(k, kv, v)] := by
  have e : xs.any (fun x => decide (x.1 = k)) = false := by
    rw [List.any_eq_false]
    intro x hx hk
    obtain ⟨j, hj⟩ := List.getElem?_of_mem hx
    have ek : x.1 = k := of_decide_eq_true hk
    exact h j x.2 (by rw [hj, ← ek])
  unfold putM
  rw [e]
  rfl
theorem putM_old {xs : MX} {k : Spot} {j : Nat} {p : Value × Value} (h : xs[j]? = some (k, p)) (kv v : Value) : putM xs k kv v = xs.map (fun x => if x.1 = k then (x.1, x.2.1, v) else x) := by
  have e : xs.any (fun x => decide (x.1 = k)) = true := List.any_eq_true.mpr ⟨(k, p), List.mem_of_getElem? h, by simp⟩
  unfold putM
  rw [e]
  rfl
theorem modify_put {xs : MX} {k : Spot} {v : Value} (hn : (xs.map (·.1)).Nodup) {j : Nat} {p : Value × Value} (hj : xs[j]? = some (k, p)) :
    (xs.map (mEnt prog w)).modify j (fun e => { e with val := v }) = (xs.map (fun x => if x.1 = k then (x.1, x.2.1, v) else x)).map (mEnt prog w) := by
  refine List.ext_getElem? fun i => ?_
  rw [List.getElem?_modify, List.getElem?_map, List.getElem?_map, List.getElem?_map]
  cases hi : xs[i]? with
  | none => simp
  | some x =>
    by_cases c : j = i
    · subst c
      rw [hj] at hi
      cases hi
      simp [mEnt]
    · have hne : ¬ x.1 = k := fun e => c (mEnt_uniq hn hj (show xs[i]? = some (k, x.2) by rw [hi, ← e]))
      simp [c, hne]
theorem mSet {d : Addr} {xs : MX} {k : Spot} {key v : Value} {Q : Unit → Shared → Prop} (hu : A.units < cLine) (hkey : spIs prog w s.heap k key) (hm : MixOf prog w s.heap d xs) (his : ∀ x ∈ xs, spIs prog w s.heap x.1 x.2.1)
    (hsz : xs.length ≤ sizeLine) (hQ : ∀ h', MixOf prog w h' d (putM xs k key v) → Heap.SameBut d s.heap h' → Q () { s with heap := h', toks := s.toks + spDraw k }) : wpAny (model prog w) A (dictSet d key v) Q E s := by
  obtain ⟨o, es, ep, ho, hc, hd, he, hn⟩ := hm
  unfold dictSet
  try with_reducible refine wpAny_holding ?_
  refine wpAny_bind (spHash_run hu hkey ?_)
  unfold dictSetHashed
  try with_reducible refine wpAny_holding ?_
  refine wpAny_bind (mFind (s := { s with toks := s.toks + spDraw k }) hu hkey ho hd he his hn ?_ ?_)
  · intro hno
    have hnot : k ∉ xs.map (·.1) := fun hin => by
      obtain ⟨x, hx, ex⟩ := List.mem_map.mp hin
      obtain ⟨j, hj⟩ := List.getElem?_of_mem hx
      exact hno j x.2 (by rw [hj, ← ex])
    refine wpAny_bind (wpAny_rule (wpAny_updateDictKeys (hz := by have e := mEnt_size he; omega) (s := { s with toks := s.toks + spDraw k }) ho hd (hQ _ ⟨_, _, ep + 1, Heap.get?_update_self _ ho (Obj.isFreed_of_dict (Obj.data_mapDictKeys hd _)),
      hc.mapDictKeys _, Obj.data_mapDictKeys hd _, ?_, ?_⟩ (Heap.SameBut.update ..))))
    · rw [putM_new hno]
      simp [he, mEnt]
    · rw [putM_new hno, List.map_append, List.nodup_append]
      refine ⟨hn, by simp, ?_⟩
      intro x hx y hy
      simp only [List.map_cons, List.map_nil, List.mem_singleton] at hy
      subst hy
      exact fun e => hnot (e ▸ hx)
  · intro j p hj
    refine wpAny_bind (wpAny_rule (wpAny_bind (wpAny_updateDict (s := { s with toks := s.toks + spDraw k }) ho hd (wpAny_point (hQ _ ⟨_, _, ep, Heap.get?_update_self _ ho (Obj.isFreed_of_dict (Obj.data_mapDict hd _)),
      hc.mapDict _, Obj.data_mapDict hd _, ?_, ?_⟩ (Heap.SameBut.update ..))))))
    · rw [putM_old hj]
      have q := modify_put (prog := prog) (w := w) (v := v) hn hj
      rw [← he] at q
      obtain ⟨l⟩ := es
      simpa using q
    · rw [putM_old hj, putM_keys]
      exact hn
theorem mSetItem {d : Addr} {xs : MX} {k : Spot} {key v : Value} {Q : Unit → Shared → Prop} (hu : A.in1.units < cLine) (hkey : spIs prog w s.heap k key) (hm : MixOf prog w s.heap d xs) (his : ∀ x ∈ xs, spIs prog w s.heap x.1 x.2.1)
    (hsz : xs.length ≤ sizeLine) (hQ : ∀ h', MixOf prog w h' d (putM xs k key v) → Heap.SameBut d s.heap h' → Q () { s with heap := h', toks := s.toks + spDraw k }) : wpAny (model prog w) A (setItem (.ref d) key v) Q E s := by
  unfold setItem
  try with_reducible refine wpAny_holding ?_
  refine wpAny_bind (wpAny_sequenceKey hm.typeIs (by decide) ?_)
  refine wpAny_bind (wpAny_callSpecial?_slot (name := Str.ofString "__setitem__") hm.typeIs slot_dict_setitem
    (wpAny_call_entry slot_dict_setitem hm.typeIs entry_dict_setitem ?_ (args_dict_setitem _ _ _)))
  show wpAny _ _ (Builtin.Dict.notOrdered "__setitem__" ⟨[.ref d, key, v], []⟩ >>= _) _ _ s
  refine wpAny_bind (wpAny_notOrdered_dict hm.typeIs ?_)
  show wpAny _ _ (dictSet d key v >>= _) _ _ s
  exact wpAny_bind (mSet hu hkey hm his hsz fun h' hm' hs' => wpAny_pure ⟨.none, rfl, wpAny_pure (hQ h' hm' hs')⟩)
end
end K33M


set_option Elab.async false
set_option linter.all false
set_option maxRecDepth 100000
set_option maxHeartbeats 1000000
/-! Mixed dicts over the layer: what stands there (MD), read, stored, walked. -/
namespace K33M
open PySem PySem.Spec PyProof.Rows L2 K33
/-- key, its value, what is kept -/
abbrev ME : Type := List (Spot × V × V)
abbrev MRel : ME → MX → Prop := Paired fun (e : Spot × V × V) (x : Spot × Value × Value) => e.1 = x.1 ∧ RelV e.2.1 x.2.1 ∧ RelV e.2.2 x.2.2
def mixH (P : Program) (w : World) (a : Addr) (es : ME) : Heap → Prop := fun h => es.length ≤ sizeLine ∧ (a == sysModules) = false ∧ ∃ xs : MX, MRel es xs ∧ MixOf P w h a xs
/-- the value bears the spot -/
def SpV (H : Hp) (y : V) : Spot → Prop
  | .p x => y = .str x
  | .h t i => ∃ b, y = .ref b ∧ H b = some (.tup [.str t, .int i])
def pairs (es : ME) : List (Spot × V) := es.map fun e => (e.1, e.2.2)
def MD (P : Program) (w : World) (H : Hp) (a : Addr) (kvs : List (Spot × V)) : Prop := ∃ es : ME, H a = some (.ext (mixH P w a es)) ∧ pairs es = kvs ∧ ∀ e ∈ es, SpV H e.2.1 e.1
def MDr (P : Program) (w : World) (H : Hp) (a : Addr) (kvs : List (Spot × V)) : Prop := ∃ es : ME, Rd H a (.ext (mixH P w a es)) ∧ pairs es = kvs ∧ ∀ e ∈ es, SpV H e.2.1 e.1
theorem MD.r {P : Program} {w : World} {H : Hp} {a : Addr} {kvs : List (Spot × V)} (h : MD P w H a kvs) : MDr P w H a kvs := let ⟨es, h1, h2⟩ := h; ⟨es, .inl h1, h2⟩
theorem SpV.mono {H H' : Hp} {y : V} (ht : ∀ b xs, H b = some (.tup xs) → H' b = some (.tup xs)) : ∀ {sp : Spot}, SpV H y sp → SpV H' y sp
  | .p _, h => h
  | .h _ _, ⟨b, e, h⟩ => ⟨b, e, ht b _ h⟩
theorem MD.mono {P : Program} {w : World} {H H' : Hp} {a : Addr} {kvs : List (Spot × V)} (e : Evl.Ex H H') (h : MD P w H a kvs) : MD P w H' a kvs :=
  let ⟨es, h1, h2, h3⟩ := h
  ⟨es, e _ _ h1, h2, fun x hx => (h3 x hx).mono fun b xs q => e b _ q⟩
theorem MDr.mono {P : Program} {w : World} {H H' : Hp} {a : Addr} {kvs : List (Spot × V)} (e : Evl.Ex H H') (h : MDr P w H a kvs) : MDr P w H' a kvs :=
  let ⟨es, h1, h2, h3⟩ := h
  ⟨es, Evl.ex_rd e h1, h2, fun x hx => (h3 x hx).mono fun b xs q => e b _ q⟩
section
variable {X : Cx} {pins : List (Addr × Obj)} {σ : L2.St} {H : Hp} {s : Shared} {a : Addr} {A : Around} {E : Value → Shared → Prop}
theorem sp_is (I : Inv X pins σ H s) {y : V} {u : Value} : ∀ {sp : Spot}, SpV H y sp → RelV y u → spIs X.prog X.w s.heap sp u
  | .p x, e, r => by
    have e : y = .str x := e
    subst e
    obtain ⟨t, rfl⟩ := r
    exact ⟨t, rfl⟩
  | .h t i, ⟨b, e, hb⟩, r => by
    subst e
    exact ⟨b, r, key_of I.hok (ks := ksp t i) hb⟩
theorem m_rd {es : ME} (I : Inv X pins σ H s) (h : Rd H a (.ext (mixH X.prog X.w a es))) : mixH X.prog X.w a es s.heap := (rd_of I.hok h).1
theorem m_get {es : ME} {xs : MX} (r : MRel es xs) : ∀ {i : Nat} {e : Spot × V × V}, es[i]? = some e → ∃ x, xs[i]? = some x ∧ e.1 = x.1 ∧ RelV e.2.1 x.2.1 ∧ RelV e.2.2 x.2.2 := fun h => L2.paired_get r h
theorem m_back {es : ME} {xs : MX} (r : MRel es xs) {i : Nat} {x : Spot × Value × Value} (h : xs[i]? = some x) : ∃ e, es[i]? = some e ∧ e.1 = x.1 ∧ RelV e.2.1 x.2.1 ∧ RelV e.2.2 x.2.2 := by
  have l : es.length = xs.length := Paired.length r
  have hi : i < es.length := by
    rw [l]
    exact (List.getElem?_eq_some_iff.mp h).1
  obtain ⟨x', h', q⟩ := m_get r (List.getElem?_eq_getElem hi)
  rw [h] at h'
  cases h'
  exact ⟨_, List.getElem?_eq_getElem hi, q⟩
theorem m_his (I : Inv X pins σ H s) {es : ME} {xs : MX} (r : MRel es xs) (hk : ∀ e ∈ es, SpV H e.2.1 e.1) : ∀ x ∈ xs, spIs X.prog X.w s.heap x.1 x.2.1 := fun x hx => by
  obtain ⟨i, hi⟩ := List.getElem?_of_mem hx
  obtain ⟨e, he, e1, e2, _⟩ := m_back r hi
  rw [← e1]
  exact sp_is I (hk e (List.mem_of_getElem? he)) e2
theorem valV_mem {κ : Type} [DecidableEq κ] {kvs : List (κ × V)} {k : κ} {v : V} (h : valV kvs k = some v) : ∃ i : Nat, kvs[i]? = some (k, v) := by
  unfold valV at h
  obtain ⟨p, hp, e⟩ := Option.map_eq_some_iff.mp h
  have h1 := List.mem_of_find?_eq_some hp
  have h3 := @List.find?_some _ (fun kv : κ × V => decide (kv.1 = k)) p kvs hp
  have h2 : p.1 = k := of_decide_eq_true h3
  obtain ⟨i, hi⟩ := List.getElem?_of_mem h1
  exact ⟨i, by rw [hi, ← h2, ← e]⟩
theorem pairs_at {es : ME} {i : Nat} {k : Spot} {v : V} (h : (pairs es)[i]? = some (k, v)) : ∃ y, es[i]? = some (k, y, v) := by
  unfold pairs at h
  rw [List.getElem?_map] at h
  obtain ⟨e, he, q⟩ := Option.map_eq_some_iff.mp h
  have q1 : e.1 = k := congrArg Prod.fst q
  have q2 : e.2.2 = v := congrArg Prod.snd q
  exact ⟨e.2.1, by rw [he, ← q1, ← q2]⟩
/-- d[y] -/
theorem md_getItem {kvs : List (Spot × V)} {k : Spot} {y v : V} {u : Value} {Q : Value → Shared → Prop} (hu : A.units + 1 < cLine) (I : Inv X pins σ H s) (g : MDr X.prog X.w H a kvs) (hy : SpV H y k) (hv : valV kvs k = some v) (ry : RelV y u)
    (h : ∀ w' s', Inv X pins σ H s' → RelV v w' → Q w' s') : wpAny (model X.prog X.w) A (getItem (.ref a) u) Q E s := by
  obtain ⟨es, he, ep, hk⟩ := g
  obtain ⟨_, _, xs, r, hm⟩ := m_rd I he
  subst ep
  obtain ⟨i, hi⟩ := valV_mem hv
  obtain ⟨z, hz⟩ := pairs_at hi
  obtain ⟨x, hx, e1, e2, e3⟩ := m_get r hz
  refine mGetItem (k := k) (p := x.2) (j := i) hu (sp_is I hy ry) hm (m_his I r hk) ?_ (h _ _ (I.tok _) e3)
  rw [hx]
  have e1' : k = x.1 := e1
  rw [e1']
def putE (es : ME) (k : Spot) (y v : V) : ME := if es.any (fun e => decide (e.1 = k)) then es.map (fun e => if e.1 = k then (e.1, e.2.1, v) else e) else es ++ [(k, y, v)]
theorem any_pairs (es : ME) (k : Spot) : ((pairs es).any fun kv => decide (kv.1 = k)) = es.any fun e => decide (e.1 = k) := by
  unfold pairs
  rw [List.any_map]
  rfl
theorem putE_pairs (es : ME) (k : Spot) (y v : V) : pairs (putE es k y v) = putK (pairs es) k v := by
  unfold putE putK
  rw [any_pairs]
  split
  · unfold pairs
    rw [List.map_map, List.map_map]
    refine List.map_congr_left fun e _ => ?_
    by_cases c : e.1 = k
    · simp [c]
    · simp [c]
  · unfold pairs
    rw [List.map_append]
    rfl
theorem m_any {es : ME} {xs : MX} (r : MRel es xs) (k : Spot) : (es.any fun e => decide (e.1 = k)) = xs.any fun x => decide (x.1 = k) := by
  induction r with
  | nil => rfl
  | cons p _ ih =>
    rw [List.any_cons, List.any_cons, ih, p.1]
theorem paired_map {α β : Type} {R : α → β → Prop} {f : α → α} {g : β → β} (h : ∀ a b, R a b → R (f a) (g b)) : ∀ {l : List α} {m : List β}, Paired R l m → Paired R (l.map f) (m.map g)
  | _, _, .nil => .nil
  | _, _, .cons p t => .cons (h _ _ p) (paired_map h t)
theorem paired_app {α β : Type} {R : α → β → Prop} : ∀ {l l' : List α} {m m' : List β}, Paired R l m → Paired R l' m' → Paired R (l ++ l') (m ++ m')
  | _, _, _, _, .nil, h => h
  | _, _, _, _, .cons p t, h => .cons p (paired_app t h)
theorem m_put {es : ME} {xs : MX} (r : MRel es xs) (k : Spot) {y v : V} {u c : Value} (ry : RelV y u) (rv : RelV v c) : MRel (putE es k y v) (putM xs k u c) := by
  unfold putE putM
  rw [m_any r k]
  split
  · refine paired_map (fun e x h => ?_) r
    obtain ⟨e1, e2, e3⟩ := h
    by_cases c : e.1 = k
    · rw [if_pos c, if_pos (e1 ▸ c)]
      exact ⟨e1, e2, rv⟩
    · rw [if_neg c, if_neg (e1 ▸ c)]
      exact ⟨e1, e2, e3⟩
  · exact paired_app r (.cons ⟨rfl, ry, rv⟩ .nil)
theorem putE_len (es : ME) (k : Spot) (y v : V) : (putE es k y v).length ≤ es.length + 1 := by
  unfold putE
  split
  · rw [List.length_map]
    omega
  · rw [List.length_append]
    simp
theorem putE_keys {es : ME} {k : Spot} {y v : V} {H : Hp} (hk : ∀ e ∈ es, SpV H e.2.1 e.1) (hy : SpV H y k) : ∀ e ∈ putE es k y v, SpV H e.2.1 e.1 := by
  intro e he
  unfold putE at he
  split at he
  · obtain ⟨e0, h0, q⟩ := List.mem_map.mp he
    by_cases c : e0.1 = k
    · rw [if_pos c] at q
      rw [← q]
      exact hk e0 h0
    · rw [if_neg c] at q
      rw [← q]
      exact hk e0 h0
  · rcases List.mem_append.mp he with h | h
    · exact hk e h
    · have q : e = (k, y, v) := by simpa using h
      rw [q]
      exact hy
theorem mix_obj {P : Program} {w : World} {H' : Hp} {h' : Heap} {es : ME} {xs : MX} (hz : es.length ≤ sizeLine) (hd : (a == sysModules) = false) (r : MRel es xs) (hm : MixOf P w h' a xs) : ObjOk P w H' h' a (.ext (mixH P w a es)) := by
  refine ⟨⟨hz, hd, xs, r, hm⟩, let ⟨o, _, _, ho, _⟩ := hm; ⟨o, ho⟩, fun h1 h2 q k => ?_⟩
  obtain ⟨z1, z2, xs', r', o, es', ep', ho, q'⟩ := q
  exact ⟨z1, z2, xs', r', o, es', ep', k o ho, q'⟩
/-- what a store makes of the heap -/
def MPut (P : Program) (w : World) (H : Hp) (a : Addr) (k : Spot) (y v : V) (H' : Hp) : Prop := ∃ es : ME, H a = some (.ext (mixH P w a es)) ∧ (∀ e ∈ es, SpV H e.2.1 e.1) ∧ es.length < sizeLine ∧ SpV H y k ∧ H' = upd H a (.ext (mixH P w a (putE es k y v)))
theorem md_store {h' : Heap} {es : ME} {xs : MX} {k : Spot} {y v : V} {u r : Value} {t' : Nat} (I : Inv X pins σ H s) (e : H a = some (.ext (mixH X.prog X.w a es))) (hl : es.length < sizeLine) (hd : (a == sysModules) = false) (rel : MRel es xs) (ry : RelV y u) (rv : RelV v r)
    (hm : MixOf X.prog X.w h' a (putM xs k u r)) (hs : Heap.SameBut a s.heap h') : Inv X pins σ (upd H a (.ext (mixH X.prog X.w a (putE es k y v)))) { s with heap := h', toks := t' } := by
  have hl2 := putE_len es k y v
  exact d_write I (by rw [e]; exact True.intro) hs (let ⟨o, _, _, ho, _⟩ := hm; ⟨o, ho⟩) (mix_obj (by omega) hd (m_put rel k ry rv) hm)
theorem md_setItem {k : Spot} {y v : V} {u r : Value} {H' : Hp} {Q : Unit → Shared → Prop} (hu : A.units + 1 < cLine) (I : Inv X pins σ H s) (g : MPut X.prog X.w H a k y v H') (ry : RelV y u) (rv : RelV v r) (h : ∀ s', Inv X pins σ H' s' → Q () s') :
    wpAny (model X.prog X.w) A (setItem (.ref a) u r) Q E s := by
  obtain ⟨es, he, hk, hl, hy, rfl⟩ := g
  obtain ⟨_, hd, xs, rel, hm⟩ := m_rd I (.inl he)
  have l : es.length = xs.length := Paired.length rel
  exact mSetItem hu (sp_is I hy ry) hm (m_his I rel hk) (by omega) fun h' hm' hs' => h _ (md_store I he hl hd rel ry rv hm' hs')
theorem md_dictSet {k : Spot} {y v : V} {u r : Value} {H' : Hp} {Q : Unit → Shared → Prop} (hu : A.units < cLine) (I : Inv X pins σ H s) (g : MPut X.prog X.w H a k y v H') (ry : RelV y u) (rv : RelV v r) (h : ∀ s', Inv X pins σ H' s' → Q () s') :
    wpAny (model X.prog X.w) A (dictSet a u r) Q E s := by
  obtain ⟨es, he, hk, hl, hy, rfl⟩ := g
  obtain ⟨_, hd, xs, rel, hm⟩ := m_rd I (.inl he)
  have l : es.length = xs.length := Paired.length rel
  exact mSet hu (sp_is I hy ry) hm (m_his I rel hk) (by omega) fun h' hm' hs' => h _ (md_store I he hl hd rel ry rv hm' hs')
end
/-- behind a store -/
theorem MPut.md {P : Program} {w : World} {H H' : Hp} {a : Addr} {kvs : List (Spot × V)} {k : Spot} {y v : V} (h : MD P w H a kvs) (hl : kvs.length < sizeLine) (hy : SpV H y k) : ∃ H', MPut P w H a k y v H' ∧ MD P w H' a (putK kvs k v) ∧ (∀ b, b ≠ a → H' b = H b) := by
  obtain ⟨es, he, rfl, hk⟩ := h
  have lp : (pairs es).length = es.length := List.length_map _
  refine ⟨_, ⟨es, he, hk, by omega, hy, rfl⟩, ⟨_, upd_same, putE_pairs es k y v, fun e hin => ?_⟩, fun b hb => upd_ne hb⟩
  refine (putE_keys hk hy e hin).mono fun b xs q => ?_
  rw [upd_ne (ne_of q he (fun z => nomatch z))]
  exact q
/-! ### expressions, statements -/
def tMGet (P : Program) (w : World) (td ty : TE) : TE := fun σ H Q => td σ H fun x H1 => ty σ H1 fun y H2 => ∃ a kvs k v, x = .ref a ∧ MDr P w H2 a kvs ∧ SpV H2 y k ∧ valV kvs k = some v ∧ Q v H2
def sMPut (P : Program) (w : World) (td ty tv : TE) : TS := fun D σ H => tv σ H fun v H1 => td σ H1 fun x H2 => ty σ H2 fun y H3 => ∃ a k H4, x = .ref a ∧ MPut P w H3 a k y v H4 ∧ D.nx σ H4
section
variable {X : Cx} {o i e value : Expr} {pos pos' tpos : Pos} {td ty tv : TE}
theorem pe_mget (hu : X.A.units + 1 < cLine) (ho : PE X o td) (hi : PE X i ty) (hs : NoSl i) : PE X (.Subscript o i pos) (tMGet X.prog X.w td ty) := by
  refine ⟨fun pins s σ H Q I h => ?_⟩
  refine subD_of PySem.F.slot_dict_getitem.lookup hs (thn (ho.run pins s σ H _ I h) fun u s1 ⟨x, H1, I1, rx, q1⟩ => thn (hi.run pins s1 σ H1 _ I1 q1) fun iv s2 ⟨y, H2, I2, ry, a, kvs, k, v, ex, g, hy, hv, q2⟩ => ?_)
  subst ex
  obtain rfl : u = Value.ref a := rx
  obtain ⟨es, he, _⟩ := id g
  obtain ⟨_, _, xs, _, hm⟩ := m_rd I2 he
  exact ⟨hm.typeIs, md_getItem hu I2 g hy hv ry fun w' s3 I3 rw' => ⟨v, H2, I3, rw', q2⟩⟩
theorem ps_mput (hu : X.A.units + 1 < cLine) (ho : PE X o td) (hi : PE X i ty) (hv : PE X value tv) (hs : swapsWith value (some (.Subscript o i pos')) pos.line X.env = pure false) :
    PS X (.Assign [.Subscript o i pos'] value pos) (sMPut X.prog X.w td ty tv) := by
  refine ⟨fun pins s σ H D I h => ?_⟩
  refine wpAny_Assign_Subscript (thn (hv.run pins s σ H _ I h) fun r s1 ⟨v, H1, I1, rv, q1⟩ => thn (ho.run pins s1 σ H1 _ I1 q1) fun u s2 ⟨x, H2, I2, rx, q2⟩ => thn (hi.run pins s2 σ H2 _ I2 q2) fun iv s3 ⟨y, H3, I3, ry, a, k, H4, ex, g, q3⟩ => ?_) hs
  subst ex
  obtain rfl : u = Value.ref a := rx
  exact md_setItem hu I3 g ry rv fun s4 I4 => ⟨σ, H4, I4, q3⟩
end
end K33M


set_option Elab.async false
set_option linter.all false
set_option maxRecDepth 100000
set_option maxHeartbeats 1000000
/-! Mixed dicts walked: keys, items. -/
namespace K33M
open PySem PySem.Spec PyProof.Rows L2 K33
section
variable {X : Cx} {pins : List (Addr × Obj)} {σ : L2.St} {H : Hp} {s : Shared} {d : Addr} {o : Obj} {es : ME}
abbrev frzM (X : Cx) (o : Obj) (d : Addr) (es : ME) : HO := .frz o (.ext (mixH X.prog X.w d es))
theorem frzM_at (I : Inv X pins σ H s) (h : H d = some (frzM X o d es)) : (d == sysModules) = false ∧ s.heap.get? d = some o ∧ o.ExactDict ∧ ∃ (ar : Array DictEntry) (ep : Nat) (xs : MX), o.data = .dict ar ep ∧ ar.size = es.length ∧
    s.heap.DictRaw d ar ep ∧ ∀ (i : Nat) e, es[i]? = some e → ∃ (hi : i < ar.size), RelV e.2.1 ar[i].key ∧ RelV e.2.2 ar[i].val := by
  obtain ⟨hd, ⟨_, hs, xs, r, o', ar, ep, ho, hx, hdt, he, _⟩, _⟩ := I.hok d _ h
  rw [hd] at ho
  cases ho
  have l1 : ar.size = xs.length := mEnt_size he
  have l2 : es.length = xs.length := Paired.length r
  refine ⟨hs, hd, hx, ar, ep, xs, hdt, by omega, ⟨_, hd, hx, hdt⟩, fun i e hi => ?_⟩
  obtain ⟨x, hxi, _, e2, e3⟩ := m_get r hi
  have q := mEnt_at he i
  rw [hxi] at q
  have hlt : i < ar.size := by
    have := (List.getElem?_eq_some_iff.mp hi).1
    omega
  rw [Array.getElem?_eq_getElem hlt] at q
  have q' : ar[i] = mEnt X.prog X.w x := Option.some.inj q
  refine ⟨hlt, ?_, ?_⟩
  · rw [q']; exact e2
  · rw [q']; exact e3
end
/-- the keys of the locked dict at d, in their order; the pairs -/
def Itmk (X : Cx) (d : Addr) (o : Obj) (es : ME) : It :=
  ⟨fun i H => H d = some (frzM X o d es) ∧ i < es.length, fun i H x H' => H' = H ∧ ∃ e, es[i]? = some e ∧ x = e.2.1, fun i H => H d = some (frzM X o d es) ∧ es.length ≤ i⟩
def Itmi (X : Cx) (d : Addr) (o : Obj) (es : ME) : It :=
  ⟨fun i H => H d = some (frzM X o d es) ∧ i < es.length, fun i H x H' => ∃ T e, es[i]? = some e ∧ x = .ref T ∧ H T = none ∧ H' = upd H T (.tup [e.2.1, e.2.2]), fun i H => H d = some (frzM X o d es) ∧ es.length ≤ i⟩
section
variable {X0 : Cx} {tg : Expr} {d : Addr} {o : Obj} {es : ME} {ar : Array DictEntry} {ep : Nat}
theorem turn_mkeys (it : Addr) (hod : o.data = .dict ar ep) : Turn X0.prog X0.w X0.K tg (Itmk X0 d o es) [it] it (fun i h => h.IsKeyIter it d i es.length ep) where
  mem := by simp
  obj := fun i h st b hb => by
    have e : b = it := by simpa using hb
    subst e
    obtain ⟨oi, e, c, dd⟩ := st
    exact ⟨oi, e, fun v z => by rw [dd] at z; cases z⟩
  keep := fun i h h' st k => st.at fun oi e => k it (by simp) oi e
  item := by
    intro X hP hw hK hc i pins s σ H E I hf st hg
    obtain ⟨hd, hi⟩ := hg
    have hd' : H d = some (frzM X o d es) := by
      rw [hd]
      unfold frzM
      rw [hP, hw]
    obtain ⟨f0, f1, f2, f3, f4, f5⟩ := hf it (by simp)
    obtain ⟨hs, hgd, hx, ar', ep', xs, hdt, hsz, raw, ent⟩ := frzM_at I hd'
    obtain ⟨rfl, rfl⟩ := dict_ep hod hdt
    obtain ⟨hlt, rk, _⟩ := ent i es[i] (List.getElem?_eq_getElem hi)
    rw [← hsz] at st
    rw [← hP, ← hw]
    refine wpAny_pyNext_keys_item_raw st raw hlt fun h' st' sb => ?_
    have I1 : Inv X pins σ H { s with heap := h' } := I.turned (t' := s.toks) (fun b ob hb e => (sb.2 b hb).trans e) f0 f1 f3 f4 f5
    obtain ⟨oi, e, c, dd⟩ := id st'
    refine ⟨_, rfl, go_of (s := { s with heap := h' }) e c dd (by decide) ⟨es[i].2.1, H, I1, rk, ⟨rfl, _, List.getElem?_eq_getElem hi, rfl⟩, ?_, fun b hb => (hf b hb).1⟩⟩
    rw [← hsz]
    exact st'
  done := by
    intro X hP hw hK hc i pins s σ H E I hf st hg
    obtain ⟨hd, hi⟩ := hg
    have hd' : H d = some (frzM X o d es) := by
      rw [hd]
      unfold frzM
      rw [hP, hw]
    obtain ⟨f0, f1, f2, f3, f4, f5⟩ := hf it (by simp)
    obtain ⟨hs, hgd, hx, ar', ep', xs, hdt, hsz, raw, ent⟩ := frzM_at I hd'
    obtain ⟨rfl, rfl⟩ := dict_ep hod hdt
    rw [← hsz] at st
    rw [← hP, ← hw]
    exact wpAny_pyNext_keys_end_raw (I.ok.hd hc) st raw (by omega) fun h' eb => ⟨rfl, I.turned (t' := s.toks) (fun b ob hb e => eb b ob hb e) f0 f1 f3 f4 f5⟩
  self := fun A i s Q E st h => by
    refine wpAny_pyIter_slot st.typeIs F.slot_dict_keyiterator_iter (wpAny_call_entry F.slot_dict_keyiterator_iter st.typeIs F.entry_dict_keyiterator_iter ?_ (F.args_dict_keyiterator_iter_1 _))
    show wpAny _ _ (ret (.ref it)) _ _ s
    exact wpAny_pure ⟨_, rfl, "dict_keyiterator", _, st.typeIs, F.slot_dict_keyiterator_next.lookup, h⟩
theorem turn_mitems {elts : List Expr} {kk : Nat} {tpos : Pos} (it : Addr) (hod : o.data = .dict ar ep) :
    Turn X0.prog X0.w X0.K (.Tuple elts kk tpos) (Itmi X0 d o es) [it] it (fun i h => ∃ ok ov, IsItemIter h it d i es.length ep ok ov) where
  mem := by simp
  obj := fun i h st b hb => by
    have e : b = it := by simpa using hb
    subst e
    obtain ⟨ok, ov, e⟩ := st
    exact ⟨_, e, fun v z => nomatch z⟩
  keep := fun i h h' st k => let ⟨ok, ov, e⟩ := st; ⟨ok, ov, k it (by simp) _ e⟩
  item := by
    intro X hP hw hK hc i pins s σ H E I hf st hg
    obtain ⟨hd, hi⟩ := hg
    have hd' : H d = some (frzM X o d es) := by
      rw [hd]
      unfold frzM
      rw [hP, hw]
    obtain ⟨hs, hgd, hx, ar', ep', xs, hdt, hsz, raw, ent⟩ := frzM_at I hd'
    obtain ⟨rfl, rfl⟩ := dict_ep hod hdt
    obtain ⟨hlt0, rk, rv⟩ := ent i es[i] (List.getElem?_eq_getElem hi)
    obtain ⟨ok, ov, he⟩ := st
    rw [← hsz] at he
    have hlt : it < s.heap.objs.size := Heap.lt_size he
    rw [← hP, ← hw]
    refine wpAny_pyNext_items_item_raw he raw hlt0 fun h' ho hT hz hk => ?_
    refine ⟨_, rfl, wpAny_letOwnedTupleGo_items (s := { s with heap := h' }) ho fun h'' he' sb => ?_⟩
    have hT2 := (sb.2 _ (Nat.ne_of_gt hlt)).trans hT
    have new : ObjOk X.prog X.w (upd H s.heap.objs.size (.tup [es[i].2.1, es[i].2.2])) h'' s.heap.objs.size (.tup [es[i].2.1, es[i].2.2]) :=
      ⟨by show 2 ≤ sizeLine; decide, [_, _], .cons rk (.cons rv .nil), ⟨_, hT2, rfl, _, rfl⟩⟩
    have I1 : Inv X pins σ (upd H s.heap.objs.size (.tup [es[i].2.1, es[i].2.2])) { s with heap := h'' } :=
      I.turnedNew (t' := s.toks) (ch := [it]) (fun b ob hb e => (sb.2 b (by simpa using hb)).trans (hk b ob (by simpa using hb) e)) hf (Nat.le_refl _) new
    refine ⟨.ref s.heap.objs.size, _, I1, rfl, ⟨_, es[i], List.getElem?_eq_getElem hi, rfl, I.hok.fresh (Nat.le_refl _), rfl⟩, ⟨_, _, hsz ▸ he'⟩, fun b hb => ?_⟩

    · have e : b = it := by simpa using hb
      rw [e, upd_ne (Nat.ne_of_lt hlt)]
      exact (hf it (by simp)).1
  done := by
    intro X hP hw hK hc i pins s σ H E I hf st hg
    obtain ⟨hd, hi⟩ := hg
    have hd' : H d = some (frzM X o d es) := by
      rw [hd]
      unfold frzM
      rw [hP, hw]
    obtain ⟨f0, f1, f2, f3, f4, f5⟩ := hf it (by simp)
    obtain ⟨hs, hgd, hx, ar', ep', xs, hdt, hsz, raw, ent⟩ := frzM_at I hd'
    obtain ⟨rfl, rfl⟩ := dict_ep hod hdt
    obtain ⟨ok, ov, he⟩ := st
    rw [← hsz] at he
    rw [← hP, ← hw]
    exact wpAny_pyNext_items_end_raw (I.ok.hd hc) he raw (by omega) fun h' eb => ⟨rfl, I.turned (t' := s.toks) (fun b ob hb e => eb b ob hb e) f0 f1 f3 f4 f5⟩
  self := fun A i s Q E st h => let ⟨_, _, e⟩ := st; PySem.W.kcp_self e h
end
/-- for k in e: e makes the dict, or it stands there already; nobody writes it any more -/
def iMKeysL (X : Cx) (td : TE) : TI := fun σ H R => td σ H fun x H1 => ∃ d es, x = .ref d ∧ H1 d = some (.ext (mixH X.prog X.w d es)) ∧ ∀ o, R (Itmk X d o es) (upd H1 d (frzM X o d es))
/-- for k, v in e.items(), locked -/
def iMItems (X : Cx) (td : TE) : TI := fun σ H R => td σ H fun x H1 => ∃ d o es, x = .ref d ∧ H1 d = some (frzM X o d es) ∧ R (Itmi X d o es) H1
section
variable {X : Cx} {tg e : Expr} {td : TE} {apos cpos : Pos}
theorem pi_mkeysL (he : PE X e td) : PI X tg e (iMKeysL X td) := by
  refine ⟨fun pins s σ H R I h => ?_⟩
  refine thn (he.run pins s σ H _ I h) fun u s1 ⟨x, H1, I1, rx, d, es, ex, hd, q⟩ => ?_
  subst ex
  obtain rfl : u = Value.ref d := rx
  obtain ⟨od, I2⟩ := I1.lock hd (show Mut (some (.ext (mixH X.prog X.w d es))) from True.intro)
  obtain ⟨hs, hgd, hx, ar, ep, xs, hdt, hsz, raw, ent⟩ := frzM_at (es := es) I2 upd_same
  refine iter_keys hs hgd hx hdt (pi_one (tk := s1.toks) I2 _ (turn_mkeys _ hdt) ⟨_, Heap.get?_push_size _ rfl, rfl, ?_⟩ (q od))
  rw [hsz] <;> rfl
theorem pi_mitems {elts : List Expr} {kk : Nat} {tpos : Pos} (he : PE X e td) (hbase : attributeBase e "items" X.env (eval e X.env) = eval e X.env := by rfl) (hline : (apos.endLine == cpos.line) = true := by rfl) :
    PI X (.Tuple elts kk tpos) (.Call (.Attribute e "items" apos) [] [] cpos) (iMItems X td) := by
  refine ⟨fun pins s σ H R I h => ?_⟩
  refine wpAny_Call_method (T := "dict") (id := "dict.items") hbase rfl hline F.plainAttrs_dict F.slot_dict_items F.type_dict_items (thn (he.run pins s σ H _ I h) fun u s1 ⟨x, H1, I1, rx, d, o, es, ex, hd, q⟩ => ?_)
  subst ex
  obtain rfl : u = Value.ref d := rx
  obtain ⟨hs, hgd, hx, ar, ep, xs, hdt, hsz, raw, ent⟩ := frzM_at I1 hd
  have hT : s1.TypeIs (.ref d) "dict" := ⟨o, hgd, hx.1⟩
  refine ⟨hT, fun b q => ?_, ?_⟩
  · cases q
    exact ⟨o, hgd, hx.2.1⟩
  have I2 : Inv X pins σ H1 { s1 with heap := s1.heap.push { cls := .type "dict_items", data := .fields #[.ref d] } } := I1.kept (t' := s1.toks) fun b ob q => Heap.get?_push_of_some _ q
  have fin : wpAny (model X.prog X.w) X.A (pyIter (.ref s1.heap.objs.size)) (PIE X pins σ (.Tuple elts kk tpos) R) X.xe { s1 with heap := s1.heap.push { cls := .type "dict_items", data := .fields #[.ref d] } } := by
    refine wpAny_pyIter_items_raw (d := d) (es := ar) (ep := ep) ⟨_, Heap.get?_push_size _ rfl, rfl, rfl⟩ (raw.at fun o' q => Heap.get?_push_of_some _ q) (pi_one (tk := s1.toks) I2 _ (turn_mitems _ hdt) ⟨.none, .none, ?_⟩ q)
    rw [← hsz]
    exact Heap.get?_push_size _ rfl
  show wpAny _ _ (callWith cpos (.builtin "dict.items") [.ref d] [] []) _ X.xe s1
  exact method_meetsIn F.slot_dict_items F.entry_dict_items rfl (PySem.evalArgs_none ⟨rfl, hT, F.args_dict_items_1 _, _, meets_dict_items_raw d hs, ⟨_, _, raw⟩, fin⟩)
end
end K33M


set_option Elab.async false
set_option linter.all false
set_option maxRecDepth 100000
set_option maxHeartbeats 1000000
/-! Further rules: a dict's values as a thing, min of them with default, sorted of a dict's items, dict of pairs, tuples that are known to the object. -/
namespace K33M
open PySem PySem.Spec PyProof.Rows L2 K33
/-! ### d.values() as a thing -/
def viewH (T : String) (v d : Addr) : Heap → Prop := fun h => ∃ o, h.get? v = some o ∧ o.cls = .type T ∧ o.data = .fields #[.ref d]
theorem view_obj {P : Program} {w : World} {T : String} {H' : Hp} {h' : Heap} {v d : Addr} (h : viewH T v d h') : ObjOk P w H' h' v (.ext (viewH T v d)) :=
  ⟨h, let ⟨o, ho, _⟩ := h; ⟨o, ho⟩, fun h1 h2 ⟨o, ho, r⟩ k => ⟨o, k o ho, r⟩⟩
def tVals (td : TE) : TE := fun σ H Q => td σ H fun x H1 => ∃ d kvs, x = .ref d ∧ Rd H1 d (.dK kvs) ∧ ∀ v, H1 v = none → Q (.ref v) (upd H1 v (.ext (viewH "dict_values" v d)))
theorem pairs_ent {P : Program} {w : World} : ∀ {es : List DictEntry} {vs : List (Key × Value)}, Pairs (mixKind P w) es vs → es.length = vs.length ∧ ∀ (i : Nat) (k : Key) (v : Value), vs[i]? = some (k, v) → ∃ e, es[i]? = some e ∧ keyIs k e.key = true ∧ e.val = v
  | _, _, .nil => ⟨rfl, fun i k v h => by simp at h⟩
  | _, _, .cons h1 h2 t => by
    obtain ⟨l, q⟩ := pairs_ent t
    refine ⟨by simp [l], fun i k v h => ?_⟩
    cases i with
    | zero =>
      simp only [List.getElem?_cons_zero, Option.some.injEq] at h
      rw [h] at h1 h2
      exact ⟨_, rfl, h1, h2⟩
    | succ i =>
      simp only [List.getElem?_cons_succ] at h ⊢
      exact q i k v h
section
variable {X : Cx} {e : Expr} {td : TE} {apos cpos : Pos}
theorem dk_raw {pins : List (Addr × Obj)} {σ : L2.St} {H : Hp} {s : Shared} {d : Addr} {kvs : List (Key × V)} (I : Inv X pins σ H s) (h : Rd H d (.dK kvs)) : (d == sysModules) = false ∧ kvs.length ≤ sizeLine ∧ ∃ (ar : Array DictEntry) (ep : Nat), s.heap.DictRaw d ar ep ∧ ar.size = kvs.length ∧
    (∀ o, s.heap.get? d = some o → o.dict = none) ∧ ∀ (i : Nat) (k : Key) (v : V), kvs[i]? = some (k, v) → ∃ (hi : i < ar.size), RelV (kV k) ar[i].key ∧ RelV v ar[i].val := by
  obtain ⟨z, hs, vs, kv, o, ar, ep, ho, hx, hdt, _, hp, _⟩ := rd_of I.hok h
  obtain ⟨l0, pe⟩ := pairs_ent hp
  rw [Array.length_toList] at l0
  have l2 : kvs.length = vs.length := Paired.length kv
  refine ⟨hs, z, ar, ep, ⟨o, ho, hx, hdt⟩, by omega, fun o' e => by rw [ho] at e; cases e; exact hx.2.1, fun i k v hi => ?_⟩
  obtain ⟨u, hu, ru⟩ := kv_get kv hi
  obtain ⟨e, he, k1, k2⟩ := pe i k u hu
  have hlt : i < ar.size := by
    have := (List.getElem?_eq_some_iff.mp hi).1
    omega
  rw [Array.getElem?_toList, Array.getElem?_eq_getElem hlt] at he
  have e' : ar[i] = e := Option.some.inj he
  refine ⟨hlt, ?_, ?_⟩
  · rw [e']
    exact relV_key k1
  · rw [e', k2]
    exact ru
theorem pe_vals (he : PE X e td) (hbase : attributeBase e "values" X.env (eval e X.env) = eval e X.env := by rfl) (hline : (apos.endLine == cpos.line) = true := by rfl) : PE X (.Call (.Attribute e "values" apos) [] [] cpos) (tVals td) := by
  refine ⟨fun pins s σ H Q I h => ?_⟩
  refine wpAny_Call_method (T := "dict") (id := "dict.values") hbase rfl hline F.plainAttrs_dict F.slot_dict_values F.type_dict_values (thn (he.run pins s σ H _ I h) fun u s1 ⟨x, H1, I1, rx, d, kvs, ex, hd, q⟩ => ?_)
  subst ex
  obtain rfl : u = Value.ref d := rx
  obtain ⟨hs, hz, ar, ep, raw, hsz, hn, ent⟩ := dk_raw I1 hd
  refine ⟨raw.typeIs, fun b q => ?_, ?_⟩
  · cases q
    obtain ⟨o, ho, _⟩ := raw
    exact ⟨o, ho, hn o ho⟩
  have I2 : Inv X pins σ (upd H1 s1.heap.objs.size (.ext (viewH "dict_values" s1.heap.objs.size d))) { s1 with heap := s1.heap.push { cls := .type "dict_values", data := .fields #[.ref d] } } :=
    I1.laid (t' := s1.toks) (fun b ob q => Heap.get?_push_of_some _ q) (Nat.le_refl _) (view_obj ⟨_, Heap.get?_push_size _ rfl, rfl, rfl⟩)
  show wpAny _ _ (callWith cpos (.builtin "dict.values") [.ref d] [] []) _ X.xe s1
  exact method_meetsIn F.slot_dict_values F.entry_dict_values rfl (PySem.evalArgs_none ⟨rfl, raw.typeIs, F.args_dict_values_1 _, _, meets_dict_values_raw d hs, ⟨_, _, raw⟩, .ref s1.heap.objs.size, _, I2, rfl, q _ (I1.hok.fresh (Nat.le_refl _))⟩)
/-! ### min(d.values(), default=None) -/
theorem best_least (f : Nat → Int) : ∀ k, argBest (fun i j => decide (f i < f j)) k ≤ k ∧ ∀ j, j ≤ k → f (argBest (fun i j => decide (f i < f j)) k) ≤ f j
  | 0 => ⟨Nat.le_refl _, fun j hj => by rw [show j = 0 by omega]; exact Int.le_refl _⟩
  | k + 1 => by
    obtain ⟨h1, h2⟩ := best_least f k
    unfold argBest
    by_cases c : f (k + 1) < f (argBest (fun i j => decide (f i < f j)) k)
    · rw [if_pos (decide_eq_true c)]
      refine ⟨Nat.le_refl _, fun j hj => ?_⟩
      by_cases e : j = k + 1
      · rw [e]; exact Int.le_refl _
      · have := h2 j (by omega)
        omega
    · rw [if_neg (by simp [c])]
      refine ⟨by omega, fun j hj => ?_⟩
      by_cases e : j = k + 1
      · rw [e]; omega
      · exact h2 j (by omega)
def rMinD : List V → List V → Hp → VK → Prop := fun vs zs H Q => ∃ (v d : Addr) (kvs : List (Key × V)) (ns : List Int), vs = [.ref v] ∧ zs = [.non] ∧ H v = some (.ext (viewH "dict_values" v d)) ∧ Rd H d (.dK kvs) ∧ kvs.map (·.2) = ns.map V.int ∧
  (ns = [] → Q .non H) ∧ ∀ m, m ∈ ns → (∀ x ∈ ns, m ≤ x) → Q (.int m) H
theorem cr_minD (hc : X.calm = true) : CallRK X (.builtin "min") [Str.ofString "default"] rMinD := by
  intro pins s σ H vs zs us ws Q I r rz h
  obtain ⟨v, d, kvs, ns, rfl, rfl, hv, hd, hns, q0, q1⟩ := h
  obtain rfl := Vals.ref1 r
  obtain ⟨w1, rfl, e1⟩ := vals1 rz
  obtain rfl : w1 = Value.none := e1
  obtain ⟨hs, hz, ar, ep, raw, hsz, hn, ent⟩ := dk_raw I hd
  have hvw : s.heap.IsValuesView v d := (I.hok v _ hv).1
  have hh : X.A.handled = none := I.ok.hd hc
  have hln : kvs.length = ns.length := by
    have := congrArg List.length hns
    simpa using this
  have val : ∀ i, i < ar.size → ∃ (n : Int) (t : Tok) (hi : i < ar.size), ns[i]? = some n ∧ ar[i].val = .int n t := fun i hi => by
    have hik : i < kvs.length := by omega
    obtain ⟨hi', _, rv⟩ := ent i kvs[i].1 kvs[i].2 (List.getElem?_eq_getElem hik)
    have e2 := congrArg (fun l : List V => l[i]?) hns
    simp only [List.getElem?_map] at e2
    rw [List.getElem?_eq_getElem hik, List.getElem?_eq_getElem (show i < ns.length by omega)] at e2
    have e3 : kvs[i].2 = V.int ns[i] := Option.some.inj e2
    rw [e3] at rv
    obtain ⟨t, et⟩ := rv
    exact ⟨ns[i], t, hi, List.getElem?_eq_getElem _, et⟩
  have hlt : d < s.heap.objs.size := by
    obtain ⟨o, ho, _⟩ := raw
    exact Heap.lt_size ho
  show wpAny (model X.prog X.w) X.A (call (.builtin "min") [.ref v] [(Str.ofString "default", Value.none)]) _ X.xe s
  have old : ∀ (s' : Shared), Moved [s.heap.objs.size] (fun a b => b = a) { s with heap := s.heap.push { cls := .type "dict_valueiterator", data := .fields #[.ref d, .int 0 0, .int ar.size 0, .int ep 0] } } s' → Inv X pins σ H s' := fun s' m => by
    obtain ⟨h', tk, rfl, hk⟩ := PySem.W.moved_old rfl rfl m
    exact I.kept (t' := tk) hk
  refine call_min_walkD (wpAny_pyIter_values_raw (A := X.A.in1) hvw raw ?_)
  refine ⟨_, _, _, _, _, _, _, s.heap, (fun i j => decide (ns.getD i 0 < ns.getD j 0)), rfl, (Walks.rawValues (A := X.A.in1) (prog := X.prog) (w := X.w) hh s.heap.objs.size d (Nat.ne_of_lt hlt) ar ep).toS, ⟨⟨_, Heap.get?_push_size _ rfl, rfl, rfl⟩, raw.at fun o e => Heap.get?_push_of_some _ e⟩, fun b hb => ?_, fun b o e hb => ?_, fun b o e => Heap.get?_push_of_some _ e, fun hz s' m => ?_, fun hp => ⟨?_, fun v' s' hP m => ?_⟩⟩
  · show b < (s.heap.push _).objs.size
    rw [Heap.size_push]
    rcases List.mem_cons.mp hb with rfl | hb
    · exact Nat.lt_succ_self _
    · rcases List.mem_cons.mp hb with rfl | hb
      · exact Nat.lt_succ_of_lt hlt
      · cases hb
  · exact absurd (Heap.lt_size e) ((List.mem_singleton.mp hb) ▸ Nat.lt_irrefl _)
  · exact ⟨.non, H, old s' m, rfl, q0 (List.eq_nil_of_length_eq_zero (by omega))⟩
  · intro i j vi vj s' Q' E' _ hi hj hq
    obtain ⟨hi, rfl⟩ := hi
    obtain ⟨hj, rfl⟩ := hj
    obtain ⟨n, t, _, hn1, hn2⟩ := val i hi
    obtain ⟨n', t', _, hn3, hn4⟩ := val j hj
    rw [hn2, hn4]
    have e1 : ns.getD i 0 = n := by rw [List.getD_eq_getElem?_getD, hn1]; rfl
    have e2 : ns.getD j 0 = n' := by rw [List.getD_eq_getElem?_getD, hn3]; rfl
    have hq : Q' (Value.bool (decide (ns.getD i 0 < ns.getD j 0))) s' := hq
    rw [e1, e2] at hq
    show wpAny _ _ (compareOp .Lt (.int n t) (.int n' t')) Q' E' s'
    exact lt_int hq
  · obtain ⟨hi, rfl⟩ := hP
    obtain ⟨h1, h2⟩ := best_least (fun i => ns.getD i 0) (ar.size - 1)
    obtain ⟨n, t, _, hn1, hn2⟩ := val _ hi
    have e1 : ns.getD (argBest (fun i j => decide (ns.getD i 0 < ns.getD j 0)) (ar.size - 1)) 0 = n := by rw [List.getD_eq_getElem?_getD, hn1]; rfl
    refine ⟨.int n, H, old s' m, ?_, q1 n (List.mem_of_getElem? hn1) fun x hx => ?_⟩
    · rw [hn2]
      exact ⟨t, rfl⟩
    · obtain ⟨j, hj⟩ := List.getElem?_of_mem hx
      have hjl := (List.getElem?_eq_some_iff.mp hj).1
      have q := h2 j (by omega)
      have e2 : ns.getD j 0 = x := by rw [List.getD_eq_getElem?_getD, hj]; rfl
      have q' : ns.getD (argBest (fun i j => decide (ns.getD i 0 < ns.getD j 0)) (ar.size - 1)) 0 ≤ ns.getD j 0 := q
      rw [e1, e2] at q'
      exact q'
end
end K33M


set_option Elab.async false
set_option linter.all false
set_option maxRecDepth 100000
set_option maxHeartbeats 1000000
/-! Tuples known to the object; dicts made of pairs; a dict with tuple keys by its items. -/
namespace K33M
open PySem PySem.Spec PyProof.Rows L2 K33
/-- a tuple that has no dict of its own -/
def TupF (H : Hp) (a : Addr) (xs : List V) : Prop := ∃ o : Obj, H a = some (.frz o (.tup xs)) ∧ o.dict = none
theorem TupF.sq {K : PySem.W.Frag} {H : Hp} {a : Addr} {xs : List V} (h : TupF H a xs) : SqT K H a xs := let ⟨o, e, _⟩ := h; .inl (.inr ⟨o, e⟩)
theorem TupF.mono {H H' : Hp} {a : Addr} {xs : List V} (e : Evl.Ex H H') (h : TupF H a xs) : TupF H' a xs := let ⟨o, q, n⟩ := h; ⟨o, e _ _ q, n⟩
def tTupF (t : TA) : TE := fun σ H Q => t σ H fun xs H1 => xs.length ≤ sizeLine ∧ ∀ p H', H1 p = none → TupF H' p xs → (∃ o, H' = upd H1 p o) → Q (.ref p) H'
section
variable {X : Cx}
theorem pe_tupF {es : List Expr} {k : Nat} {pos : Pos} {t : TA} (h : PA X es t) : PE X (.Tuple es k pos) (tTupF t) := by
  refine ⟨fun pins s σ H Q I hq => ?_⟩
  refine wpAny_Tuple_spliced (thn (h.run pos pins s σ H _ I hq) fun us s1 ⟨xs, H1, I1, r, z, q⟩ => ⟨by rw [← r.length]; exact z, ?_⟩)
  have hf : H1 s1.heap.objs.size = none := I1.hok.fresh (Nat.le_refl _)
  have I2 : Inv X pins σ (upd H1 s1.heap.objs.size (.frz { cls := .type "tuple", data := .seq us.toArray } (.tup xs))) { s1 with heap := s1.heap.push { cls := .type "tuple", data := .seq us.toArray } } :=
    I1.laid (t' := s1.toks) (fun b u e => Heap.get?_push_of_some _ e) (Nat.le_refl _) ⟨Heap.get?_push_size _ rfl, z, us, r, ⟨_, Heap.get?_push_size _ rfl, rfl, _, rfl⟩⟩
  exact ⟨.ref s1.heap.objs.size, _, I2, rfl, q _ _ hf ⟨_, upd_same, rfl⟩ ⟨_, rfl⟩⟩
def rTupleF (K : PySem.W.Frag) : List V → Hp → VK → Prop := fun xs H Q => ∃ p ys, xs = [.ref p] ∧ SqL K H p ys ∧ ∀ l H', H l = none → TupF H' l ys → (∃ o, H' = upd H l o) → Q (.ref l) H'
theorem call_tupleF : CallR X (.type "tuple") (rTupleF X.K) := by
  intro pins s σ H xs us Q I r h
  obtain ⟨p, ys, rfl, hq, q⟩ := h
  obtain ⟨u, rfl, rx⟩ := vals1 r
  cases rx
  obtain ⟨its, r', pl, hz⟩ := I.list hq
  have hlen := r'.length
  refine call_tuple_list pl.isList (fun h' kp => ?_) (by simp only [List.size_toArray] <;> omega)
  have I1 : Inv X pins σ H { s with heap := h' } := I.kept (t' := s.toks) kp
  have I2 : Inv X pins σ (upd H h'.objs.size (.frz { cls := .type "tuple", data := .seq its.toArray } (.tup ys))) { s with heap := h'.push { cls := .type "tuple", data := .seq its.toArray } } :=
    I1.laid (t' := s.toks) (fun b o e => Heap.get?_push_of_some _ e) (Nat.le_refl _) ⟨Heap.get?_push_size _ rfl, hz, its, r', IsTup.new _ _⟩
  exact ⟨.ref h'.objs.size, _, I2, rfl, q _ _ (I1.hok.fresh (Nat.le_refl _)) ⟨_, upd_same, rfl⟩ ⟨_, rfl⟩⟩
theorem list_choose {α : Type} {P : Nat → α → Prop} : ∀ (n : Nat), (∀ j, j < n → ∃ x, P j x) → ∃ l : List α, l.length = n ∧ ∀ j x, l[j]? = some x → P j x
  | 0, _ => ⟨[], rfl, fun j x h => by simp at h⟩
  | n + 1, h => by
    obtain ⟨l, hl, hp⟩ := list_choose n fun j hj => h j (by omega)
    obtain ⟨x, hx⟩ := h n (by omega)
    refine ⟨l ++ [x], by simp [hl], fun j y hy => ?_⟩
    by_cases c : j < l.length
    · rw [List.getElem?_append_left c] at hy
      exact hp j y hy
    · rw [List.getElem?_append_right (by omega)] at hy
      have e : j = n := by
        have := (List.getElem?_eq_some_iff.mp hy).1
        simp at this
        omega
      subst e
      rw [hl] at hy
      simp at hy
      rw [← hy]
      exact hx
/-! ### dict(t), t a tuple of pairs -/
def rDictT (K : PySem.W.Frag) : List V → Hp → VK → Prop := fun xs H Q => ∃ (a : Addr) (ps : List Addr) (kvs : List (Key × V)), xs = [.ref a] ∧ TupF H a (ps.map V.ref) ∧ Paired (fun p kv => SqT K H p [kV kv.1, kv.2]) ps kvs ∧ (kvs.map (·.1)).Nodup ∧
    ∀ p, H p = none → Q (.ref p) (upd H p (.dK kvs))
theorem merge_nodup : ∀ (more kvs : List (Key × V)), ((kvs ++ more).map (·.1)).Nodup → mergeK kvs more = kvs ++ more
  | [], kvs, _ => by simp [mergeK]
  | kv :: more, kvs, h => by
    show mergeK (putK kvs kv.1 kv.2) more = _
    have hn : valV kvs kv.1 = none := by
      cases e : valV kvs kv.1 with
      | none => rfl
      | some v =>
        exfalso
        obtain ⟨i, hi⟩ := valV_mem e
        rw [List.map_append, List.nodup_append] at h
        exact h.2.2 kv.1 (List.mem_map.mpr ⟨_, List.mem_of_getElem? hi, rfl⟩) kv.1 (by simp) rfl
    rw [putK_new _ hn, merge_nodup more _ (by simpa using h)]
    simp
theorem call_dictT (hcalm : X.calm = true) : CallR X (.type "dict") (rDictT X.K) := by
  intro pins s σ H xs us Q I r q
  obtain ⟨a, ps, kvs, ex, hq, hp, hnd, q⟩ := q
  subst ex
  obtain ⟨u, eu, rx⟩ := vals1 r
  subst eu
  cases rx
  obtain ⟨o, ho, hn⟩ := hq
  obtain ⟨hga, hz, its, rv, o', ho', hc, n, hdat⟩ := I.hok a _ ho
  rw [hga] at ho'
  cases ho'
  have ei := refs_at rv
  subst ei
  rw [List.length_map] at hz
  obtain ⟨prs, rel, hl, hpr⟩ := pairs_of I hp
  obtain ⟨vs, hvl, hvs⟩ := list_choose prs.length (P := fun j (x : Value × Value) => ∃ (q : Key × Value) (b : Addr), prs[j]? = some q ∧ ps[j]? = some b ∧ q.2 = x.2 ∧ keyIs q.1 x.1 = true ∧ IsTup s.heap b #[x.1, x.2]) fun j hj => by
    obtain ⟨b, u, h1, h2, h3⟩ := hpr j prs[j] (List.getElem?_eq_getElem hj)
    exact ⟨(u, prs[j].2), prs[j], b, List.getElem?_eq_getElem hj, h1, rfl, h3, h2⟩
  have P := PairArg.tuple (prog := X.prog) (w := X.w) a (ps.map Value.ref).toArray (fun j => ps.getD j 0) vs
  refine PySem.call_dict_pairs (knd := mixKind X.prog X.w) (kvs := prs) P (I.ok.hd hcalm) ⟨⟨o, n, hga, hc, hn, hdat⟩, by simp [hvl, hl], fun j k v hj => ?_⟩ ⟨hvl.symm, fun i k v hi => ?_⟩ (by rw [hvl, hl]; exact hz) fun h' tk hd' k => ?_
  · obtain ⟨q', b, h1, h2, h3, h4, h5⟩ := hvs j (k, v) hj
    have e : ps.getD j 0 = b := by rw [List.getD_eq_getElem?_getD, h2]; rfl
    refine ⟨by simp [h2], .inl ?_⟩
    show s.heap.IsTuple (ps.getD j 0) #[k, v]
    rw [e]
    exact h5
  · obtain ⟨q', b, h1, h2, h3, h4, h5⟩ := hvs i (k, v) hi
    refine ⟨q'.1, ?_, h4⟩
    rw [h1]
    exact congrArg some (Prod.ext rfl h3)
  · have hm : (s.heap.objs.size == sysModules) = false := beq_eq_false_iff_ne.mpr (Nat.ne_of_gt I.big)
    have em : mergeK [] kvs = kvs := by
      rw [merge_nodup kvs [] (by simpa using hnd)]
      rfl
    have hlen : kvs.length ≤ sizeLine := by
      rw [rel.length, hl]
      exact hz
    refine ⟨.ref s.heap.objs.size, upd H s.heap.objs.size (.dK kvs), I.laid (t' := tk) (fun b o e => k b o (by simp) e) (Nat.le_refl _) ⟨hlen, hm, merged [] prs, ?_, hd'⟩, rfl, q _ (I.hok.fresh (Nat.le_refl _))⟩
    have q2 := KV.merge rel (.nil : KV ([] : List (Key × V)) [])
    rw [em] at q2
    exact q2
end
end K33M


set_option Elab.async false
set_option linter.all false
set_option maxRecDepth 100000
set_option maxHeartbeats 1000000
/-! A dict with tuple keys by its items; mixed dicts made of pairs and by comprehensions; sorted of a dict's items. -/
namespace K33M
open PySem PySem.Spec PyProof.Rows L2 K33
/-! ### items of a dict with tuple keys -/
def Itit (d : Addr) (o : Obj) (kvs : List (List Key × V)) : It :=
  ⟨fun i H => H d = some (.frz o (.dT kvs)) ∧ i < kvs.length, fun i H x H' => ∃ T k v q, kvs[i]? = some (k, v) ∧ H q = some (.tup (k.map kV)) ∧ x = .ref T ∧ H T = none ∧ H' = upd H T (.tup [.ref q, v]), fun i H => H d = some (.frz o (.dT kvs)) ∧ kvs.length ≤ i⟩
def iItemsT (td : TE) : TI := fun σ H R => td σ H fun x H1 => ∃ d o kvs, x = .ref d ∧ H1 d = some (.frz o (.dT kvs)) ∧ R (Itit d o kvs) H1
theorem frzT_at {X : Cx} {pins : List (Addr × Obj)} {σ : L2.St} {H : Hp} {s : Shared} {d : Addr} {o : Obj} {kvs : List (List Key × V)} (I : Inv X pins σ H s) (h : H d = some (.frz o (.dT kvs))) :
    (d == sysModules) = false ∧ s.heap.get? d = some o ∧ o.ExactDict ∧ ∃ (ar : Array DictEntry) (ep : Nat), o.data = .dict ar ep ∧ ar.size = kvs.length ∧ s.heap.DictRaw d ar ep ∧
      ∀ (i : Nat) (k : List Key) (v : V), kvs[i]? = some (k, v) → ∃ (hi : i < ar.size) (q : Addr), H q = some (.tup (k.map kV)) ∧ RelV (.ref q) ar[i].key ∧ RelV v ar[i].val := by
  obtain ⟨hd, z, hs, xs, pr, o', ar, ep, ho, hx, hdt, he, _⟩ := I.hok d _ h
  rw [hd] at ho
  cases ho
  have l1 : ar.size = xs.length := size_of_entries he
  have l2 : kvs.length = xs.length := Paired.length pr
  refine ⟨hs, hd, hx, ar, ep, hdt, by omega, ⟨_, hd, hx, hdt⟩, fun i k v e => ?_⟩
  obtain ⟨b, hb, e1, e2, e3⟩ := L2.paired_get pr e
  have q := entry_at he i
  rw [hb] at q
  have hlt : i < ar.size := by
    have := (List.getElem?_eq_some_iff.mp e).1
    omega
  rw [Array.getElem?_eq_getElem hlt] at q
  have q' : ar[i] = entryOfKey (tupleKind (mixKind X.prog X.w)) b := Option.some.inj q
  refine ⟨hlt, b.2.1, e2, ?_, ?_⟩
  · rw [q']; exact rfl
  · rw [q']; exact e3
section
variable {P : Program} {w : World} {K : PySem.W.Frag} {d : Addr} {o : Obj} {ar : Array DictEntry} {ep : Nat}
theorem turn_itemsT {kvs : List (List Key × V)} {elts : List Expr} {kk : Nat} {tpos : Pos} (it : Addr) (hod : o.data = .dict ar ep) :
    Turn P w K (.Tuple elts kk tpos) (Itit d o kvs) [it] it (fun i h => ∃ ok ov, IsItemIter h it d i kvs.length ep ok ov) where
  mem := by simp
  obj := fun i h st b hb => by
    have e : b = it := by simpa using hb
    subst e
    obtain ⟨ok, ov, e⟩ := st
    exact ⟨_, e, fun v z => nomatch z⟩
  keep := fun i h h' st k => let ⟨ok, ov, e⟩ := st; ⟨ok, ov, k it (by simp) _ e⟩
  item := by
    intro X hP hw hK hc i pins s σ H E I hf st hg
    subst hP hw hK
    obtain ⟨hd, hi⟩ := hg
    obtain ⟨hs, hgd, hx, ar', ep', hdt, hsz, raw, ent⟩ := frzT_at I hd
    obtain ⟨rfl, rfl⟩ := dict_ep hod hdt
    obtain ⟨hlt0, q, hq, rk, rv⟩ := ent i kvs[i].1 kvs[i].2 (List.getElem?_eq_getElem hi)
    obtain ⟨ok, ov, he⟩ := st
    rw [← hsz] at he
    have hlt : it < s.heap.objs.size := Heap.lt_size he
    refine wpAny_pyNext_items_item_raw he raw hlt0 fun h' ho hT hz hk => ?_
    refine ⟨_, rfl, wpAny_letOwnedTupleGo_items (s := { s with heap := h' }) ho fun h'' he' sb => ?_⟩
    have hT2 := (sb.2 _ (Nat.ne_of_gt hlt)).trans hT
    have new : ObjOk X.prog X.w (upd H s.heap.objs.size (.tup [.ref q, kvs[i].2])) h'' s.heap.objs.size (.tup [.ref q, kvs[i].2]) :=
      ⟨by show 2 ≤ sizeLine; decide, [_, _], .cons rk (.cons rv .nil), ⟨_, hT2, rfl, _, rfl⟩⟩
    have I1 : Inv X pins σ (upd H s.heap.objs.size (.tup [.ref q, kvs[i].2])) { s with heap := h'' } :=
      I.turnedNew (t' := s.toks) (ch := [it]) (fun b ob hb e => (sb.2 b (by simpa using hb)).trans (hk b ob (by simpa using hb) e)) hf (Nat.le_refl _) new
    refine ⟨.ref s.heap.objs.size, _, I1, rfl, ⟨_, _, _, q, List.getElem?_eq_getElem hi, hq, rfl, I.hok.fresh (Nat.le_refl _), rfl⟩, ⟨_, _, hsz ▸ he'⟩, fun b hb => ?_⟩
    have e : b = it := by simpa using hb
    rw [e, upd_ne (Nat.ne_of_lt hlt)]
    exact (hf it (by simp)).1
  done := by
    intro X hP hw hK hc i pins s σ H E I hf st hg
    subst hP hw hK
    obtain ⟨hd, hi⟩ := hg
    obtain ⟨f0, f1, f2, f3, f4, f5⟩ := hf it (by simp)
    obtain ⟨hs, hgd, hx, ar', ep', hdt, hsz, raw, ent⟩ := frzT_at I hd
    obtain ⟨rfl, rfl⟩ := dict_ep hod hdt
    obtain ⟨ok, ov, he⟩ := st
    rw [← hsz] at he
    exact wpAny_pyNext_items_end_raw (I.ok.hd hc) he raw (by omega) fun h' eb => ⟨rfl, I.turned (t' := s.toks) (fun b ob hb e => eb b ob hb e) f0 f1 f3 f4 f5⟩
  self := fun A i s Q E st h => let ⟨_, _, e⟩ := st; PySem.W.kcp_self e h
end
section
variable {X : Cx} {e : Expr} {td : TE} {apos cpos : Pos}
theorem pi_itemsT {elts : List Expr} {kk : Nat} {tpos : Pos} (he : PE X e td) (hbase : attributeBase e "items" X.env (eval e X.env) = eval e X.env := by rfl) (hline : (apos.endLine == cpos.line) = true := by rfl) :
    PI X (.Tuple elts kk tpos) (.Call (.Attribute e "items" apos) [] [] cpos) (iItemsT td) := by
  refine ⟨fun pins s σ H R I h => ?_⟩
  refine wpAny_Call_method (T := "dict") (id := "dict.items") hbase rfl hline F.plainAttrs_dict F.slot_dict_items F.type_dict_items (thn (he.run pins s σ H _ I h) fun u s1 ⟨x, H1, I1, rx, d, o, kvs, ex, hd, q⟩ => ?_)
  subst ex
  obtain rfl : u = Value.ref d := rx
  obtain ⟨hs, hgd, hx, ar, ep, hdt, hsz, raw, ent⟩ := frzT_at I1 hd
  have hT : s1.TypeIs (.ref d) "dict" := ⟨o, hgd, hx.1⟩
  refine ⟨hT, fun b q => ?_, ?_⟩
  · cases q
    exact ⟨o, hgd, hx.2.1⟩
  have I2 : Inv X pins σ H1 { s1 with heap := s1.heap.push { cls := .type "dict_items", data := .fields #[.ref d] } } := I1.kept (t' := s1.toks) fun b ob q => Heap.get?_push_of_some _ q
  have fin : wpAny (model X.prog X.w) X.A (pyIter (.ref s1.heap.objs.size)) (PIE X pins σ (.Tuple elts kk tpos) R) X.xe { s1 with heap := s1.heap.push { cls := .type "dict_items", data := .fields #[.ref d] } } := by
    refine wpAny_pyIter_items_raw (d := d) (es := ar) (ep := ep) ⟨_, Heap.get?_push_size _ rfl, rfl, rfl⟩ (raw.at fun o' q => Heap.get?_push_of_some _ q) (pi_one (tk := s1.toks) I2 _ (turn_itemsT _ hdt) ⟨.none, .none, ?_⟩ q)
    rw [← hsz]
    exact Heap.get?_push_size _ rfl
  show wpAny _ _ (callWith cpos (.builtin "dict.items") [.ref d] [] []) _ X.xe s1
  exact method_meetsIn F.slot_dict_items F.entry_dict_items rfl (PySem.evalArgs_none ⟨rfl, hT, F.args_dict_items_1 _, _, meets_dict_items_raw d hs, ⟨_, _, raw⟩, fin⟩)
/-! ### dict(l), l a list of pairs whose keys are spots -/
def rDictM (P : Program) (w : World) (K : PySem.W.Frag) : List V → Hp → VK → Prop := fun xs H Q => ∃ (a : Addr) (ps : List Addr) (es : ME), xs = [.ref a] ∧ SqL K H a (ps.map V.ref) ∧ Paired (fun p e => H p = some (.tup [e.2.1, e.2.2])) ps es ∧ (es.map (·.1)).Nodup ∧
    (∀ e ∈ es, SpV H e.2.1 e.1) ∧ ∀ p, H p = none → Q (.ref p) (upd H p (.ext (mixH P w p es)))
theorem call_dictM (hr : Room 2 X.A) (hcalm : X.calm = true) : CallR X (.type "dict") (rDictM X.prog X.w X.K) := by
  intro pins s σ H xs us Q I r q
  obtain ⟨a, ps, es, ex, hq, hp, hnd, hsp, q⟩ := q
  subst ex
  obtain ⟨u, eu, rx⟩ := vals1 r
  subst eu
  cases rx
  obtain ⟨its, rv, pl, hz⟩ := I.list hq
  have ei := refs_at rv
  subst ei
  rw [List.length_map] at hz
  obtain ⟨o, n, ho, hc, hd, hdat⟩ := pl
  have lps : ps.length = es.length := Paired.length hp
  obtain ⟨vs, hvl, hvs⟩ := list_choose es.length (P := fun j (x : Value × Value) => ∃ (e : Spot × V × V) (b : Addr), es[j]? = some e ∧ ps[j]? = some b ∧ RelV e.2.1 x.1 ∧ RelV e.2.2 x.2 ∧ H b = some (.tup [e.2.1, e.2.2]) ∧ IsTup s.heap b #[x.1, x.2]) fun j hj => by
    have hjp : j < ps.length := by omega
    obtain ⟨e, he, hb⟩ := L2.paired_get hp (List.getElem?_eq_getElem hjp)
    obtain ⟨_, its, rv2, ht⟩ := I.hok _ _ hb
    obtain ⟨u1, u2, rfl, r1, r2⟩ := vals2 rv2
    exact ⟨(u1, u2), e, ps[j], he, List.getElem?_eq_getElem hjp, r1, r2, hb, ht⟩
  have P := PairArg.list (prog := X.prog) (w := X.w) a (ps.map Value.ref).toArray (fun j => ps.getD j 0) vs
  -- the entries
  obtain ⟨xs, exs⟩ : ∃ xs : MX, xs = (es.zip vs).map fun z => (z.1.1, z.2.1, z.2.2) := ⟨_, rfl⟩
  have hxs : ∀ (j : Nat) (e : Spot × V × V) (v : Value × Value), es[j]? = some e → vs[j]? = some v → xs[j]? = some (e.1, v.1, v.2) := fun j e v h1 h2 => by
    rw [exs, List.getElem?_map]
    have : (es.zip vs)[j]? = some (e, v) := by
      rw [List.getElem?_zip_eq_some]
      exact ⟨h1, h2⟩
    rw [this]
    rfl
  have lxs : xs.length = es.length := by
    rw [exs, List.length_map, List.length_zip, hvl]
    omega
  have rel : MRel es xs := by
    have : ∀ (es : ME) (vs : List (Value × Value)), vs.length = es.length → (∀ (j : Nat) (e : Spot × V × V) (v : Value × Value), es[j]? = some e → vs[j]? = some v → RelV e.2.1 v.1 ∧ RelV e.2.2 v.2) → MRel es ((es.zip vs).map fun z => (z.1.1, z.2.1, z.2.2)) := by
      intro es
      induction es with
      | nil => intro vs _ _; exact .nil
      | cons e es ih =>
        intro vs hl hr
        cases vs with
        | nil => simp at hl
        | cons v vs =>
          refine .cons ⟨rfl, (hr 0 e v rfl rfl).1, (hr 0 e v rfl rfl).2⟩ (ih vs (by simpa using hl) fun j e' v' h1 h2 => hr (j + 1) e' v' (by simpa using h1) (by simpa using h2))
    rw [exs]
    refine this es vs hvl fun j e v h1 h2 => ?_
    obtain ⟨e', b, g1, _, g2, g3, _⟩ := hvs j v h2
    rw [h1] at g1
    cases g1
    exact ⟨g2, g3⟩
  have nodx : (xs.map (·.1)).Nodup := by
    have : xs.map (·.1) = es.map (·.1) := by
      refine List.ext_getElem? fun j => ?_
      rw [List.getElem?_map, List.getElem?_map]
      cases h1 : es[j]? with
      | none =>
        have h2 : xs[j]? = none := by
          rw [List.getElem?_eq_none_iff] at h1 ⊢
          omega
        rw [h2]
        rfl
      | some e =>
        have hj : j < vs.length := by
          have := (List.getElem?_eq_some_iff.mp h1).1
          omega
        rw [hxs j e vs[j] h1 (List.getElem?_eq_getElem hj)]
        rfl
    rw [this]
    exact hnd
  -- the keys stay keys while the old heap stands
  have his : ∀ h : Heap, (∀ b o, s.heap.get? b = some o → h.get? b = some o) → ∀ x ∈ xs, spIs X.prog X.w h x.1 x.2.1 := fun h hk x hx => by
    have I' : Inv X pins σ H { s with heap := h } := I.kept (t' := s.toks) hk
    exact m_his I' rel hsp x hx
  have hu : X.A.in1.in1.units + 1 < cLine := by
    have := hr.un
    show X.A.units + 1 + 1 + 1 < _
    omega
  refine call_dict_arg P ⟨⟨o, n, ho, hc, hd, hdat⟩, by simp [hvl, lps], fun j k v hj => ?_⟩ fun s₁ hs₁ hdf ok₁ => ?_
  · obtain ⟨e, b, h1, h2, _, _, _, h5⟩ := hvs j (k, v) hj
    have e : ps.getD j 0 = b := by rw [List.getD_eq_getElem?_getD, h2]; rfl
    refine ⟨by simp [h2], .inl ?_⟩
    show s.heap.IsTuple (ps.getD j 0) #[k, v]
    rw [e]
    exact h5
  subst hs₁
  have hne : ∀ b o, s.heap.get? b = some o → b ≠ s.heap.objs.size := fun b o e => Nat.ne_of_lt (Heap.lt_size e)
  refine updateFrom_arg (A := X.A.in1) (Tab := fun i h => MixOf X.prog X.w h s.heap.objs.size (xs.take i) ∧ ∀ b o, s.heap.get? b = some o → h.get? b = some o) P .none (I.ok.hd hcalm) ok₁ hdf
    ⟨⟨_, #[], 0, Heap.get?_push_size _ rfl, ⟨rfl, rfl, rfl⟩, rfl, rfl, List.nodup_nil⟩, fun b o e => Heap.get?_push_of_some _ e⟩ (fun i h tb => let ⟨_, _, _, e, _⟩ := tb.1; Heap.lt_size e) (fun i h h' wr' hd' hwr tb hk => ?_) (fun i key v s' Q' E' hi hrel tb _ hQ => ?_) fun h' tk tb _ => ?_
  · refine ⟨?_, fun b o e => hk b o (fun hb => ?_) (tb.2 b o e)⟩
    · obtain ⟨od, ar, ep, e1, e2⟩ := tb.1
      exact ⟨od, ar, ep, hk _ _ hd' e1, e2⟩
    · rcases hwr b hb with z | z
      · cases z
      · rw [Heap.get?_push_of_some _ e] at z
        cases z
  · obtain ⟨e, b, h1, h2, h3, h4, h5, _⟩ := hvs i (key, v) hrel
    have hxi := hxs i e (key, v) h1 hrel
    have key_is : spIs X.prog X.w s'.heap e.1 key := his s'.heap tb.2 _ (List.mem_of_getElem? hxi)
    refine mSet (k := e.1) (by show X.A.in1.in1.units < cLine; omega) key_is tb.1 (fun x hx => his s'.heap tb.2 x (List.mem_of_mem_take hx)) (by rw [List.length_take]; omega) fun h'' hm' hs' => hQ h'' _ ⟨?_, fun c oc ec => hs'.extBut c oc (hne c oc ec) (tb.2 c oc ec)⟩ hs'
    have hnew : ∀ (j : Nat) (p : Value × Value), (xs.take i)[j]? ≠ some (e.1, p) := fun j p hj => by
      have hji : j < i := by
        have := (List.getElem?_eq_some_iff.mp hj).1
        rw [List.length_take] at this
        omega
      rw [List.getElem?_take_of_lt hji] at hj
      have := mEnt_uniq nodx hj hxi
      omega
    rw [putM_new hnew] at hm'
    rw [List.take_add_one, hxi]
    exact hm'
  · have et : xs.take vs.length = xs := List.take_of_length_le (by omega)
    rw [et] at tb
    have hm : (s.heap.objs.size == sysModules) = false := beq_eq_false_iff_ne.mpr (Nat.ne_of_gt I.big)
    exact ⟨rfl, .ref s.heap.objs.size, _, I.laid (t' := tk) tb.2 (Nat.le_refl _) (mix_obj (by omega) hm rel tb.1), rfl, q _ (I.hok.fresh (Nat.le_refl _))⟩
end
end K33M


set_option Elab.async false
set_option linter.all false
set_option maxRecDepth 100000
set_option maxHeartbeats 1000000
/-! Mixed dicts by comprehensions; sorted of a dict's items. -/
namespace K33M
open PySem PySem.Spec PyProof.Rows L2 K33
section
variable {X : Cx}
/-- {k: v for target in iter if ..}, keys spots: D the new dict -/
def tDcM (P : Program) (w : World) (wi : TI) (g : TG) (tt : TT) (tk tv : TE) (vs : List Nat) : TE := fun σ H Q => wi σ H fun J H1 => ∀ D, H1 D = none → ∃ W : Nat → Nat → Hp → Prop, (∃ m, W 0 m (upd H1 D (.ext (mixH P w D [])))) ∧ ∀ i m H, W i m H →
  (J.stop i H ∧ Q (.ref D) H) ∨ (J.go i H ∧ ∃ Nx : Hp → Prop, (∀ H', Nx H' → ∃ m', m' < m ∧ W (i + 1) m' H') ∧ ∀ x H', J.yld i H x H' → g x (wipe σ vs) H' fun σ2 H2 => wipe σ2 vs = wipe σ vs ∧ tt σ2 H2 fun b H3 =>
    if b = true then tk σ2 H3 fun y H4 => tv σ2 H4 fun z H5 => ∃ k H6, MPut P w H5 D k y z H6 ∧ Nx H6 else Nx H3)
theorem dcM_core {pins : List (Addr × Obj)} {s : Shared} {σ : L2.St} {H : Hp} {Q : VK} {kx vx tg iter : Expr} {ifs : List Expr} {scope : Scope} {own : List (Str × Nat)} {pos pos' : Pos} {wi : TI} {g : TG} {tt : TT} {tk tv : TE} {use : Option (Value → Sem Unit)} {Qf : Value → Shared → Prop}
    (hu0 : X.A.units < cLine) (hc : X.calm = true) (hN : X.N.Nodup) (I : Inv X pins σ H s) (hi : PI X tg iter wi) (ok : BlkOk X.N X.env.scope scope own)
    (hg : ∀ (s : Shared) (H : Hp) (C : Addr) (cl : List (Str × Addr)) (fp : List Addr), PG (X.blk s H scope (compEnvC scope cl C X.env) fp) tg g) (ht : ∀ (s : Shared) (H : Hp) (C : Addr) (cl : List (Str × Addr)) (fp : List Addr), PTs (X.blk s H scope (compEnvC scope cl C X.env) fp) ifs tt)
    (hk : ∀ (s : Shared) (H : Hp) (C : Addr) (cl : List (Str × Addr)) (fp : List Addr), PE (X.blk s H scope (compEnvC scope cl C X.env) fp) kx tk)
    (he : ∀ (s : Shared) (H : Hp) (C : Addr) (cl : List (Str × Addr)) (fp : List Addr), PE (X.blk s H scope (compEnvC scope cl C X.env) fp) vx tv) (hs : ∀ x, foldedSetIterable iter X.env x = pure x)
    (h : tDcM X.prog X.w wi g tt tk tv (own.map (·.2)) σ H Q)
    (hRR : ∀ D C s' m H', Inv X pins σ H' s' → Q (.ref D) H' → s'.heap.Ns C m → FpOk X pins H' C → compPost (model X.prog X.w) X.A X.xe use Qf (.ref D) C (.ok .next) s') :
    wpAny (model X.prog X.w) X.A (comprehension (.DictComp kx vx [⟨tg, iter, ifs, 0⟩] scope pos) scope X.env pos' newDict false (eval iter X.env) use) Qf X.xe s := by
  have hfree : ∀ y ∈ scope.names, y.2 = .free → ∃ c, X.env.cells.lookup y.1 = some c := fun y hy e => by
    rcases ok.free y hy e with k | k
    · exact I.ok.has _ (.inl k)
    · exact I.ok.has _ (.inr k)
  refine wpAny_comprehension_free (use := use) rfl hs (closure_ok hfree) ok.kind (fun y hy e => by rw [ok.uniq y hy, e])
    (thn (hi.run pins s σ H _ I h) fun xv s1 hx => thn hx fun itv s2 h2 => ?_)
  obtain ⟨it, fp, tn, J, H2, e, I2, T, st2, f2, q⟩ := h2
  subst e
  refine wpAny_newObj_type (newEnv_comp ?_)
  generalize hD : s2.heap.objs.size = D
  have hDn : H2 D = none := I2.hok.fresh (Nat.le_of_eq hD)
  obtain ⟨W, ⟨m0, w0⟩, turn⟩ := q D hDn
  -- the new list
  generalize hs3 : ({ s2 with heap := s2.heap.push { cls := .type "dict", data := .dict #[] } } : Shared) = s3
  have I3 : Inv X pins σ (upd H2 D (.ext (mixH X.prog X.w D []))) s3 := by
    rw [← hs3]
    refine I2.laid (t' := s2.toks) (fun b o e => Heap.get?_push_of_some _ e) (Nat.le_of_eq hD) ?_
    rw [← hD]
    exact mix_obj (Nat.zero_le _) (beq_eq_false_iff_ne.mpr (Nat.ne_of_gt I2.big)) .nil ⟨_, #[], 0, Heap.get?_push_size _ rfl, ⟨rfl, rfl, rfl⟩, rfl, rfl, List.nodup_nil⟩
  have h3 : s3.heap = s2.heap.push { cls := .type "dict", data := .dict #[] } := by rw [← hs3]
  have sz : ∀ b ∈ fp, b < s2.heap.objs.size := fun b hb => by
    obtain ⟨o, e, _⟩ := T.obj _ _ st2 b hb
    exact Heap.lt_size e
  have f3 : ∀ b ∈ fp, FpOk X pins (upd H2 D (.ext (mixH X.prog X.w D []))) b ∧ b < s3.heap.objs.size := fun b hb => by
    have hlt := sz b hb
    refine ⟨⟨?_, (f2 b hb).2⟩, by rw [h3, Heap.size_push]; exact Nat.lt_succ_of_lt hlt⟩
    rw [upd_ne (by rw [← hD]; exact Nat.ne_of_lt hlt)]
    exact (f2 b hb).1
  have st3 : tn 0 s3.heap := T.keep _ _ _ st2 fun b _ o e => by rw [h3]; exact Heap.get?_push_of_some _ e
  have I4 := block_start I3 ok hN f3
  have pg := hg s3 (upd H2 D (.ext (mixH X.prog X.w D []))) s3.heap.objs.size (cellsFrom (s3.heap.objs.size + 1) scope.names (cloFrom X.env.cells scope.names [])) fp
  have pt := ht s3 (upd H2 D (.ext (mixH X.prog X.w D []))) s3.heap.objs.size (cellsFrom (s3.heap.objs.size + 1) scope.names (cloFrom X.env.cells scope.names [])) fp
  have pk := hk s3 (upd H2 D (.ext (mixH X.prog X.w D []))) s3.heap.objs.size (cellsFrom (s3.heap.objs.size + 1) scope.names (cloFrom X.env.cells scope.names [])) fp
  have pe := he s3 (upd H2 D (.ext (mixH X.prog X.w D []))) s3.heap.objs.size (cellsFrom (s3.heap.objs.size + 1) scope.names (cloFrom X.env.cells scope.names [])) fp
  show codeAny _ _ (.compStart (.DictComp kx vx [⟨tg, iter, ifs, 0⟩] scope pos) 0 (.ref it) (.ref D) (compEnvC scope (cellsFrom (s3.heap.objs.size + 1) scope.names (cloFrom X.env.cells scope.names [])) s3.heap.objs.size X.env)) (compPost (model X.prog X.w) X.A X.xe use Qf (.ref D) s3.heap.objs.size) { s3 with heap := pushCells (s3.heap.push { cls := .type "dict", data := .dict #[] }) scope.names }
  have nfp : ∀ b ∈ fp, (upd H2 D (.ext (mixH X.prog X.w D []))) b = none := fun b hb => (f3 b hb).1.1
  generalize hce : compEnvC scope (cellsFrom (s3.heap.objs.size + 1) scope.names (cloFrom X.env.cells scope.names [])) s3.heap.objs.size X.env = ce at I4 pg pt pk pe ⊢
  have cL : ce.locals = s3.heap.objs.size := by subst hce; rfl
  generalize hH3 : upd H2 D (.ext (mixH X.prog X.w D [])) = H3 at I3 I4 pg pt pk pe w0 nfp f3
  generalize hs4 : ({ s3 with heap := pushCells (s3.heap.push { cls := .type "dict", data := .dict #[] }) scope.names } : Shared) = s4 at I4 ⊢
  have st4 : tn 0 s4.heap := T.keep _ _ _ st3 fun b _ o e => by rw [← hs4]; exact pushCells_keeps _ _ _ _ (Heap.get?_push_of_some _ e)
  have stat : ∀ {σ' : L2.St} {H' : Hp} {s' : Shared}, Inv (X.blk s3 H3 scope ce fp) [] σ' H' s' → (∀ b ∈ fp, H' b = none) → ∀ b ∈ fp, FpOk (X.blk s3 H3 scope ce fp) [] H' b := fun {σ' H' s'} I' hn b hb =>
    ⟨hn b hb, (I'.ok.exf b hb).1, I'.ok.exfs b hb, .inl hb, fun x c e => (I'.ok.exf b hb).2 x c e, fun p hp => absurd (show p ∈ ([] : List (Addr × Obj)) ++ [] from hp) (by simp)⟩
  have loop : codeAny (model X.prog X.w) X.A (.compLoop (.DictComp kx vx [⟨tg, iter, ifs, 0⟩] scope pos) 0 (.ref it) (.ref D) ce) (compPost (model X.prog X.w) X.A X.xe use Qf (.ref D) s3.heap.objs.size) s4 := by
    refine compLoop_anyD (fun n s' => ∃ i H', Inv (X.blk s3 H3 scope ce fp) [] (wipe σ (own.map (·.2))) H' s' ∧ tn i s'.heap ∧ (∀ b ∈ fp, H' b = none) ∧ W i n H') ?_ m0 ⟨0, H3, I4, st4, nfp, w0⟩
    rintro n s5 ⟨i, H5, I5, st5, n5, w5⟩
    rcases turn i n H5 w5 with ⟨stop, qq⟩ | ⟨go, Nx, hNx, step⟩
    · have td := T.done (X.blk s3 H3 scope ce fp) rfl rfl rfl hc i [] s5 _ H5 (fun _ _ => False) I5 (stat I5 n5) st5 stop
      refine thnF td fun r s6 ⟨hr, I6⟩ => ?_
      subst hr
      -- back in the def's context
      have I7 : Inv X pins σ H5 s6 := I3.call' (ch := fp) I6.os I6.base I6.hok I6.bare fun b hb => ⟨(f3 b hb).1.2.2.2.1, (f3 b hb).1.2.1, (f3 b hb).1.2.2.2.2.1, (f3 b hb).1.2.2.2.2.2⟩
      have nC : H5 s3.heap.objs.size = none := by
        have z : H5 ce.locals = none := I6.free
        rw [cL] at z
        exact z
      obtain ⟨m, hn, _⟩ := I6.loc
      have hn : s6.heap.Ns ce.locals m := hn
      rw [cL] at hn
      exact hRR D s3.heap.objs.size s6 m H5 I7 qq hn (I3.fpOk (Nat.le_refl _) nC)
    · have ti := T.item (X.blk s3 H3 scope ce fp) rfl rfl rfl hc i [] s5 _ H5 (fun _ _ => False) I5 (stat I5 n5) st5 go
      refine thnF ti fun r s6 ⟨u, hr, h6⟩ => ?_
      subst hr
      refine thnF h6 fun _ s7 ⟨x, H7, I7, r7, y7, st7, n7⟩ => ?_
      have I7' := I7.pinned (stat I7 n7) (T.obj _ _ st7)
      refine thnF (pg.run _ s7 _ H7 x u _ I7' r7 (step x H7 y7)) fun _ s8 ⟨σ8, H8, I8, hw8, q8⟩ => ?_
      refine thnF (pt.run _ s8 σ8 H8 _ I8 q8) fun b s9 ⟨H9, I9, q9⟩ => ?_
      -- the turn's end
      have fin : ∀ {s' : Shared} {H' : Hp}, Inv (X.blk s3 H3 scope ce fp) ([] ++ pinsAt fp s7.heap) σ8 H' s' → Nx H' → ∃ m, m < n ∧ ∃ i H', Inv (X.blk s3 H3 scope ce fp) [] (wipe σ (own.map (·.2))) H' s' ∧ tn i s'.heap ∧ (∀ b ∈ fp, H' b = none) ∧ W i m H' := fun {s' H'} I' nx => by
        obtain ⟨m', hm, w'⟩ := hNx H' nx
        have pin' : ∀ b ∈ fp, ∀ o, s7.heap.get? b = some o → s'.heap.get? b = some o ∧ H' b = none := fun b hb o e =>
          let z := I'.pin (b, o) (List.mem_append_right _ (List.mem_append_right _ (mem_pinsAt hb e)))
          ⟨z.1, z.2.1⟩
        have hl : (wipe σ (own.map (·.2))).length = σ8.length := by rw [← hw8, wipe_length]
        refine ⟨m', hm, i + 1, H', (I'.unpinned (pins := [])).weak hl (fun j v e => ?_), T.keep _ _ _ st7 fun b hb o e => (pin' b hb o e).1, fun b hb => ?_, w'⟩
        · rw [← hw8] at e
          exact (wipe_some e).1
        · obtain ⟨o, e, _⟩ := T.obj _ _ st7 b hb
          exact (pin' b hb o e).2
      cases b with
      | false =>
        simp only [Bool.false_eq_true, if_false] at q9 ⊢
        exact fin I9 q9
      | true =>
        simp only [if_true] at q9 ⊢
        refine thnF (pk.run _ s9 σ8 H9 _ I9 q9) fun z s10 ⟨yk, H10, I10, r10, q10⟩ => ?_
        refine thnF (pe.run _ s10 σ8 H10 _ I10 q10) fun z2 s11 ⟨yv, H11, I11, r11, k, H12, mp, nx⟩ => ?_
        exact md_dictSet (X := X.blk s3 H3 scope ce fp) hu0 I11 mp r10 r11 fun s12 I12 => fin I12 nx
  exact codeAny_compStart_dict loop (T.self X.A 0 _ _ _ st4 loop)
/-- as a value -/
theorem pe_dcM {kx vx tg iter : Expr} {ifs : List Expr} {scope : Scope} {own : List (Str × Nat)} {pos : Pos} {wi : TI} {g : TG} {tt : TT} {tk tv : TE} (hu0 : X.A.units < cLine) (hc : X.calm = true) (hN : X.N.Nodup) (hi : PI X tg iter wi) (ok : BlkOk X.N X.env.scope scope own)
    (hg : ∀ (s : Shared) (H : Hp) (C : Addr) (cl : List (Str × Addr)) (fp : List Addr), PG (X.blk s H scope (compEnvC scope cl C X.env) fp) tg g) (ht : ∀ (s : Shared) (H : Hp) (C : Addr) (cl : List (Str × Addr)) (fp : List Addr), PTs (X.blk s H scope (compEnvC scope cl C X.env) fp) ifs tt)
    (hk : ∀ (s : Shared) (H : Hp) (C : Addr) (cl : List (Str × Addr)) (fp : List Addr), PE (X.blk s H scope (compEnvC scope cl C X.env) fp) kx tk)
    (he : ∀ (s : Shared) (H : Hp) (C : Addr) (cl : List (Str × Addr)) (fp : List Addr), PE (X.blk s H scope (compEnvC scope cl C X.env) fp) vx tv) (hs : ∀ x, foldedSetIterable iter X.env x = pure x := by intro _; rfl) :
    PE X (.DictComp kx vx [⟨tg, iter, ifs, 0⟩] scope pos) (tDcM X.prog X.w wi g tt tk tv (own.map (·.2))) := by
  refine ⟨fun pins s σ H Q I h => ?_⟩
  rw [arm_eval_DictComp]
  refine dcM_core hu0 hc hN I hi ok hg ht hk he hs h fun D C s' m H' I' q hn f => ⟨m, hn, fun h'' sb => ?_⟩
  obtain ⟨f0, f1, f2, f3, f4, f5⟩ := f
  exact ⟨.ref D, H', I'.turned (t' := s'.toks) (fun b o hb e => (sb.2 b hb).trans e) f0 f1 f3 f4 f5, rfl, q⟩
end
end K33M


set_option Elab.async false
set_option linter.all false
set_option maxRecDepth 100000
set_option maxHeartbeats 1000000
/-! sorted of a dict's items, whole numbers by whole numbers; a dict with text keys taken as a mixed one. -/
namespace K33M
open PySem PySem.Spec PyProof.Rows L2 K33
abbrev Cx.in1 (X : Cx) : Cx := { X with A := X.A.in1 }
section
variable {X : Cx} {pins : List (Addr × Obj)} {σ : L2.St} {H : Hp} {s : Shared}
theorem ok_in1 (h : X.Ok) : (Cx.in1 X).Ok := ⟨h.mod, h.kind, h.glob, h.blt, h.above, h.inj, h.has, h.cab, h.hd, h.frames, h.stk, h.exf, h.bs, h.bsz, h.noex, h.exfs, h.funs, h.frf⟩
theorem inv_in1 (I : Inv X pins σ H s) : Inv (Cx.in1 X) pins σ H s := ⟨ok_in1 I.ok, I.os, I.bare, I.base, I.loc, I.cell, I.free, I.freeC, I.pin, I.hok, I.len⟩
theorem inv_out (h : X.Ok) (I : Inv (Cx.in1 X) pins σ H s) : Inv X pins σ H s := ⟨h, I.os, I.bare, I.base, I.loc, I.cell, I.free, I.freeC, I.pin, I.hok, I.len⟩
end
def tItemsV (td : TE) : TE := fun σ H Q => td σ H fun x H1 => ∃ d kvs, x = .ref d ∧ Rd H1 d (.dK kvs) ∧ ∀ v, H1 v = none → Q (.ref v) (upd H1 v (.ext (viewH "dict_items" v d)))
section
variable {X : Cx} {e : Expr} {td : TE} {apos cpos : Pos}
theorem pe_itemsV (he : PE X e td) (hbase : attributeBase e "items" X.env (eval e X.env) = eval e X.env := by rfl) (hline : (apos.endLine == cpos.line) = true := by rfl) : PE X (.Call (.Attribute e "items" apos) [] [] cpos) (tItemsV td) := by
  refine ⟨fun pins s σ H Q I h => ?_⟩
  refine wpAny_Call_method (T := "dict") (id := "dict.items") hbase rfl hline F.plainAttrs_dict F.slot_dict_items F.type_dict_items (thn (he.run pins s σ H _ I h) fun u s1 ⟨x, H1, I1, rx, d, kvs, ex, hd, q⟩ => ?_)
  subst ex
  obtain rfl : u = Value.ref d := rx
  obtain ⟨hs, hz, ar, ep, raw, hsz, hn, ent⟩ := dk_raw I1 hd
  refine ⟨raw.typeIs, fun b q => ?_, ?_⟩
  · cases q
    obtain ⟨o, ho, _⟩ := raw
    exact ⟨o, ho, hn o ho⟩
  have I2 : Inv X pins σ (upd H1 s1.heap.objs.size (.ext (viewH "dict_items" s1.heap.objs.size d))) { s1 with heap := s1.heap.push { cls := .type "dict_items", data := .fields #[.ref d] } } :=
    I1.laid (t' := s1.toks) (fun b ob q => Heap.get?_push_of_some _ q) (Nat.le_refl _) (view_obj ⟨_, Heap.get?_push_size _ rfl, rfl, rfl⟩)
  show wpAny _ _ (callWith cpos (.builtin "dict.items") [.ref d] [] []) _ X.xe s1
  exact method_meetsIn F.slot_dict_items F.entry_dict_items rfl (PySem.evalArgs_none ⟨rfl, raw.typeIs, F.args_dict_items_1 _, _, meets_dict_items_raw d hs, ⟨_, _, raw⟩, .ref s1.heap.objs.size, _, I2, rfl, q _ (I1.hok.fresh (Nat.le_refl _))⟩)
/-- the pair that stands there -/
def pairAt (H : Hp) (y : V) : Int × Int := match y with
  | .ref t => (match H t with
    | some (.tup [.int i, .int j]) => (i, j)
    | _ => (0, 0))
  | _ => (0, 0)
theorem pairAt_of {H : Hp} {t : Addr} {i j : Int} (h : H t = some (.tup [.int i, .int j])) : pairAt H (.ref t) = (i, j) := by
  show (match H t with
    | some (.tup [.int i, .int j]) => (i, j)
    | _ => (0, 0)) = (i, j)
  rw [h]
def derefV : V → Addr
  | .ref t => t
  | _ => 0
def rSortedDI : List V → Hp → VK → Prop := fun xs H Q => ∃ (v d : Addr) (prs : List (Int × Int)), xs = [.ref v] ∧ H v = some (.ext (viewH "dict_items" v d)) ∧ H d = some (.dK (prs.map fun p => (Sum.inl p.1, V.int p.2))) ∧
  ∀ (H' : Hp) (l : Addr) (ts : List Addr) (prs' : List (Int × Int)), Evl.Ex H H' → H l = none → prs'.Perm prs → prs'.Pairwise (fun p q => SrtO.lexB q p = false) → H' l = some (.lst (ts.map V.ref)) → Paired (fun t p => H' t = some (.tup [V.int p.1, V.int p.2])) ts prs' → Q (.ref l) H'
theorem cr_sortedDI (hc : X.calm = true) : CallR X (.builtin "sorted") rSortedDI := by
  intro pins s σ H xs us Q I r h
  obtain ⟨v, d, prs, rfl, hv, hd, q⟩ := h
  obtain rfl := Vals.ref1 r
  have view : s.heap.IsItemsView v d := (I.hok v _ hv).1
  obtain ⟨hs, hz, ar, ep, raw, hsz, hn, ent⟩ := dk_raw I (.inl hd)
  rw [List.length_map] at hz hsz
  refine DT.sortedI (es := ar) (ep := ep) (I.ok.hd hc) view raw (by omega) fun h' tk as hk hlt hl hG => ?_
  have nd : as.Nodup := List.Pairwise.imp (fun h => Nat.ne_of_lt h) hG.rise
  have new : ∀ t ∈ as, H t = none := fun t ht => I.hok.fresh (Nat.le_of_lt (hG.above t ht))
  have off : ∀ b o, s.heap.get? b = some o → b ∉ as := fun b o e z => absurd (Heap.lt_size e) (Nat.not_lt.mpr (Nat.le_of_lt (hG.above b z)))
  -- the pairs laid
  have atP := LiI.putT_at as (prs.map fun p => ((Sum.inl p.1 : Key), V.int p.2)) H (by rw [List.length_map]; omega) nd
  have offP : ∀ b, b ∉ as → LiI.putT H as (prs.map fun p => ((Sum.inl p.1 : Key), V.int p.2)) b = H b := fun b h1 => LiI.putT_off as _ H h1
  generalize hH1 : LiI.putT H as (prs.map fun p => ((Sum.inl p.1 : Key), V.int p.2)) = H1 at atP offP
  have kp : ∀ b u, H b = some u → H1 b = some u := fun b u e => by
    rw [offP b (fun z => by rw [new b z] at e; cases e)]
    exact e
  have I1 : Inv X pins σ H1 { s with heap := h', toks := tk } := by
    refine I.call' (ch := []) rfl ⟨fun b o q _ _ _ => hk b o q, fun b o q _ _ _ => ⟨o.slots, hk b o q⟩, fun b o q n _ => ?_, fun b o q _ => ⟨o, hk b o q⟩, fun b xs q => kp b _ q, fun b o u q => kp b _ q, fun b ps q => ⟨#[], by rw [kp b _ q]; simp⟩⟩ (fun b u q => ?_) I.bare fun b z => by simp at z
    · rw [offP b (off b o q)]
      exact n
    · by_cases hb : b ∈ as
      · obtain ⟨j, pk, e1, e2, e3⟩ := LiI.paired_ix atP hb
        rw [e3] at q
        cases q
        obtain ⟨en, f1, f2⟩ := hG.pairs j b e1
        obtain ⟨hj, rk, rv⟩ := ent j pk.1 pk.2 e2
        rw [Array.getElem?_eq_getElem hj] at f1
        have f3 := Option.some.inj f1
        rw [f3] at rk rv
        exact ⟨by show 2 ≤ sizeLine; decide, [en.key, en.val], .cons rk (.cons rv .nil), ⟨_, f2, rfl, _, rfl⟩⟩
      · rw [offP b hb] at q
        exact (I.hok b u q).stay (fun d v _ y => hk d v y) (fun d y => kp d _ y) fun d xs y => kp d _ y
  -- the list laid
  have I2 : Inv X pins σ (upd H1 h'.objs.size (.lst (as.map V.ref))) { s with heap := h'.push { cls := .type "list", data := .seq (as.map Value.ref).toArray }, toks := tk } :=
    I1.laid (t' := tk) (fun b u e => Heap.get?_push_of_some _ e) (Nat.le_refl _) ⟨by rw [List.length_map]; omega, as.map Value.ref, 0, LiI.vals_refs as, Heap.get?_push_size _ rfl⟩
  have nl : H1 h'.objs.size = none := I1.hok.fresh (Nat.le_refl _)
  have nl0 : H h'.objs.size = none := by
    cases e : H h'.objs.size with
    | none => rfl
    | some o =>
      rw [kp _ _ e] at nl
      cases nl
  have atQ : ∀ (j : Nat) (t : Addr), as[j]? = some t → ∃ p : Int × Int, prs[j]? = some p ∧ H1 t = some (.tup [.int p.1, .int p.2]) := fun j t hj => by
    obtain ⟨p, hp, e⟩ := L2.paired_get atP hj
    rw [List.getElem?_map] at hp
    obtain ⟨p0, hp0, e0⟩ := Option.map_eq_some_iff.mp hp
    rw [← e0] at e
    exact ⟨p0, hp0, e⟩
  have kup : ∀ t ∈ as, (upd H1 h'.objs.size (.lst (as.map V.ref))) t = H1 t := fun t ht => by
    obtain ⟨j, hj⟩ := List.getElem?_of_mem ht
    obtain ⟨p, _, e⟩ := atQ j t hj
    exact upd_ne (ne_of_none e nl)
  -- sorted
  have run := mt_sortPO (X := Cx.in1 X) pins _ σ _ (.ref h'.objs.size) [] (.ref h'.objs.size) [] (fun _ H' => Q (.ref h'.objs.size) H') (inv_in1 I2) rfl .nil ⟨h'.objs.size, as.map V.ref, pairAt H1, rfl, rfl, upd_same, fun y hy => ?_, fun zs hs1 hs2 => ?_⟩
  · refine wpAny_mono run (fun u s' hq => ?_) fun _ _ e => e
    obtain ⟨x, H3, I3, _, q3⟩ := hq
    exact ⟨.ref h'.objs.size, H3, inv_out I.ok I3, rfl, q3⟩
  · obtain ⟨t, ht, rfl⟩ := List.mem_map.mp hy
    obtain ⟨j, hj⟩ := List.getElem?_of_mem ht
    obtain ⟨p, _, e⟩ := atQ j t hj
    refine ⟨t, rfl, ?_⟩
    rw [kup t ht, pairAt_of e]
    exact e
  · have pm := hs2.perm
    have refs : ∀ z ∈ zs, ∃ t ∈ as, z = V.ref t := fun z hz => by
      obtain ⟨t, ht, e⟩ := List.mem_map.mp (pm.mem_iff.mp hz)
      exact ⟨t, ht, e.symm⟩
    have ez : (zs.map derefV).map V.ref = zs := by
      rw [List.map_map]
      conv => rhs; rw [← List.map_id zs]
      refine List.map_congr_left fun z hz => ?_
      obtain ⟨t, _, rfl⟩ := refs z hz
      rfl
    have ek : (as.map V.ref).map (pairAt H1) = prs := by
      refine List.ext_getElem? fun j => ?_
      rw [List.getElem?_map, List.getElem?_map]
      cases hj : as[j]? with
      | none =>
        have : prs[j]? = none := by
          rw [List.getElem?_eq_none_iff] at hj ⊢
          omega
        rw [this]
        rfl
      | some t =>
        obtain ⟨p, hp, e⟩ := atQ j t hj
        rw [hp]
        exact congrArg some (pairAt_of e)
    refine q _ h'.objs.size (zs.map derefV) (zs.map (pairAt H1)) (fun b o e => ?_) nl0 ?_ ?_ (by rw [ez]; exact upd_same) ?_
    · rw [upd_upd, upd_ne (ne_of_none e nl0)]
      exact kp b o e
    · rw [← ek]
      exact pm.map _
    · exact List.pairwise_map.mpr hs1
    · have h9 : ∀ t ∈ as, (upd (upd H1 h'.objs.size (.lst (as.map V.ref))) h'.objs.size (.lst zs)) t = H1 t := fun t ht => by
        obtain ⟨j, hj⟩ := List.getElem?_of_mem ht
        obtain ⟨p, _, e⟩ := atQ j t hj
        rw [upd_upd]
        exact upd_ne (ne_of_none e nl)
      generalize (upd (upd H1 h'.objs.size (.lst (as.map V.ref))) h'.objs.size (.lst zs)) = H9 at h9
      clear ez pm hs1 hs2
      induction zs with
      | nil => exact .nil
      | cons z zs ih =>
        refine .cons ?_ (ih fun y hy => refs y (List.mem_cons_of_mem _ hy))
        obtain ⟨t, ht, rfl⟩ := refs z List.mem_cons_self
        obtain ⟨j, hj⟩ := List.getElem?_of_mem ht
        obtain ⟨p, _, e⟩ := atQ j t hj
        show H9 t = _
        rw [h9 t ht, pairAt_of e]
        exact e
/-! ### a dict with text keys, taken as a mixed one -/
def esOf (kvs : List (Str × V)) : ME := kvs.map fun p => (.p p.1, .str p.1, p.2)
theorem dk_mix {pins : List (Addr × Obj)} {σ : L2.St} {H : Hp} {s : Shared} {a : Addr} {kvs : List (Str × V)} (I : Inv X pins σ H s) (h : H a = some (.dK (kvs.map fun p => (Sum.inr p.1, p.2)))) :
    Inv X pins σ (upd H a (.ext (mixH X.prog X.w a (esOf kvs)))) s := by
  obtain ⟨z, hs, vs, kv, o, ar, ep, ho, hx, hdt, hk, hp, hn⟩ := I.hok a _ h
  rw [List.length_map] at z
  obtain ⟨l0, pe⟩ := pairs_ent hp
  have lk : kvs.length = vs.length := by
    have := Paired.length kv
    rw [List.length_map] at this
    exact this
  -- the entries' own keys and values
  have ent : ∀ (i : Nat) (x : Str) (v : V), kvs[i]? = some (x, v) → ∃ (e : DictEntry) (t : Tok), ar.toList[i]? = some e ∧ e.key = .str x t ∧ e.hash = hashStr X.w x ∧ RelV v e.val := fun i x v hi => by
    obtain ⟨u, hu, ru⟩ := kv_get kv (i := i) (k := Sum.inr x) (v := v) (by rw [List.getElem?_map, hi]; rfl)
    obtain ⟨e, he, k1, k2⟩ := pe i _ u hu
    obtain ⟨t, et⟩ : ∃ t, e.key = .str x t := by
      rcases keyIs_shape k1 with ⟨j, t, e1, _⟩ | ⟨y, t, e1, e2⟩
      · cases e1
      · have := Sum.inr.inj e1
        subst this
        exact ⟨t, e2⟩
    obtain ⟨k', h1, h2⟩ := hk e (Array.mem_toList_iff.mp (List.mem_of_getElem? he))
    have ek : k' = Sum.inr x := (mixKind X.prog X.w).inj e.key _ _ h1 k1
    subst ek
    exact ⟨e, t, he, et, h2, by rw [k2]; exact ru⟩
  obtain ⟨xs, hxl, hxs⟩ := list_choose kvs.length (P := fun j (x : Spot × Value × Value) => ∃ (y : Str) (v : V) (e : DictEntry), kvs[j]? = some (y, v) ∧ ar.toList[j]? = some e ∧ e = mEnt X.prog X.w x ∧ x.1 = .p y ∧ RelV (.str y) x.2.1 ∧ RelV v x.2.2) fun j hj => by
    obtain ⟨e, t, h1, h2, h3, h4⟩ := ent j kvs[j].1 kvs[j].2 (List.getElem?_eq_getElem hj)
    refine ⟨(.p kvs[j].1, e.key, e.val), kvs[j].1, kvs[j].2, e, List.getElem?_eq_getElem hj, h1, ?_, rfl, ⟨t, h2⟩, h4⟩
    obtain ⟨eh, ek, ev⟩ := e
    have h3 : eh = hashStr X.w kvs[j].1 := h3
    subst h3
    rfl
  have rel : MRel (esOf kvs) xs := by
    have all : ∀ (kvs : List (Str × V)) (xs : MX), xs.length = kvs.length → (∀ (j : Nat) (x : Spot × Value × Value), xs[j]? = some x → ∃ (y : Str) (v : V), kvs[j]? = some (y, v) ∧ x.1 = .p y ∧ RelV (.str y) x.2.1 ∧ RelV v x.2.2) → MRel (esOf kvs) xs := by
      intro kvs
      induction kvs with
      | nil =>
        intro xs hl _
        have : xs = [] := List.eq_nil_of_length_eq_zero hl
        subst this
        exact .nil
      | cons p kvs ih =>
        intro xs hl hx
        cases xs with
        | nil => simp at hl
        | cons x xs =>
          obtain ⟨y, v, h1, h2, h3, h4⟩ := hx 0 x rfl
          have e : p = (y, v) := Option.some.inj h1
          subst e
          exact .cons ⟨h2.symm, h3, h4⟩ (ih xs (by simpa using hl) fun j x' hj => by simpa using hx (j + 1) x' (by simpa using hj))
    exact all kvs xs hxl fun j x hj => let ⟨y, v, e, h1, _, _, h2, h3, h4⟩ := hxs j x hj; ⟨y, v, h1, h2, h3, h4⟩
  have har : ar.toList = xs.map (mEnt X.prog X.w) := by
    refine List.ext_getElem? fun j => ?_
    rw [List.getElem?_map]
    cases hj : xs[j]? with
    | none =>
      have : ar.toList[j]? = none := by
        rw [List.getElem?_eq_none_iff] at hj ⊢
        omega
      rw [this]
      rfl
    | some x =>
      obtain ⟨y, v, e, _, h2, h3, _⟩ := hxs j x hj
      rw [h2, h3]
      rfl
  have nd : (xs.map (·.1)).Nodup := by
    have e1 : vs.map (·.1) = kvs.map fun p => (Sum.inr p.1 : Key) := by
      have := KV.keys kv
      rw [← this, List.map_map]
      rfl
    rw [e1] at hn
    have e2 : xs.map (·.1) = kvs.map fun p => Spot.p p.1 := by
      refine List.ext_getElem? fun j => ?_
      rw [List.getElem?_map, List.getElem?_map]
      cases hj : xs[j]? with
      | none =>
        have : kvs[j]? = none := by
          rw [List.getElem?_eq_none_iff] at hj ⊢
          omega
        rw [this]
        rfl
      | some x =>
        obtain ⟨y, v, e, h1, _, _, h2, _⟩ := hxs j x hj
        rw [h1]
        exact congrArg some h2
    rw [e2]
    have n1 : (kvs.map (·.1)).Nodup := by
      have : (kvs.map fun p => (Sum.inr p.1 : Key)) = (kvs.map (·.1)).map fun x => (Sum.inr x : Key) := by rw [List.map_map]; rfl
      rw [this] at hn
      exact List.Pairwise.imp (fun h e => h (congrArg Sum.inr e)) (List.pairwise_map.mp hn)
    have : (kvs.map fun p => Spot.p p.1) = (kvs.map (·.1)).map Spot.p := by rw [List.map_map]; rfl
    rw [this]
    exact List.pairwise_map.mpr (List.Pairwise.imp (fun h e => h (Spot.p.inj e)) n1)
  exact d_write (h' := s.heap) (t' := s.toks) I (by rw [h]; exact True.intro) ⟨rfl, fun _ _ => rfl⟩ ⟨o, ho⟩ (mix_obj (by unfold esOf; rw [List.length_map]; exact z) hs rel ⟨o, ar, ep, ho, hx, hdt, har, nd⟩)
/-- the value, a dict with text keys, taken as a mixed one -/
def tMix (P : Program) (w : World) (te : TE) : TE := fun σ H Q => te σ H fun x H1 => ∃ a kvs, x = .ref a ∧ H1 a = some (.dK (kvs.map fun p => (Sum.inr p.1, p.2))) ∧ Q x (upd H1 a (.ext (mixH P w a (esOf kvs))))
theorem pe_mix {te : TE} (he : PE X e te) : PE X e (tMix X.prog X.w te) := by
  refine ⟨fun pins s σ H Q I h => thn (he.run pins s σ H _ I h) fun u s1 ⟨x, H1, I1, rx, a, kvs, ex, hd, q⟩ => ⟨x, _, dk_mix I1 hd, rx, q⟩⟩
end
end K33M


set_option Elab.async false
set_option linter.all false
set_option maxRecDepth 100000
set_option maxHeartbeats 4000000
/-! The text by places, the defs' data, the facts. Printed by gen_base.py. -/
namespace K33
open PySem PySem.Spec PyProof.Rows L2
def topS (i : Nat) : Stmt := PySem.Challenge.pw_crywalks_k33_whole_states_by_steps.main.body.getD i (.Pass ⟨0, 0, 0, 0⟩)
abbrev s_is_name : Stmt := topS 14
abbrev s_is_count : Stmt := topS 15
abbrev s_is_state : Stmt := topS 16
abbrev s_is_length : Stmt := topS 17
abbrev s_are_hearers : Stmt := topS 18
abbrev s_persons_read : Stmt := topS 19
abbrev s_are_ends : Stmt := topS 20
abbrev s_want_tie : Stmt := topS 21
abbrev s_ties_read : Stmt := topS 22
abbrev s_want_place : Stmt := topS 27
abbrev s_spot_at : Stmt := topS 28
abbrev s_step_turn : Stmt := topS 29
abbrev s_gap_turn : Stmt := topS 30
abbrev s_turn_along : Stmt := topS 31
abbrev s_places_of_knots : Stmt := topS 33
abbrev s_put_least : Stmt := topS 34
abbrev s_led_on : Stmt := topS 35
abbrev s_least_of : Stmt := topS 36
abbrev s_want_spot : Stmt := topS 42
abbrev s_want_count : Stmt := topS 43
abbrev s_knots_beside : Stmt := topS 44
abbrev s_ahead_of : Stmt := topS 46
abbrev s_state_behind : Stmt := topS 47
abbrev s_law_pot : Stmt := topS 49
abbrev s_law_take : Stmt := topS 50
abbrev s_law_name : Stmt := topS 51
abbrev s_law_length : Stmt := topS 52
abbrev s_law_hearers : Stmt := topS 53
abbrev s_law_persons : Stmt := topS 54
abbrev s_law_tie : Stmt := topS 55
abbrev s_law_web : Stmt := topS 56
abbrev s_law_rounds : Stmt := topS 57
abbrev s_law_spot : Stmt := topS 58
abbrev s_law_stood : Stmt := topS 59
abbrev s_law_next_to : Stmt := topS 60
abbrev s_law_set : Stmt := topS 61
abbrev s_law_behind : Stmt := topS 62
abbrev s_law_made : Stmt := topS 63
abbrev s_law_spots : Stmt := topS 64
abbrev s_law_line : Stmt := topS 65
abbrev s_law_far : Stmt := topS 66
abbrev s_law_right : Stmt := topS 67
abbrev s_law : Stmt := topS 68
abbrev s_Web_init : Stmt := inClass (topS 23) 0
abbrev s_Web_rounds : Stmt := inClass (topS 23) 1
abbrev s_Web_persons : Stmt := inClass (topS 23) 2
abbrev s_Web_ties : Stmt := inClass (topS 23) 3
abbrev s_Web_has_person : Stmt := inClass (topS 23) 4
abbrev s_Web_has_tie : Stmt := inClass (topS 23) 5
abbrev s_Web_has_spot : Stmt := inClass (topS 23) 6
abbrev s_Web_tie_of : Stmt := inClass (topS 23) 7
abbrev s_Web_state : Stmt := inClass (topS 23) 8
abbrev s_Web_ends : Stmt := inClass (topS 23) 9
abbrev s_Web_length : Stmt := inClass (topS 23) 10
abbrev s_Web_hearers : Stmt := inClass (topS 23) 11
abbrev s_Web_told_persons : Stmt := inClass (topS 23) 15
abbrev s_Web_told_ties : Stmt := inClass (topS 23) 16
abbrev s_Web_eq : Stmt := inClass (topS 23) 17
abbrev s_Knots_init : Stmt := inClass (topS 37) 0
abbrev s_Knots_tie_up : Stmt := inClass (topS 37) 1
abbrev s_Knots_number_of : Stmt := inClass (topS 37) 3
abbrev s_Knots_search : Stmt := inClass (topS 37) 6
abbrev s_Knots_rises : Stmt := inClass (topS 37) 7
abbrev s_Knots_power : Stmt := inClass (topS 37) 8
abbrev s_Knots_does_fit : Stmt := inClass (topS 37) 11
abbrev s_Knots_most_rise : Stmt := inClass (topS 37) 12
abbrev s_Knots_sought_rise : Stmt := inClass (topS 37) 13
abbrev s_Ahead_init : Stmt := inClass (topS 45) 0
abbrev s_Ahead_ways : Stmt := inClass (topS 45) 1
abbrev s_Ahead_count : Stmt := inClass (topS 45) 2
abbrev s_Ahead_is_set_by : Stmt := inClass (topS 45) 4
abbrev s_Ahead_state : Stmt := inClass (topS 45) 5
theorem sc_is_name : FnScope ["thing", "sign"] ["thing"] (defScope s_is_name) := ⟨rfl, rfl, rfl, by decide +kernel, rfl, by decide +kernel, by decide +kernel⟩
theorem sc_is_count : FnScope ["thing"] ["thing"] (defScope s_is_count) := ⟨rfl, rfl, rfl, by decide +kernel, rfl, by decide +kernel, by decide +kernel⟩
theorem sc_is_state : FnScope ["thing"] ["thing"] (defScope s_is_state) := ⟨rfl, rfl, rfl, by decide +kernel, rfl, by decide +kernel, by decide +kernel⟩
theorem sc_is_length : FnScope ["thing", "rounds"] ["thing", "rounds"] (defScope s_is_length) := ⟨rfl, rfl, rfl, by decide +kernel, rfl, by decide +kernel, by decide +kernel⟩
theorem sc_are_hearers : FnScope ["thing", "length", "ahead", "pair", "place", "state"] ["thing", "length"] (defScope s_are_hearers) := ⟨rfl, rfl, rfl, by decide +kernel, rfl, by decide +kernel, by decide +kernel⟩
theorem sc_persons_read : FnScope ["thing", "found", "number", "person", "name", "state"] ["thing"] (defScope s_persons_read) := ⟨rfl, rfl, rfl, by decide +kernel, rfl, by decide +kernel, by decide +kernel⟩
theorem sc_are_ends : FnScope ["persons", "one", "other"] ["persons", "one", "other"] (defScope s_are_ends) := ⟨rfl, rfl, rfl, by decide +kernel, rfl, by decide +kernel, by decide +kernel⟩
theorem sc_want_tie : FnScope ["persons", "ties", "number", "thing", "rounds", "name", "one", "other", "length", "hearers"] ["persons", "ties", "number", "thing", "rounds"] (defScope s_want_tie) := ⟨rfl, rfl, rfl, by decide +kernel, rfl, by decide +kernel, by decide +kernel⟩
theorem sc_ties_read : FnScope ["persons", "thing", "rounds", "found", "number", "tie"] ["persons", "thing", "rounds"] (defScope s_ties_read) := ⟨rfl, rfl, rfl, by decide +kernel, rfl, by decide +kernel, by decide +kernel⟩
theorem sc_want_place : FnScope ["web", "tie", "place", "length"] ["web", "tie", "place"] (defScope s_want_place) := ⟨rfl, rfl, rfl, by decide +kernel, rfl, by decide +kernel, by decide +kernel⟩
theorem sc_spot_at : FnScope ["web", "tie", "place", "one", "other"] ["web", "tie", "place"] (defScope s_spot_at) := ⟨rfl, rfl, rfl, by decide +kernel, rfl, by decide +kernel, by decide +kernel⟩
theorem sc_step_turn : FnScope ["rounds", "here", "there"] ["rounds", "here", "there"] (defScope s_step_turn) := ⟨rfl, rfl, rfl, by decide +kernel, rfl, by decide +kernel, by decide +kernel⟩
theorem sc_gap_turn : FnScope ["web", "tie", "start", "goal", "here", "there", "place"] ["web", "tie", "start", "goal"] (defScope s_gap_turn) := ⟨rfl, rfl, rfl, by decide +kernel, rfl, by decide +kernel, by decide +kernel⟩
theorem sc_turn_along : FnScope ["web", "tie", "start", "goal", "low", "high", "places", "found", "place", "state", "one", "other"] ["web", "tie", "start", "goal"] (defScope s_turn_along) := ⟨rfl, rfl, rfl, by decide +kernel, rfl, by decide +kernel, by decide +kernel⟩
theorem sc_places_of_knots : FnScope ["web", "tie", "place", "state"] ["web", "tie"] (defScope s_places_of_knots) := ⟨rfl, rfl, rfl, by decide +kernel, rfl, by decide +kernel, by decide +kernel⟩
theorem sc_put_least : FnScope ["lengths", "key", "length"] ["lengths", "key", "length"] (defScope s_put_least) := ⟨rfl, rfl, rfl, by decide +kernel, rfl, by decide +kernel, by decide +kernel⟩
theorem sc_led_on : FnScope ["row", "rows", "found", "middle", "length", "goal", "more"] ["row", "rows"] (defScope s_led_on) := ⟨rfl, rfl, rfl, by decide +kernel, rfl, by decide +kernel, by decide +kernel⟩
theorem sc_least_of : FnScope ["row"] ["row"] (defScope s_least_of) := ⟨rfl, rfl, rfl, by decide +kernel, rfl, by decide +kernel, by decide +kernel⟩
theorem sc_want_spot : FnScope ["web", "spot"] ["web", "spot"] (defScope s_want_spot) := ⟨rfl, rfl, rfl, by decide +kernel, rfl, by decide +kernel, by decide +kernel⟩
theorem sc_want_count : FnScope ["thing"] ["thing"] (defScope s_want_count) := ⟨rfl, rfl, rfl, by decide +kernel, rfl, by decide +kernel, by decide +kernel⟩
theorem sc_knots_beside : FnScope ["web", "tie", "place", "places", "below", "above", "found", "one", "spot"] ["web", "tie", "place"] (defScope s_knots_beside) := ⟨rfl, rfl, rfl, by decide +kernel, rfl, by decide +kernel, by decide +kernel⟩
theorem sc_ahead_of : FnScope ["web"] ["web"] (defScope s_ahead_of) := ⟨rfl, rfl, rfl, by decide +kernel, rfl, by decide +kernel, by decide +kernel⟩
theorem sc_state_behind : FnScope ["web", "spot", "beats"] ["web", "spot", "beats"] (defScope s_state_behind) := ⟨rfl, rfl, rfl, by decide +kernel, rfl, by decide +kernel, by decide +kernel⟩
theorem sc_law_pot : FnScope ["_law_script", "_law_k", "_law_cell"] ["_law_script", "_law_k"] (defScope s_law_pot) := ⟨rfl, rfl, rfl, by decide +kernel, rfl, by decide +kernel, by decide +kernel⟩
theorem sc_law_take : FnScope ["_law_pot_here", "_law_many", "_law_digit"] ["_law_pot_here", "_law_many"] (defScope s_law_take) := ⟨rfl, rfl, rfl, by decide +kernel, rfl, by decide +kernel, by decide +kernel⟩
theorem sc_law_name : FnScope ["_law_pot_here", "_law_taken", "_law_letters", "_law_name_here", "_law_k", "_law_letter", "_law_one"] ["_law_pot_here", "_law_taken"] (defScope s_law_name) := ⟨rfl, rfl, rfl, by decide +kernel, rfl, by decide +kernel, by decide +kernel⟩
theorem sc_law_length : FnScope ["_law_pot_here", "_law_way", "_law_far_here", "_law_some"] ["_law_pot_here", "_law_way"] (defScope s_law_length) := ⟨rfl, rfl, rfl, by decide +kernel, rfl, by decide +kernel, by decide +kernel⟩
theorem sc_law_hearers : FnScope ["_law_pot_here", "_law_length_here", "_law_many", "_law_found", "_law_way", "_law_k", "_law_place", "_law_onward"] ["_law_pot_here", "_law_length_here", "_law_many"] (defScope s_law_hearers) := ⟨rfl, rfl, rfl, by decide +kernel, rfl, by decide +kernel, by decide +kernel⟩
theorem sc_law_persons : FnScope ["_law_pot_here", "_law_many", "_law_names", "_law_k", "_law_name_here"] ["_law_pot_here", "_law_many"] (defScope s_law_persons) := ⟨rfl, rfl, rfl, by decide +kernel, rfl, by decide +kernel, by decide +kernel⟩
theorem sc_law_tie : FnScope ["_law_pot_here", "_law_persons_here", "_law_taken", "_law_way", "_law_left", "_law_one", "_law_other", "_law_length_here"] ["_law_pot_here", "_law_persons_here", "_law_taken", "_law_way", "_law_left"] (defScope s_law_tie) := ⟨rfl, rfl, rfl, by decide +kernel, rfl, by decide +kernel, by decide +kernel⟩
theorem sc_law_web : FnScope ["_law_pot_here", "_law_most_persons", "_law_most_ties", "_law_way", "_law_told", "_law_persons_here", "_law_ties", "_law_left", "_law_k", "_law_taken", "_law_name_here", "_law_state", "_law_tie_here"] ["_law_pot_here", "_law_most_persons", "_law_most_ties", "_law_way", "_law_told"] (defScope s_law_web) := ⟨rfl, rfl, rfl, by decide +kernel, rfl, by decide +kernel, by decide +kernel⟩
theorem sc_law_rounds : FnScope ["_law_pot_here", "_law_most_persons", "_law_most_ties", "_law_persons_here", "_law_ties", "_law_name_here", "_law_one", "_law_other", "_law_length_here", "_law_hearers_here"] ["_law_pot_here", "_law_most_persons", "_law_most_ties"] (defScope s_law_rounds) := ⟨rfl, rfl, rfl, by decide +kernel, rfl, by decide +kernel, by decide +kernel⟩
theorem sc_law_spot : FnScope ["_law_tie_here", "_law_place", "_law_name_here", "_law_one", "_law_other", "_law_length_here", "_law_hearers_here"] ["_law_tie_here", "_law_place"] (defScope s_law_spot) := ⟨rfl, rfl, rfl, by decide +kernel, rfl, by decide +kernel, by decide +kernel⟩
theorem sc_law_stood : FnScope ["_law_spec", "_law_persons_here", "_law_ties", "_law_found", "_law_tie_here", "_law_told", "_law_place"] ["_law_spec"] (defScope s_law_stood) := ⟨rfl, rfl, rfl, by decide +kernel, rfl, by decide +kernel, by decide +kernel⟩
theorem sc_law_next_to : FnScope ["_law_spec", "_law_persons_here", "_law_ties", "_law_found", "_law_tie_here", "_law_place", "_law_here", "_law_there", "_law_spot_here"] ["_law_spec"] (defScope s_law_next_to) := ⟨rfl, rfl, rfl, by decide +kernel, rfl, by decide +kernel, by decide +kernel⟩
theorem sc_law_set : FnScope ["_law_stood_here", "_law_beside", "_law_is_rounds", "_law_found", "_law_spot_here", "_law_state", "_law_near", "_law_one"] ["_law_stood_here", "_law_beside", "_law_is_rounds"] (defScope s_law_set) := ⟨rfl, rfl, rfl, by decide +kernel, rfl, by decide +kernel, by decide +kernel⟩
theorem sc_law_behind : FnScope ["_law_stood_here", "_law_beside", "_law_is_rounds", "_law_risen", "_law_found", "_law_spot_here", "_law_state"] ["_law_stood_here", "_law_beside", "_law_is_rounds"] (defScope s_law_behind) := ⟨rfl, rfl, rfl, by decide +kernel, rfl, by decide +kernel, by decide +kernel⟩
theorem sc_law_made : FnScope ["_law_spec", "_law_is_rounds", "_law_row"] ["_law_spec", "_law_is_rounds"] (defScope s_law_made) := ⟨rfl, rfl, rfl, by decide +kernel, rfl, by decide +kernel, by decide +kernel⟩
theorem sc_law_spots : FnScope ["_law_pot_here", "_law_spec", "_law_amid", "_law_name_here", "_law_one", "_law_other", "_law_length_here", "_law_hearers_here", "_law_place", "_law_state", "_law_k"] ["_law_pot_here", "_law_spec"] (defScope s_law_spots) := ⟨rfl, rfl, rfl, by decide +kernel, rfl, by decide +kernel, by decide +kernel⟩
theorem sc_law_line : FnScope ["_law_spec", "_law_is_rounds", "_law_beside", "_law_found", "_law_k"] ["_law_spec", "_law_is_rounds"] (defScope s_law_line) := ⟨rfl, rfl, rfl, by decide +kernel, rfl, by decide +kernel, by decide +kernel⟩
theorem sc_law_far : FnScope ["_law_pot_here", "_law_line_here", "_law_where", "_law_busy", "_law_far_here"] ["_law_pot_here", "_law_line_here", "_law_where"] (defScope s_law_far) := ⟨rfl, rfl, rfl, by decide +kernel, rfl, by decide +kernel, by decide +kernel⟩
theorem sc_law_right : FnScope ["_law_pot_here", "_law_spec", "_law_is_rounds", "_law_net", "_law_line_here", "_law_spots_here", "_law_turn", "_law_where", "_law_far_here", "_law_told"] ["_law_pot_here", "_law_spec", "_law_is_rounds"] (defScope s_law_right) := ⟨rfl, rfl, rfl, by decide +kernel, rfl, by decide +kernel, by decide +kernel⟩
theorem sc_law : FnScope ["_law_script", "_law_k", "_law_pot_here", "_law_is_rounds", "_law_spec"] ["_law_script"] (defScope s_law) := ⟨rfl, rfl, rfl, by decide +kernel, rfl, by decide +kernel, by decide +kernel⟩
theorem sc_Web_init : FnScope ["self", "persons", "ties", "rounds"] ["self", "persons", "ties", "rounds"] (defScope s_Web_init) := ⟨rfl, rfl, rfl, by decide +kernel, rfl, by decide +kernel, by decide +kernel⟩
theorem sc_Web_rounds : FnScope ["self"] ["self"] (defScope s_Web_rounds) := ⟨rfl, rfl, rfl, by decide +kernel, rfl, by decide +kernel, by decide +kernel⟩
theorem sc_Web_persons : FnScope ["self"] ["self"] (defScope s_Web_persons) := ⟨rfl, rfl, rfl, by decide +kernel, rfl, by decide +kernel, by decide +kernel⟩
theorem sc_Web_ties : FnScope ["self"] ["self"] (defScope s_Web_ties) := ⟨rfl, rfl, rfl, by decide +kernel, rfl, by decide +kernel, by decide +kernel⟩
theorem sc_Web_has_person : FnScope ["self", "thing"] ["self", "thing"] (defScope s_Web_has_person) := ⟨rfl, rfl, rfl, by decide +kernel, rfl, by decide +kernel, by decide +kernel⟩
theorem sc_Web_has_tie : FnScope ["self", "thing"] ["self", "thing"] (defScope s_Web_has_tie) := ⟨rfl, rfl, rfl, by decide +kernel, rfl, by decide +kernel, by decide +kernel⟩
theorem sc_Web_has_spot : FnScope ["self", "thing", "tie", "place"] ["self", "thing"] (defScope s_Web_has_spot) := ⟨rfl, rfl, rfl, by decide +kernel, rfl, by decide +kernel, by decide +kernel⟩
theorem sc_Web_tie_of : FnScope ["self", "tie"] ["self", "tie"] (defScope s_Web_tie_of) := ⟨rfl, rfl, rfl, by decide +kernel, rfl, by decide +kernel, by decide +kernel⟩
theorem sc_Web_state : FnScope ["self", "spot", "tie", "place"] ["self", "spot"] (defScope s_Web_state) := ⟨rfl, rfl, rfl, by decide +kernel, rfl, by decide +kernel, by decide +kernel⟩
theorem sc_Web_ends : FnScope ["self", "tie"] ["self", "tie"] (defScope s_Web_ends) := ⟨rfl, rfl, rfl, by decide +kernel, rfl, by decide +kernel, by decide +kernel⟩
theorem sc_Web_length : FnScope ["self", "tie"] ["self", "tie"] (defScope s_Web_length) := ⟨rfl, rfl, rfl, by decide +kernel, rfl, by decide +kernel, by decide +kernel⟩
theorem sc_Web_hearers : FnScope ["self", "tie"] ["self", "tie"] (defScope s_Web_hearers) := ⟨rfl, rfl, rfl, by decide +kernel, rfl, by decide +kernel, by decide +kernel⟩
theorem sc_Web_told_persons : FnScope ["self"] ["self"] (defScope s_Web_told_persons) := ⟨rfl, rfl, rfl, by decide +kernel, rfl, by decide +kernel, by decide +kernel⟩
theorem sc_Web_told_ties : FnScope ["self", "name", "tie"] ["self"] (defScope s_Web_told_ties) := ⟨rfl, rfl, rfl, by decide +kernel, rfl, by decide +kernel, by decide +kernel⟩
theorem sc_Web_eq : FnScope ["self", "other"] ["self", "other"] (defScope s_Web_eq) := ⟨rfl, rfl, rfl, by decide +kernel, rfl, by decide +kernel, by decide +kernel⟩
theorem sc_Knots_init : FnScope ["self", "web", "tie", "place", "state", "number", "spot"] ["self", "web"] (defScope s_Knots_init) := ⟨rfl, rfl, rfl, by decide +kernel, rfl, by decide +kernel, by decide +kernel⟩
theorem sc_Knots_tie_up : FnScope ["self", "web", "tie", "places", "start", "goal", "one", "other", "turn", "place"] ["self", "web", "tie"] (defScope s_Knots_tie_up) := ⟨rfl, rfl, rfl, by decide +kernel, rfl, by decide +kernel, by decide +kernel⟩
theorem sc_Knots_number_of : FnScope ["self", "spot", "part"] ["self", "spot"] (defScope s_Knots_number_of) := ⟨rfl, rfl, rfl, by decide +kernel, rfl, by decide +kernel, by decide +kernel⟩
theorem sc_Knots_search : FnScope ["self", "number", "found", "last", "waiting", "here", "piece", "other", "tie", "start", "goal", "turn", "there", "is_near"] ["self", "number"] (defScope s_Knots_search) := ⟨rfl, rfl, rfl, by decide +kernel, rfl, by decide +kernel, by decide +kernel⟩
theorem sc_Knots_rises : FnScope ["self", "number", "found", "last", "knot", "total", "length"] ["self", "number"] (defScope s_Knots_rises) := ⟨rfl, rfl, rfl, by decide +kernel, rfl, by decide +kernel, by decide +kernel⟩
theorem sc_Knots_power : FnScope ["self", "at", "rows", "number", "row"] ["self", "at"] (defScope s_Knots_power) := ⟨rfl, rfl, rfl, by decide +kernel, rfl, by decide +kernel, by decide +kernel⟩
theorem sc_Knots_does_fit : FnScope ["self", "row", "beats", "length"] ["self", "row", "beats"] (defScope s_Knots_does_fit) := ⟨rfl, rfl, rfl, by decide +kernel, rfl, by decide +kernel, by decide +kernel⟩
theorem sc_Knots_most_rise : FnScope ["self", "number", "beats"] ["self", "number", "beats"] (defScope s_Knots_most_rise) := ⟨rfl, rfl, rfl, by decide +kernel, rfl, by decide +kernel, by decide +kernel⟩
theorem sc_Knots_sought_rise : FnScope ["self", "number", "beats", "at", "found", "row", "later"] ["self", "number", "beats"] (defScope s_Knots_sought_rise) := ⟨rfl, rfl, rfl, by decide +kernel, rfl, by decide +kernel, by decide +kernel⟩
theorem sc_Ahead_init : FnScope ["self", "web"] ["self", "web"] (defScope s_Ahead_init) := ⟨rfl, rfl, rfl, by decide +kernel, rfl, by decide +kernel, by decide +kernel⟩
theorem sc_Ahead_ways : FnScope ["self", "spot", "number", "tie", "place", "one", "far", "more"] ["self", "spot"] (defScope s_Ahead_ways) := ⟨rfl, rfl, rfl, by decide +kernel, rfl, by decide +kernel, by decide +kernel⟩
theorem sc_Ahead_count : FnScope ["self", "spot", "beats", "found", "number", "far", "more"] ["self", "spot", "beats"] (defScope s_Ahead_count) := ⟨rfl, rfl, rfl, by decide +kernel, rfl, by decide +kernel, by decide +kernel⟩
theorem sc_Ahead_is_set_by : FnScope ["self", "spot", "beat"] ["self", "spot", "beat"] (defScope s_Ahead_is_set_by) := ⟨rfl, rfl, rfl, by decide +kernel, rfl, by decide +kernel, by decide +kernel⟩
theorem sc_Ahead_state : FnScope ["self", "spot", "beats", "own"] ["self", "spot", "beats"] (defScope s_Ahead_state) := ⟨rfl, rfl, rfl, by decide +kernel, rfl, by decide +kernel, by decide +kernel⟩
def d_is_name : He.DefD := ⟨("is_name", none), "is_name", "is_name", defArgs s_is_name, defBody s_is_name, defScope s_is_name, [], []⟩
def d_is_count : He.DefD := ⟨("is_count", none), "is_count", "is_count", defArgs s_is_count, defBody s_is_count, defScope s_is_count, [], []⟩
def d_is_state : He.DefD := ⟨("is_state", none), "is_state", "is_state", defArgs s_is_state, defBody s_is_state, defScope s_is_state, [], []⟩
def d_is_length : He.DefD := ⟨("is_length", none), "is_length", "is_length", defArgs s_is_length, defBody s_is_length, defScope s_is_length, [], []⟩
def d_are_hearers : He.DefD := ⟨("are_hearers", none), "are_hearers", "are_hearers", defArgs s_are_hearers, defBody s_are_hearers, defScope s_are_hearers, [], []⟩
def d_persons_read : He.DefD := ⟨("persons_read", none), "persons_read", "persons_read", defArgs s_persons_read, defBody s_persons_read, defScope s_persons_read, [], []⟩
def d_are_ends : He.DefD := ⟨("are_ends", none), "are_ends", "are_ends", defArgs s_are_ends, defBody s_are_ends, defScope s_are_ends, [], []⟩
def d_want_tie : He.DefD := ⟨("want_tie", none), "want_tie", "want_tie", defArgs s_want_tie, defBody s_want_tie, defScope s_want_tie, [], []⟩
def d_ties_read : He.DefD := ⟨("ties_read", none), "ties_read", "ties_read", defArgs s_ties_read, defBody s_ties_read, defScope s_ties_read, [], []⟩
def d_want_place : He.DefD := ⟨("want_place", none), "want_place", "want_place", defArgs s_want_place, defBody s_want_place, defScope s_want_place, [], []⟩
def d_spot_at : He.DefD := ⟨("spot_at", none), "spot_at", "spot_at", defArgs s_spot_at, defBody s_spot_at, defScope s_spot_at, [], []⟩
def d_step_turn : He.DefD := ⟨("step_turn", none), "step_turn", "step_turn", defArgs s_step_turn, defBody s_step_turn, defScope s_step_turn, [], []⟩
def d_gap_turn : He.DefD := ⟨("gap_turn", none), "gap_turn", "gap_turn", defArgs s_gap_turn, defBody s_gap_turn, defScope s_gap_turn, [], []⟩
def d_turn_along : He.DefD := ⟨("turn_along", none), "turn_along", "turn_along", defArgs s_turn_along, defBody s_turn_along, defScope s_turn_along, [], []⟩
def d_places_of_knots : He.DefD := ⟨("places_of_knots", none), "places_of_knots", "places_of_knots", defArgs s_places_of_knots, defBody s_places_of_knots, defScope s_places_of_knots, [], []⟩
def d_put_least : He.DefD := ⟨("put_least", none), "put_least", "put_least", defArgs s_put_least, defBody s_put_least, defScope s_put_least, [], []⟩
def d_led_on : He.DefD := ⟨("led_on", none), "led_on", "led_on", defArgs s_led_on, defBody s_led_on, defScope s_led_on, [], []⟩
def d_least_of : He.DefD := ⟨("least_of", none), "least_of", "least_of", defArgs s_least_of, defBody s_least_of, defScope s_least_of, [], []⟩
def d_want_spot : He.DefD := ⟨("want_spot", none), "want_spot", "want_spot", defArgs s_want_spot, defBody s_want_spot, defScope s_want_spot, [], []⟩
def d_want_count : He.DefD := ⟨("want_count", none), "want_count", "want_count", defArgs s_want_count, defBody s_want_count, defScope s_want_count, [], []⟩
def d_knots_beside : He.DefD := ⟨("knots_beside", none), "knots_beside", "knots_beside", defArgs s_knots_beside, defBody s_knots_beside, defScope s_knots_beside, [], []⟩
def d_ahead_of : He.DefD := ⟨("ahead_of", none), "ahead_of", "ahead_of", defArgs s_ahead_of, defBody s_ahead_of, defScope s_ahead_of, [], []⟩
def d_state_behind : He.DefD := ⟨("state_behind", none), "state_behind", "state_behind", defArgs s_state_behind, defBody s_state_behind, defScope s_state_behind, [], []⟩
def d_law_pot : He.DefD := ⟨("_law_pot", none), "_law_pot", "_law_pot", defArgs s_law_pot, defBody s_law_pot, defScope s_law_pot, [], []⟩
def d_law_take : He.DefD := ⟨("_law_take", none), "_law_take", "_law_take", defArgs s_law_take, defBody s_law_take, defScope s_law_take, [], []⟩
def d_law_name : He.DefD := ⟨("_law_name", none), "_law_name", "_law_name", defArgs s_law_name, defBody s_law_name, defScope s_law_name, [], []⟩
def d_law_length : He.DefD := ⟨("_law_length", none), "_law_length", "_law_length", defArgs s_law_length, defBody s_law_length, defScope s_law_length, [], []⟩
def d_law_hearers : He.DefD := ⟨("_law_hearers", none), "_law_hearers", "_law_hearers", defArgs s_law_hearers, defBody s_law_hearers, defScope s_law_hearers, [], []⟩
def d_law_persons : He.DefD := ⟨("_law_persons", none), "_law_persons", "_law_persons", defArgs s_law_persons, defBody s_law_persons, defScope s_law_persons, [], []⟩
def d_law_tie : He.DefD := ⟨("_law_tie", none), "_law_tie", "_law_tie", defArgs s_law_tie, defBody s_law_tie, defScope s_law_tie, [], []⟩
def d_law_web : He.DefD := ⟨("_law_web", none), "_law_web", "_law_web", defArgs s_law_web, defBody s_law_web, defScope s_law_web, [], []⟩
def d_law_rounds : He.DefD := ⟨("_law_rounds", none), "_law_rounds", "_law_rounds", defArgs s_law_rounds, defBody s_law_rounds, defScope s_law_rounds, [], []⟩
def d_law_spot : He.DefD := ⟨("_law_spot", none), "_law_spot", "_law_spot", defArgs s_law_spot, defBody s_law_spot, defScope s_law_spot, [], []⟩
def d_law_stood : He.DefD := ⟨("_law_stood", none), "_law_stood", "_law_stood", defArgs s_law_stood, defBody s_law_stood, defScope s_law_stood, [], []⟩
def d_law_next_to : He.DefD := ⟨("_law_next_to", none), "_law_next_to", "_law_next_to", defArgs s_law_next_to, defBody s_law_next_to, defScope s_law_next_to, [], []⟩
def d_law_set : He.DefD := ⟨("_law_set", none), "_law_set", "_law_set", defArgs s_law_set, defBody s_law_set, defScope s_law_set, [], []⟩
def d_law_behind : He.DefD := ⟨("_law_behind", none), "_law_behind", "_law_behind", defArgs s_law_behind, defBody s_law_behind, defScope s_law_behind, [], []⟩
def d_law_made : He.DefD := ⟨("_law_made", none), "_law_made", "_law_made", defArgs s_law_made, defBody s_law_made, defScope s_law_made, [], []⟩
def d_law_spots : He.DefD := ⟨("_law_spots", none), "_law_spots", "_law_spots", defArgs s_law_spots, defBody s_law_spots, defScope s_law_spots, [], []⟩
def d_law_line : He.DefD := ⟨("_law_line", none), "_law_line", "_law_line", defArgs s_law_line, defBody s_law_line, defScope s_law_line, [], []⟩
def d_law_far : He.DefD := ⟨("_law_far", none), "_law_far", "_law_far", defArgs s_law_far, defBody s_law_far, defScope s_law_far, [], []⟩
def d_law_right : He.DefD := ⟨("_law_right", none), "_law_right", "_law_right", defArgs s_law_right, defBody s_law_right, defScope s_law_right, [], []⟩
def d_law : He.DefD := ⟨("law", none), "law", "law", defArgs s_law, defBody s_law, defScope s_law, [], []⟩
def d_Web_init : He.DefD := ⟨("Web", some "__init__"), "__init__", "Web.__init__", defArgs s_Web_init, defBody s_Web_init, defScope s_Web_init, [.adr (He.dflAt ("Web", some "__init__") 0)], [("rounds", .bl false)]⟩
def d_Web_rounds : He.DefD := ⟨("Web", some "rounds"), "rounds", "Web.rounds", defArgs s_Web_rounds, defBody s_Web_rounds, defScope s_Web_rounds, [], []⟩
def d_Web_persons : He.DefD := ⟨("Web", some "persons"), "persons", "Web.persons", defArgs s_Web_persons, defBody s_Web_persons, defScope s_Web_persons, [], []⟩
def d_Web_ties : He.DefD := ⟨("Web", some "ties"), "ties", "Web.ties", defArgs s_Web_ties, defBody s_Web_ties, defScope s_Web_ties, [], []⟩
def d_Web_has_person : He.DefD := ⟨("Web", some "has_person"), "has_person", "Web.has_person", defArgs s_Web_has_person, defBody s_Web_has_person, defScope s_Web_has_person, [], []⟩
def d_Web_has_tie : He.DefD := ⟨("Web", some "has_tie"), "has_tie", "Web.has_tie", defArgs s_Web_has_tie, defBody s_Web_has_tie, defScope s_Web_has_tie, [], []⟩
def d_Web_has_spot : He.DefD := ⟨("Web", some "has_spot"), "has_spot", "Web.has_spot", defArgs s_Web_has_spot, defBody s_Web_has_spot, defScope s_Web_has_spot, [], []⟩
def d_Web_tie_of : He.DefD := ⟨("Web", some "tie_of"), "tie_of", "Web.tie_of", defArgs s_Web_tie_of, defBody s_Web_tie_of, defScope s_Web_tie_of, [], []⟩
def d_Web_state : He.DefD := ⟨("Web", some "state"), "state", "Web.state", defArgs s_Web_state, defBody s_Web_state, defScope s_Web_state, [], []⟩
def d_Web_ends : He.DefD := ⟨("Web", some "ends"), "ends", "Web.ends", defArgs s_Web_ends, defBody s_Web_ends, defScope s_Web_ends, [], []⟩
def d_Web_length : He.DefD := ⟨("Web", some "length"), "length", "Web.length", defArgs s_Web_length, defBody s_Web_length, defScope s_Web_length, [], []⟩
def d_Web_hearers : He.DefD := ⟨("Web", some "hearers"), "hearers", "Web.hearers", defArgs s_Web_hearers, defBody s_Web_hearers, defScope s_Web_hearers, [], []⟩
def d_Web_told_persons : He.DefD := ⟨("Web", some "told_persons"), "told_persons", "Web.told_persons", defArgs s_Web_told_persons, defBody s_Web_told_persons, defScope s_Web_told_persons, [], []⟩
def d_Web_told_ties : He.DefD := ⟨("Web", some "told_ties"), "told_ties", "Web.told_ties", defArgs s_Web_told_ties, defBody s_Web_told_ties, defScope s_Web_told_ties, [], []⟩
def d_Web_eq : He.DefD := ⟨("Web", some "__eq__"), "__eq__", "Web.__eq__", defArgs s_Web_eq, defBody s_Web_eq, defScope s_Web_eq, [], []⟩
def d_Knots_init : He.DefD := ⟨("Knots", some "__init__"), "__init__", "Knots.__init__", defArgs s_Knots_init, defBody s_Knots_init, defScope s_Knots_init, [], []⟩
def d_Knots_tie_up : He.DefD := ⟨("Knots", some "tie_up"), "tie_up", "Knots.tie_up", defArgs s_Knots_tie_up, defBody s_Knots_tie_up, defScope s_Knots_tie_up, [], []⟩
def d_Knots_number_of : He.DefD := ⟨("Knots", some "number_of"), "number_of", "Knots.number_of", defArgs s_Knots_number_of, defBody s_Knots_number_of, defScope s_Knots_number_of, [], []⟩
def d_Knots_search : He.DefD := ⟨("Knots", some "search"), "search", "Knots.search", defArgs s_Knots_search, defBody s_Knots_search, defScope s_Knots_search, [], []⟩
def d_Knots_rises : He.DefD := ⟨("Knots", some "rises"), "rises", "Knots.rises", defArgs s_Knots_rises, defBody s_Knots_rises, defScope s_Knots_rises, [], []⟩
def d_Knots_power : He.DefD := ⟨("Knots", some "power"), "power", "Knots.power", defArgs s_Knots_power, defBody s_Knots_power, defScope s_Knots_power, [], []⟩
def d_Knots_does_fit : He.DefD := ⟨("Knots", some "does_fit"), "does_fit", "Knots.does_fit", defArgs s_Knots_does_fit, defBody s_Knots_does_fit, defScope s_Knots_does_fit, [], []⟩
def d_Knots_most_rise : He.DefD := ⟨("Knots", some "most_rise"), "most_rise", "Knots.most_rise", defArgs s_Knots_most_rise, defBody s_Knots_most_rise, defScope s_Knots_most_rise, [], []⟩
def d_Knots_sought_rise : He.DefD := ⟨("Knots", some "sought_rise"), "sought_rise", "Knots.sought_rise", defArgs s_Knots_sought_rise, defBody s_Knots_sought_rise, defScope s_Knots_sought_rise, [], []⟩
def d_Ahead_init : He.DefD := ⟨("Ahead", some "__init__"), "__init__", "Ahead.__init__", defArgs s_Ahead_init, defBody s_Ahead_init, defScope s_Ahead_init, [], []⟩
def d_Ahead_ways : He.DefD := ⟨("Ahead", some "ways"), "ways", "Ahead.ways", defArgs s_Ahead_ways, defBody s_Ahead_ways, defScope s_Ahead_ways, [], []⟩
def d_Ahead_count : He.DefD := ⟨("Ahead", some "count"), "count", "Ahead.count", defArgs s_Ahead_count, defBody s_Ahead_count, defScope s_Ahead_count, [], []⟩
def d_Ahead_is_set_by : He.DefD := ⟨("Ahead", some "is_set_by"), "is_set_by", "Ahead.is_set_by", defArgs s_Ahead_is_set_by, defBody s_Ahead_is_set_by, defScope s_Ahead_is_set_by, [], []⟩
def d_Ahead_state : He.DefD := ⟨("Ahead", some "state"), "state", "Ahead.state", defArgs s_Ahead_state, defBody s_Ahead_state, defScope s_Ahead_state, [], []⟩
def fn0 : List He.DefD := [d_is_name, d_is_count, d_is_state, d_is_length, d_are_hearers, d_persons_read, d_are_ends, d_want_tie, d_ties_read, d_want_place, d_spot_at, d_step_turn, d_gap_turn, d_turn_along, d_places_of_knots, d_put_least, d_led_on, d_least_of, d_want_spot, d_want_count, d_knots_beside, d_ahead_of, d_state_behind, d_law_pot, d_law_take, d_law_name, d_law_length, d_law_hearers, d_law_persons, d_law_tie]
def fn1 : List He.DefD := [d_law_web, d_law_rounds, d_law_spot, d_law_stood, d_law_next_to, d_law_set, d_law_behind, d_law_made, d_law_spots, d_law_line, d_law_far, d_law_right, d_law, d_Web_init, d_Web_rounds, d_Web_persons, d_Web_ties, d_Web_has_person, d_Web_has_tie, d_Web_has_spot, d_Web_tie_of, d_Web_state, d_Web_ends, d_Web_length, d_Web_hearers, d_Web_told_persons, d_Web_told_ties, d_Web_eq, d_Knots_init, d_Knots_tie_up]
def fn2 : List He.DefD := [d_Knots_number_of, d_Knots_search, d_Knots_rises, d_Knots_power, d_Knots_does_fit, d_Knots_most_rise, d_Knots_sought_rise, d_Ahead_init, d_Ahead_ways, d_Ahead_count, d_Ahead_is_set_by, d_Ahead_state]
def fn : List He.DefD := fn0 ++ fn1 ++ fn2
def fa0 : List He.Fa := [.glo "is_name", .glo "is_count", .glo "is_state", .glo "is_length", .glo "are_hearers", .glo "persons_read", .glo "are_ends", .glo "want_tie", .glo "ties_read", .glo "want_place", .glo "spot_at", .glo "step_turn", .glo "gap_turn", .glo "turn_along", .glo "places_of_knots", .glo "put_least", .glo "led_on", .glo "least_of", .glo "want_spot", .glo "want_count", .glo "knots_beside", .glo "ahead_of", .glo "state_behind", .glo "_law_pot", .glo "_law_take", .glo "_law_name", .glo "_law_length", .glo "_law_hearers", .glo "_law_persons", .glo "_law_tie"]
def fa1 : List He.Fa := [.glo "_law_web", .glo "_law_rounds", .glo "_law_spot", .glo "_law_stood", .glo "_law_next_to", .glo "_law_set", .glo "_law_behind", .glo "_law_made", .glo "_law_spots", .glo "_law_line", .glo "_law_far", .glo "_law_right", .glo "law", .glo "Web", .glo "Knots", .glo "Ahead", .free "isinstance", .free "len", .free "all", .free "enumerate", .free "list", .free "dict", .free "tuple", .free "sum", .free "str", .free "int", .free "bool", .free "min", .free "max", .free "abs"]
def fa2 : List He.Fa := [.free "zip", .free "range", .free "sorted", .free "divmod", .free "repr", .free "any", .int "MOST_PERSONS" 8, .int "MOST_TIES" 12, .int "MOST_HEARERS" 12, .int "MOST_LETTERS" 8, .int "LONGEST" 1000000000000000000000000000000, .int "STILL" 0, .int "CRYING_walks" 1, .int "CRYING_counts" 1, .int "HOARSE" 2, .int "STATES" 3, .str "LETTERS" "abcdefghijklmnopqrstuvwxyz", .cls "Web", .mkr "Web", .noat "Web" "is_of_rounds", .noat "Web" "own_states", .noat "Web" "own_ties", .noat "Web" "reckoned", .meth "Web" "rounds", .meth "Web" "persons", .meth "Web" "ties", .meth "Web" "has_person", .meth "Web" "has_tie", .meth "Web" "has_spot", .meth "Web" "tie_of"]
def fa3 : List He.Fa := [.meth "Web" "state", .meth "Web" "ends", .meth "Web" "length", .meth "Web" "hearers", .meth "Web" "told_persons", .meth "Web" "told_ties", .meth "Web" "__eq__", .cls "Knots", .mkr "Knots", .noat "Knots" "all_spots", .noat "Knots" "numbers", .noat "Knots" "pieces", .noat "Knots" "powers", .noat "Knots" "known_rises", .meth "Knots" "tie_up", .meth "Knots" "number_of", .meth "Knots" "search", .meth "Knots" "rises", .meth "Knots" "power", .meth "Knots" "does_fit", .meth "Knots" "most_rise", .meth "Knots" "sought_rise", .cls "Ahead", .mkr "Ahead", .noat "Ahead" "ground", .noat "Ahead" "knots", .meth "Ahead" "ways", .meth "Ahead" "count", .meth "Ahead" "is_set_by", .meth "Ahead" "state"]
def fa : List He.Fa := fa0 ++ fa1 ++ fa2 ++ fa3
def loose0 : List Str := ["_wall", "WebError", "NoWeb", "NoCount", "NoPlace", "NoSuch", "MOST_PERSONS", "MOST_TIES", "MOST_HEARERS", "LONGEST", "MOST_LETTERS", "LETTERS"]
def loose1 : List Str := ["is_name", "is_count", "is_state", "is_length", "are_hearers", "persons_read", "are_ends", "want_tie", "ties_read", "Web", "STILL", "CRYING_walks"]
def loose2 : List Str := ["want_place", "spot_at", "step_turn", "gap_turn", "turn_along", "places_of_knots", "put_least", "led_on", "least_of", "Knots", "CRYING_counts", "HOARSE"]
def loose3 : List Str := ["STATES", "want_spot", "want_count", "knots_beside", "Ahead", "ahead_of", "state_behind", "_law_pot", "_law_take", "_law_name", "_law_length", "_law_hearers"]
def loose4 : List Str := ["_law_persons", "_law_tie", "_law_web", "_law_rounds", "_law_spot", "_law_stood", "_law_next_to", "_law_set", "_law_behind", "_law_made", "_law_spots", "_law_line"]
def loose5 : List Str := ["_law_far", "_law_right"]
def loose : List Str := loose0 ++ loose1 ++ loose2 ++ loose3 ++ loose4 ++ loose5
/-- what the top has written, as the walk asks it -/
structure Tx (K : PySem.W.Frag) (mg : Str → Option Value) : Prop where
  ex : ∃ h : Heap, K.In h ∧ h.Ns mainGlobals mg ∧ He.SaysD fa fn K
  ic : C8.InsC K (He.ga K "Web")
section
variable {K : PySem.W.Frag} {mg : Str → Option Value} (T : Tx K mg)
include T
theorem Tx.g_is_name : mg "is_name" = some (.ref (He.ga K "is_name")) := by
  obtain ⟨h, X, G, c⟩ := T.ex
  exact He.glo_ok X G (c.fact 0 (f := .glo "is_name") rfl)
theorem Tx.g_is_count : mg "is_count" = some (.ref (He.ga K "is_count")) := by
  obtain ⟨h, X, G, c⟩ := T.ex
  exact He.glo_ok X G (c.fact 1 (f := .glo "is_count") rfl)
theorem Tx.g_is_state : mg "is_state" = some (.ref (He.ga K "is_state")) := by
  obtain ⟨h, X, G, c⟩ := T.ex
  exact He.glo_ok X G (c.fact 2 (f := .glo "is_state") rfl)
theorem Tx.g_is_length : mg "is_length" = some (.ref (He.ga K "is_length")) := by
  obtain ⟨h, X, G, c⟩ := T.ex
  exact He.glo_ok X G (c.fact 3 (f := .glo "is_length") rfl)
theorem Tx.g_are_hearers : mg "are_hearers" = some (.ref (He.ga K "are_hearers")) := by
  obtain ⟨h, X, G, c⟩ := T.ex
  exact He.glo_ok X G (c.fact 4 (f := .glo "are_hearers") rfl)
theorem Tx.g_persons_read : mg "persons_read" = some (.ref (He.ga K "persons_read")) := by
  obtain ⟨h, X, G, c⟩ := T.ex
  exact He.glo_ok X G (c.fact 5 (f := .glo "persons_read") rfl)
theorem Tx.g_are_ends : mg "are_ends" = some (.ref (He.ga K "are_ends")) := by
  obtain ⟨h, X, G, c⟩ := T.ex
  exact He.glo_ok X G (c.fact 6 (f := .glo "are_ends") rfl)
theorem Tx.g_want_tie : mg "want_tie" = some (.ref (He.ga K "want_tie")) := by
  obtain ⟨h, X, G, c⟩ := T.ex
  exact He.glo_ok X G (c.fact 7 (f := .glo "want_tie") rfl)
theorem Tx.g_ties_read : mg "ties_read" = some (.ref (He.ga K "ties_read")) := by
  obtain ⟨h, X, G, c⟩ := T.ex
  exact He.glo_ok X G (c.fact 8 (f := .glo "ties_read") rfl)
theorem Tx.g_want_place : mg "want_place" = some (.ref (He.ga K "want_place")) := by
  obtain ⟨h, X, G, c⟩ := T.ex
  exact He.glo_ok X G (c.fact 9 (f := .glo "want_place") rfl)
theorem Tx.g_spot_at : mg "spot_at" = some (.ref (He.ga K "spot_at")) := by
  obtain ⟨h, X, G, c⟩ := T.ex
  exact He.glo_ok X G (c.fact 10 (f := .glo "spot_at") rfl)
theorem Tx.g_step_turn : mg "step_turn" = some (.ref (He.ga K "step_turn")) := by
  obtain ⟨h, X, G, c⟩ := T.ex
  exact He.glo_ok X G (c.fact 11 (f := .glo "step_turn") rfl)
theorem Tx.g_gap_turn : mg "gap_turn" = some (.ref (He.ga K "gap_turn")) := by
  obtain ⟨h, X, G, c⟩ := T.ex
  exact He.glo_ok X G (c.fact 12 (f := .glo "gap_turn") rfl)
theorem Tx.g_turn_along : mg "turn_along" = some (.ref (He.ga K "turn_along")) := by
  obtain ⟨h, X, G, c⟩ := T.ex
  exact He.glo_ok X G (c.fact 13 (f := .glo "turn_along") rfl)
theorem Tx.g_places_of_knots : mg "places_of_knots" = some (.ref (He.ga K "places_of_knots")) := by
  obtain ⟨h, X, G, c⟩ := T.ex
  exact He.glo_ok X G (c.fact 14 (f := .glo "places_of_knots") rfl)
theorem Tx.g_put_least : mg "put_least" = some (.ref (He.ga K "put_least")) := by
  obtain ⟨h, X, G, c⟩ := T.ex
  exact He.glo_ok X G (c.fact 15 (f := .glo "put_least") rfl)
theorem Tx.g_led_on : mg "led_on" = some (.ref (He.ga K "led_on")) := by
  obtain ⟨h, X, G, c⟩ := T.ex
  exact He.glo_ok X G (c.fact 16 (f := .glo "led_on") rfl)
theorem Tx.g_least_of : mg "least_of" = some (.ref (He.ga K "least_of")) := by
  obtain ⟨h, X, G, c⟩ := T.ex
  exact He.glo_ok X G (c.fact 17 (f := .glo "least_of") rfl)
theorem Tx.g_want_spot : mg "want_spot" = some (.ref (He.ga K "want_spot")) := by
  obtain ⟨h, X, G, c⟩ := T.ex
  exact He.glo_ok X G (c.fact 18 (f := .glo "want_spot") rfl)
theorem Tx.g_want_count : mg "want_count" = some (.ref (He.ga K "want_count")) := by
  obtain ⟨h, X, G, c⟩ := T.ex
  exact He.glo_ok X G (c.fact 19 (f := .glo "want_count") rfl)
theorem Tx.g_knots_beside : mg "knots_beside" = some (.ref (He.ga K "knots_beside")) := by
  obtain ⟨h, X, G, c⟩ := T.ex
  exact He.glo_ok X G (c.fact 20 (f := .glo "knots_beside") rfl)
theorem Tx.g_ahead_of : mg "ahead_of" = some (.ref (He.ga K "ahead_of")) := by
  obtain ⟨h, X, G, c⟩ := T.ex
  exact He.glo_ok X G (c.fact 21 (f := .glo "ahead_of") rfl)
theorem Tx.g_state_behind : mg "state_behind" = some (.ref (He.ga K "state_behind")) := by
  obtain ⟨h, X, G, c⟩ := T.ex
  exact He.glo_ok X G (c.fact 22 (f := .glo "state_behind") rfl)
theorem Tx.g_law_pot : mg "_law_pot" = some (.ref (He.ga K "_law_pot")) := by
  obtain ⟨h, X, G, c⟩ := T.ex
  exact He.glo_ok X G (c.fact 23 (f := .glo "_law_pot") rfl)
theorem Tx.g_law_take : mg "_law_take" = some (.ref (He.ga K "_law_take")) := by
  obtain ⟨h, X, G, c⟩ := T.ex
  exact He.glo_ok X G (c.fact 24 (f := .glo "_law_take") rfl)
theorem Tx.g_law_name : mg "_law_name" = some (.ref (He.ga K "_law_name")) := by
  obtain ⟨h, X, G, c⟩ := T.ex
  exact He.glo_ok X G (c.fact 25 (f := .glo "_law_name") rfl)
theorem Tx.g_law_length : mg "_law_length" = some (.ref (He.ga K "_law_length")) := by
  obtain ⟨h, X, G, c⟩ := T.ex
  exact He.glo_ok X G (c.fact 26 (f := .glo "_law_length") rfl)
theorem Tx.g_law_hearers : mg "_law_hearers" = some (.ref (He.ga K "_law_hearers")) := by
  obtain ⟨h, X, G, c⟩ := T.ex
  exact He.glo_ok X G (c.fact 27 (f := .glo "_law_hearers") rfl)
theorem Tx.g_law_persons : mg "_law_persons" = some (.ref (He.ga K "_law_persons")) := by
  obtain ⟨h, X, G, c⟩ := T.ex
  exact He.glo_ok X G (c.fact 28 (f := .glo "_law_persons") rfl)
theorem Tx.g_law_tie : mg "_law_tie" = some (.ref (He.ga K "_law_tie")) := by
  obtain ⟨h, X, G, c⟩ := T.ex
  exact He.glo_ok X G (c.fact 29 (f := .glo "_law_tie") rfl)
theorem Tx.g_law_web : mg "_law_web" = some (.ref (He.ga K "_law_web")) := by
  obtain ⟨h, X, G, c⟩ := T.ex
  exact He.glo_ok X G (c.fact 30 (f := .glo "_law_web") rfl)
theorem Tx.g_law_rounds : mg "_law_rounds" = some (.ref (He.ga K "_law_rounds")) := by
  obtain ⟨h, X, G, c⟩ := T.ex
  exact He.glo_ok X G (c.fact 31 (f := .glo "_law_rounds") rfl)
theorem Tx.g_law_spot : mg "_law_spot" = some (.ref (He.ga K "_law_spot")) := by
  obtain ⟨h, X, G, c⟩ := T.ex
  exact He.glo_ok X G (c.fact 32 (f := .glo "_law_spot") rfl)
theorem Tx.g_law_stood : mg "_law_stood" = some (.ref (He.ga K "_law_stood")) := by
  obtain ⟨h, X, G, c⟩ := T.ex
  exact He.glo_ok X G (c.fact 33 (f := .glo "_law_stood") rfl)
theorem Tx.g_law_next_to : mg "_law_next_to" = some (.ref (He.ga K "_law_next_to")) := by
  obtain ⟨h, X, G, c⟩ := T.ex
  exact He.glo_ok X G (c.fact 34 (f := .glo "_law_next_to") rfl)
theorem Tx.g_law_set : mg "_law_set" = some (.ref (He.ga K "_law_set")) := by
  obtain ⟨h, X, G, c⟩ := T.ex
  exact He.glo_ok X G (c.fact 35 (f := .glo "_law_set") rfl)
theorem Tx.g_law_behind : mg "_law_behind" = some (.ref (He.ga K "_law_behind")) := by
  obtain ⟨h, X, G, c⟩ := T.ex
  exact He.glo_ok X G (c.fact 36 (f := .glo "_law_behind") rfl)
theorem Tx.g_law_made : mg "_law_made" = some (.ref (He.ga K "_law_made")) := by
  obtain ⟨h, X, G, c⟩ := T.ex
  exact He.glo_ok X G (c.fact 37 (f := .glo "_law_made") rfl)
theorem Tx.g_law_spots : mg "_law_spots" = some (.ref (He.ga K "_law_spots")) := by
  obtain ⟨h, X, G, c⟩ := T.ex
  exact He.glo_ok X G (c.fact 38 (f := .glo "_law_spots") rfl)
theorem Tx.g_law_line : mg "_law_line" = some (.ref (He.ga K "_law_line")) := by
  obtain ⟨h, X, G, c⟩ := T.ex
  exact He.glo_ok X G (c.fact 39 (f := .glo "_law_line") rfl)
theorem Tx.g_law_far : mg "_law_far" = some (.ref (He.ga K "_law_far")) := by
  obtain ⟨h, X, G, c⟩ := T.ex
  exact He.glo_ok X G (c.fact 40 (f := .glo "_law_far") rfl)
theorem Tx.g_law_right : mg "_law_right" = some (.ref (He.ga K "_law_right")) := by
  obtain ⟨h, X, G, c⟩ := T.ex
  exact He.glo_ok X G (c.fact 41 (f := .glo "_law_right") rfl)
theorem Tx.g_law : mg "law" = some (.ref (He.ga K "law")) := by
  obtain ⟨h, X, G, c⟩ := T.ex
  exact He.glo_ok X G (c.fact 42 (f := .glo "law") rfl)
theorem Tx.g_Web : mg "Web" = some (.ref (He.ga K "Web")) := by
  obtain ⟨h, X, G, c⟩ := T.ex
  exact He.glo_ok X G (c.fact 43 (f := .glo "Web") rfl)
theorem Tx.g_Knots : mg "Knots" = some (.ref (He.ga K "Knots")) := by
  obtain ⟨h, X, G, c⟩ := T.ex
  exact He.glo_ok X G (c.fact 44 (f := .glo "Knots") rfl)
theorem Tx.g_Ahead : mg "Ahead" = some (.ref (He.ga K "Ahead")) := by
  obtain ⟨h, X, G, c⟩ := T.ex
  exact He.glo_ok X G (c.fact 45 (f := .glo "Ahead") rfl)
theorem Tx.z_isinstance : mg "isinstance" = none := by
  obtain ⟨h, X, G, c⟩ := T.ex
  exact He.free_ok X G (c.fact 46 (f := .free "isinstance") rfl)
theorem Tx.z_len : mg "len" = none := by
  obtain ⟨h, X, G, c⟩ := T.ex
  exact He.free_ok X G (c.fact 47 (f := .free "len") rfl)
theorem Tx.z_all : mg "all" = none := by
  obtain ⟨h, X, G, c⟩ := T.ex
  exact He.free_ok X G (c.fact 48 (f := .free "all") rfl)
theorem Tx.z_enumerate : mg "enumerate" = none := by
  obtain ⟨h, X, G, c⟩ := T.ex
  exact He.free_ok X G (c.fact 49 (f := .free "enumerate") rfl)
theorem Tx.z_list : mg "list" = none := by
  obtain ⟨h, X, G, c⟩ := T.ex
  exact He.free_ok X G (c.fact 50 (f := .free "list") rfl)
theorem Tx.z_dict : mg "dict" = none := by
  obtain ⟨h, X, G, c⟩ := T.ex
  exact He.free_ok X G (c.fact 51 (f := .free "dict") rfl)
theorem Tx.z_tuple : mg "tuple" = none := by
  obtain ⟨h, X, G, c⟩ := T.ex
  exact He.free_ok X G (c.fact 52 (f := .free "tuple") rfl)
theorem Tx.z_sum : mg "sum" = none := by
  obtain ⟨h, X, G, c⟩ := T.ex
  exact He.free_ok X G (c.fact 53 (f := .free "sum") rfl)
theorem Tx.z_str : mg "str" = none := by
  obtain ⟨h, X, G, c⟩ := T.ex
  exact He.free_ok X G (c.fact 54 (f := .free "str") rfl)
theorem Tx.z_int : mg "int" = none := by
  obtain ⟨h, X, G, c⟩ := T.ex
  exact He.free_ok X G (c.fact 55 (f := .free "int") rfl)
theorem Tx.z_bool : mg "bool" = none := by
  obtain ⟨h, X, G, c⟩ := T.ex
  exact He.free_ok X G (c.fact 56 (f := .free "bool") rfl)
theorem Tx.z_min : mg "min" = none := by
  obtain ⟨h, X, G, c⟩ := T.ex
  exact He.free_ok X G (c.fact 57 (f := .free "min") rfl)
theorem Tx.z_max : mg "max" = none := by
  obtain ⟨h, X, G, c⟩ := T.ex
  exact He.free_ok X G (c.fact 58 (f := .free "max") rfl)
theorem Tx.z_abs : mg "abs" = none := by
  obtain ⟨h, X, G, c⟩ := T.ex
  exact He.free_ok X G (c.fact 59 (f := .free "abs") rfl)
theorem Tx.z_zip : mg "zip" = none := by
  obtain ⟨h, X, G, c⟩ := T.ex
  exact He.free_ok X G (c.fact 60 (f := .free "zip") rfl)
theorem Tx.z_range : mg "range" = none := by
  obtain ⟨h, X, G, c⟩ := T.ex
  exact He.free_ok X G (c.fact 61 (f := .free "range") rfl)
theorem Tx.z_sorted : mg "sorted" = none := by
  obtain ⟨h, X, G, c⟩ := T.ex
  exact He.free_ok X G (c.fact 62 (f := .free "sorted") rfl)
theorem Tx.z_divmod : mg "divmod" = none := by
  obtain ⟨h, X, G, c⟩ := T.ex
  exact He.free_ok X G (c.fact 63 (f := .free "divmod") rfl)
theorem Tx.z_repr : mg "repr" = none := by
  obtain ⟨h, X, G, c⟩ := T.ex
  exact He.free_ok X G (c.fact 64 (f := .free "repr") rfl)
theorem Tx.z_any : mg "any" = none := by
  obtain ⟨h, X, G, c⟩ := T.ex
  exact He.free_ok X G (c.fact 65 (f := .free "any") rfl)
theorem Tx.i_MOST_PERSONS : ∃ u, mg "MOST_PERSONS" = some u ∧ RelV (.int 8) u := by
  obtain ⟨h, X, G, c⟩ := T.ex
  obtain ⟨t, e⟩ := He.int_ok X G (c.fact 66 (f := .int "MOST_PERSONS" 8) rfl)
  exact ⟨_, e, t, rfl⟩
theorem Tx.i_MOST_TIES : ∃ u, mg "MOST_TIES" = some u ∧ RelV (.int 12) u := by
  obtain ⟨h, X, G, c⟩ := T.ex
  obtain ⟨t, e⟩ := He.int_ok X G (c.fact 67 (f := .int "MOST_TIES" 12) rfl)
  exact ⟨_, e, t, rfl⟩
theorem Tx.i_MOST_HEARERS : ∃ u, mg "MOST_HEARERS" = some u ∧ RelV (.int 12) u := by
  obtain ⟨h, X, G, c⟩ := T.ex
  obtain ⟨t, e⟩ := He.int_ok X G (c.fact 68 (f := .int "MOST_HEARERS" 12) rfl)
  exact ⟨_, e, t, rfl⟩
theorem Tx.i_MOST_LETTERS : ∃ u, mg "MOST_LETTERS" = some u ∧ RelV (.int 8) u := by
  obtain ⟨h, X, G, c⟩ := T.ex
  obtain ⟨t, e⟩ := He.int_ok X G (c.fact 69 (f := .int "MOST_LETTERS" 8) rfl)
  exact ⟨_, e, t, rfl⟩
theorem Tx.i_LONGEST : ∃ u, mg "LONGEST" = some u ∧ RelV (.int 1000000000000000000000000000000) u := by
  obtain ⟨h, X, G, c⟩ := T.ex
  obtain ⟨t, e⟩ := He.int_ok X G (c.fact 70 (f := .int "LONGEST" 1000000000000000000000000000000) rfl)
  exact ⟨_, e, t, rfl⟩
theorem Tx.i_STILL : ∃ u, mg "STILL" = some u ∧ RelV (.int 0) u := by
  obtain ⟨h, X, G, c⟩ := T.ex
  obtain ⟨t, e⟩ := He.int_ok X G (c.fact 71 (f := .int "STILL" 0) rfl)
  exact ⟨_, e, t, rfl⟩
theorem Tx.i_CRYING_walks : ∃ u, mg "CRYING_walks" = some u ∧ RelV (.int 1) u := by
  obtain ⟨h, X, G, c⟩ := T.ex
  obtain ⟨t, e⟩ := He.int_ok X G (c.fact 72 (f := .int "CRYING_walks" 1) rfl)
  exact ⟨_, e, t, rfl⟩
theorem Tx.i_CRYING_counts : ∃ u, mg "CRYING_counts" = some u ∧ RelV (.int 1) u := by
  obtain ⟨h, X, G, c⟩ := T.ex
  obtain ⟨t, e⟩ := He.int_ok X G (c.fact 73 (f := .int "CRYING_counts" 1) rfl)
  exact ⟨_, e, t, rfl⟩
theorem Tx.i_HOARSE : ∃ u, mg "HOARSE" = some u ∧ RelV (.int 2) u := by
  obtain ⟨h, X, G, c⟩ := T.ex
  obtain ⟨t, e⟩ := He.int_ok X G (c.fact 74 (f := .int "HOARSE" 2) rfl)
  exact ⟨_, e, t, rfl⟩
theorem Tx.i_STATES : ∃ u, mg "STATES" = some u ∧ RelV (.int 3) u := by
  obtain ⟨h, X, G, c⟩ := T.ex
  obtain ⟨t, e⟩ := He.int_ok X G (c.fact 75 (f := .int "STATES" 3) rfl)
  exact ⟨_, e, t, rfl⟩
theorem Tx.t_LETTERS : ∃ u, mg "LETTERS" = some u ∧ RelV (.str "abcdefghijklmnopqrstuvwxyz") u := by
  obtain ⟨h, X, G, c⟩ := T.ex
  obtain ⟨t, e⟩ := He.str_ok X G (c.fact 76 (f := .str "LETTERS" "abcdefghijklmnopqrstuvwxyz") rfl)
  exact ⟨_, e, t, rfl⟩
theorem Tx.c_Web : Cls K (He.ga K "Web") := by
  obtain ⟨h, X, G, c⟩ := T.ex
  exact He.cls_ok (c.fact 77 (f := .cls "Web") rfl)
theorem Tx.k_Web : Mk K (He.ga K "Web") (He.ma K (He.ga K "Web") "__init__") := by
  obtain ⟨h, X, G, c⟩ := T.ex
  exact He.mkr_ok (c.fact 78 (f := .mkr "Web") rfl)
theorem Tx.n_Web_is_of_rounds : NoAttr K (He.ga K "Web") "is_of_rounds" := by
  obtain ⟨h, X, G, c⟩ := T.ex
  exact He.noat_ok (c.fact 79 (f := .noat "Web" "is_of_rounds") rfl)
theorem Tx.n_Web_own_states : NoAttr K (He.ga K "Web") "own_states" := by
  obtain ⟨h, X, G, c⟩ := T.ex
  exact He.noat_ok (c.fact 80 (f := .noat "Web" "own_states") rfl)
theorem Tx.n_Web_own_ties : NoAttr K (He.ga K "Web") "own_ties" := by
  obtain ⟨h, X, G, c⟩ := T.ex
  exact He.noat_ok (c.fact 81 (f := .noat "Web" "own_ties") rfl)
theorem Tx.n_Web_reckoned : NoAttr K (He.ga K "Web") "reckoned" := by
  obtain ⟨h, X, G, c⟩ := T.ex
  exact He.noat_ok (c.fact 82 (f := .noat "Web" "reckoned") rfl)
theorem Tx.m_Web_rounds : Meth K (He.ga K "Web") "rounds" (He.ma K (He.ga K "Web") "rounds") := by
  obtain ⟨h, X, G, c⟩ := T.ex
  exact He.meth_ok (c.fact 83 (f := .meth "Web" "rounds") rfl)
theorem Tx.m_Web_persons : Meth K (He.ga K "Web") "persons" (He.ma K (He.ga K "Web") "persons") := by
  obtain ⟨h, X, G, c⟩ := T.ex
  exact He.meth_ok (c.fact 84 (f := .meth "Web" "persons") rfl)
theorem Tx.m_Web_ties : Meth K (He.ga K "Web") "ties" (He.ma K (He.ga K "Web") "ties") := by
  obtain ⟨h, X, G, c⟩ := T.ex
  exact He.meth_ok (c.fact 85 (f := .meth "Web" "ties") rfl)
theorem Tx.m_Web_has_person : Meth K (He.ga K "Web") "has_person" (He.ma K (He.ga K "Web") "has_person") := by
  obtain ⟨h, X, G, c⟩ := T.ex
  exact He.meth_ok (c.fact 86 (f := .meth "Web" "has_person") rfl)
theorem Tx.m_Web_has_tie : Meth K (He.ga K "Web") "has_tie" (He.ma K (He.ga K "Web") "has_tie") := by
  obtain ⟨h, X, G, c⟩ := T.ex
  exact He.meth_ok (c.fact 87 (f := .meth "Web" "has_tie") rfl)
theorem Tx.m_Web_has_spot : Meth K (He.ga K "Web") "has_spot" (He.ma K (He.ga K "Web") "has_spot") := by
  obtain ⟨h, X, G, c⟩ := T.ex
  exact He.meth_ok (c.fact 88 (f := .meth "Web" "has_spot") rfl)
theorem Tx.m_Web_tie_of : Meth K (He.ga K "Web") "tie_of" (He.ma K (He.ga K "Web") "tie_of") := by
  obtain ⟨h, X, G, c⟩ := T.ex
  exact He.meth_ok (c.fact 89 (f := .meth "Web" "tie_of") rfl)
theorem Tx.m_Web_state : Meth K (He.ga K "Web") "state" (He.ma K (He.ga K "Web") "state") := by
  obtain ⟨h, X, G, c⟩ := T.ex
  exact He.meth_ok (c.fact 90 (f := .meth "Web" "state") rfl)
theorem Tx.m_Web_ends : Meth K (He.ga K "Web") "ends" (He.ma K (He.ga K "Web") "ends") := by
  obtain ⟨h, X, G, c⟩ := T.ex
  exact He.meth_ok (c.fact 91 (f := .meth "Web" "ends") rfl)
theorem Tx.m_Web_length : Meth K (He.ga K "Web") "length" (He.ma K (He.ga K "Web") "length") := by
  obtain ⟨h, X, G, c⟩ := T.ex
  exact He.meth_ok (c.fact 92 (f := .meth "Web" "length") rfl)
theorem Tx.m_Web_hearers : Meth K (He.ga K "Web") "hearers" (He.ma K (He.ga K "Web") "hearers") := by
  obtain ⟨h, X, G, c⟩ := T.ex
  exact He.meth_ok (c.fact 93 (f := .meth "Web" "hearers") rfl)
theorem Tx.m_Web_told_persons : Meth K (He.ga K "Web") "told_persons" (He.ma K (He.ga K "Web") "told_persons") := by
  obtain ⟨h, X, G, c⟩ := T.ex
  exact He.meth_ok (c.fact 94 (f := .meth "Web" "told_persons") rfl)
theorem Tx.m_Web_told_ties : Meth K (He.ga K "Web") "told_ties" (He.ma K (He.ga K "Web") "told_ties") := by
  obtain ⟨h, X, G, c⟩ := T.ex
  exact He.meth_ok (c.fact 95 (f := .meth "Web" "told_ties") rfl)
theorem Tx.m_Web_eq : Meth K (He.ga K "Web") "__eq__" (He.ma K (He.ga K "Web") "__eq__") := by
  obtain ⟨h, X, G, c⟩ := T.ex
  exact He.meth_ok (c.fact 96 (f := .meth "Web" "__eq__") rfl)
theorem Tx.c_Knots : Cls K (He.ga K "Knots") := by
  obtain ⟨h, X, G, c⟩ := T.ex
  exact He.cls_ok (c.fact 97 (f := .cls "Knots") rfl)
theorem Tx.k_Knots : Mk K (He.ga K "Knots") (He.ma K (He.ga K "Knots") "__init__") := by
  obtain ⟨h, X, G, c⟩ := T.ex
  exact He.mkr_ok (c.fact 98 (f := .mkr "Knots") rfl)
theorem Tx.n_Knots_all_spots : NoAttr K (He.ga K "Knots") "all_spots" := by
  obtain ⟨h, X, G, c⟩ := T.ex
  exact He.noat_ok (c.fact 99 (f := .noat "Knots" "all_spots") rfl)
theorem Tx.n_Knots_numbers : NoAttr K (He.ga K "Knots") "numbers" := by
  obtain ⟨h, X, G, c⟩ := T.ex
  exact He.noat_ok (c.fact 100 (f := .noat "Knots" "numbers") rfl)
theorem Tx.n_Knots_pieces : NoAttr K (He.ga K "Knots") "pieces" := by
  obtain ⟨h, X, G, c⟩ := T.ex
  exact He.noat_ok (c.fact 101 (f := .noat "Knots" "pieces") rfl)
theorem Tx.n_Knots_powers : NoAttr K (He.ga K "Knots") "powers" := by
  obtain ⟨h, X, G, c⟩ := T.ex
  exact He.noat_ok (c.fact 102 (f := .noat "Knots" "powers") rfl)
theorem Tx.n_Knots_known_rises : NoAttr K (He.ga K "Knots") "known_rises" := by
  obtain ⟨h, X, G, c⟩ := T.ex
  exact He.noat_ok (c.fact 103 (f := .noat "Knots" "known_rises") rfl)
theorem Tx.m_Knots_tie_up : Meth K (He.ga K "Knots") "tie_up" (He.ma K (He.ga K "Knots") "tie_up") := by
  obtain ⟨h, X, G, c⟩ := T.ex
  exact He.meth_ok (c.fact 104 (f := .meth "Knots" "tie_up") rfl)
theorem Tx.m_Knots_number_of : Meth K (He.ga K "Knots") "number_of" (He.ma K (He.ga K "Knots") "number_of") := by
  obtain ⟨h, X, G, c⟩ := T.ex
  exact He.meth_ok (c.fact 105 (f := .meth "Knots" "number_of") rfl)
theorem Tx.m_Knots_search : Meth K (He.ga K "Knots") "search" (He.ma K (He.ga K "Knots") "search") := by
  obtain ⟨h, X, G, c⟩ := T.ex
  exact He.meth_ok (c.fact 106 (f := .meth "Knots" "search") rfl)
theorem Tx.m_Knots_rises : Meth K (He.ga K "Knots") "rises" (He.ma K (He.ga K "Knots") "rises") := by
  obtain ⟨h, X, G, c⟩ := T.ex
  exact He.meth_ok (c.fact 107 (f := .meth "Knots" "rises") rfl)
theorem Tx.m_Knots_power : Meth K (He.ga K "Knots") "power" (He.ma K (He.ga K "Knots") "power") := by
  obtain ⟨h, X, G, c⟩ := T.ex
  exact He.meth_ok (c.fact 108 (f := .meth "Knots" "power") rfl)
theorem Tx.m_Knots_does_fit : Meth K (He.ga K "Knots") "does_fit" (He.ma K (He.ga K "Knots") "does_fit") := by
  obtain ⟨h, X, G, c⟩ := T.ex
  exact He.meth_ok (c.fact 109 (f := .meth "Knots" "does_fit") rfl)
theorem Tx.m_Knots_most_rise : Meth K (He.ga K "Knots") "most_rise" (He.ma K (He.ga K "Knots") "most_rise") := by
  obtain ⟨h, X, G, c⟩ := T.ex
  exact He.meth_ok (c.fact 110 (f := .meth "Knots" "most_rise") rfl)
theorem Tx.m_Knots_sought_rise : Meth K (He.ga K "Knots") "sought_rise" (He.ma K (He.ga K "Knots") "sought_rise") := by
  obtain ⟨h, X, G, c⟩ := T.ex
  exact He.meth_ok (c.fact 111 (f := .meth "Knots" "sought_rise") rfl)
theorem Tx.c_Ahead : Cls K (He.ga K "Ahead") := by
  obtain ⟨h, X, G, c⟩ := T.ex
  exact He.cls_ok (c.fact 112 (f := .cls "Ahead") rfl)
theorem Tx.k_Ahead : Mk K (He.ga K "Ahead") (He.ma K (He.ga K "Ahead") "__init__") := by
  obtain ⟨h, X, G, c⟩ := T.ex
  exact He.mkr_ok (c.fact 113 (f := .mkr "Ahead") rfl)
theorem Tx.n_Ahead_ground : NoAttr K (He.ga K "Ahead") "ground" := by
  obtain ⟨h, X, G, c⟩ := T.ex
  exact He.noat_ok (c.fact 114 (f := .noat "Ahead" "ground") rfl)
theorem Tx.n_Ahead_knots : NoAttr K (He.ga K "Ahead") "knots" := by
  obtain ⟨h, X, G, c⟩ := T.ex
  exact He.noat_ok (c.fact 115 (f := .noat "Ahead" "knots") rfl)
theorem Tx.m_Ahead_ways : Meth K (He.ga K "Ahead") "ways" (He.ma K (He.ga K "Ahead") "ways") := by
  obtain ⟨h, X, G, c⟩ := T.ex
  exact He.meth_ok (c.fact 116 (f := .meth "Ahead" "ways") rfl)
theorem Tx.m_Ahead_count : Meth K (He.ga K "Ahead") "count" (He.ma K (He.ga K "Ahead") "count") := by
  obtain ⟨h, X, G, c⟩ := T.ex
  exact He.meth_ok (c.fact 117 (f := .meth "Ahead" "count") rfl)
theorem Tx.m_Ahead_is_set_by : Meth K (He.ga K "Ahead") "is_set_by" (He.ma K (He.ga K "Ahead") "is_set_by") := by
  obtain ⟨h, X, G, c⟩ := T.ex
  exact He.meth_ok (c.fact 118 (f := .meth "Ahead" "is_set_by") rfl)
theorem Tx.m_Ahead_state : Meth K (He.ga K "Ahead") "state" (He.ma K (He.ga K "Ahead") "state") := by
  obtain ⟨h, X, G, c⟩ := T.ex
  exact He.meth_ok (c.fact 119 (f := .meth "Ahead" "state") rfl)
theorem Tx.f_is_name : ∃ fd, FunD K "is_name" "is_name" (defArgs s_is_name) (defBody s_is_name) (defScope s_is_name) [] [] (He.ga K "is_name") fd := by
  obtain ⟨h, X, G, c⟩ := T.ex
  exact c.def_ 0 (d := d_is_name) rfl
theorem Tx.f_is_count : ∃ fd, FunD K "is_count" "is_count" (defArgs s_is_count) (defBody s_is_count) (defScope s_is_count) [] [] (He.ga K "is_count") fd := by
  obtain ⟨h, X, G, c⟩ := T.ex
  exact c.def_ 1 (d := d_is_count) rfl
theorem Tx.f_is_state : ∃ fd, FunD K "is_state" "is_state" (defArgs s_is_state) (defBody s_is_state) (defScope s_is_state) [] [] (He.ga K "is_state") fd := by
  obtain ⟨h, X, G, c⟩ := T.ex
  exact c.def_ 2 (d := d_is_state) rfl
theorem Tx.f_is_length : ∃ fd, FunD K "is_length" "is_length" (defArgs s_is_length) (defBody s_is_length) (defScope s_is_length) [] [] (He.ga K "is_length") fd := by
  obtain ⟨h, X, G, c⟩ := T.ex
  exact c.def_ 3 (d := d_is_length) rfl
theorem Tx.f_are_hearers : ∃ fd, FunD K "are_hearers" "are_hearers" (defArgs s_are_hearers) (defBody s_are_hearers) (defScope s_are_hearers) [] [] (He.ga K "are_hearers") fd := by
  obtain ⟨h, X, G, c⟩ := T.ex
  exact c.def_ 4 (d := d_are_hearers) rfl
theorem Tx.f_persons_read : ∃ fd, FunD K "persons_read" "persons_read" (defArgs s_persons_read) (defBody s_persons_read) (defScope s_persons_read) [] [] (He.ga K "persons_read") fd := by
  obtain ⟨h, X, G, c⟩ := T.ex
  exact c.def_ 5 (d := d_persons_read) rfl
theorem Tx.f_are_ends : ∃ fd, FunD K "are_ends" "are_ends" (defArgs s_are_ends) (defBody s_are_ends) (defScope s_are_ends) [] [] (He.ga K "are_ends") fd := by
  obtain ⟨h, X, G, c⟩ := T.ex
  exact c.def_ 6 (d := d_are_ends) rfl
theorem Tx.f_want_tie : ∃ fd, FunD K "want_tie" "want_tie" (defArgs s_want_tie) (defBody s_want_tie) (defScope s_want_tie) [] [] (He.ga K "want_tie") fd := by
  obtain ⟨h, X, G, c⟩ := T.ex
  exact c.def_ 7 (d := d_want_tie) rfl
theorem Tx.f_ties_read : ∃ fd, FunD K "ties_read" "ties_read" (defArgs s_ties_read) (defBody s_ties_read) (defScope s_ties_read) [] [] (He.ga K "ties_read") fd := by
  obtain ⟨h, X, G, c⟩ := T.ex
  exact c.def_ 8 (d := d_ties_read) rfl
theorem Tx.f_want_place : ∃ fd, FunD K "want_place" "want_place" (defArgs s_want_place) (defBody s_want_place) (defScope s_want_place) [] [] (He.ga K "want_place") fd := by
  obtain ⟨h, X, G, c⟩ := T.ex
  exact c.def_ 9 (d := d_want_place) rfl
theorem Tx.f_spot_at : ∃ fd, FunD K "spot_at" "spot_at" (defArgs s_spot_at) (defBody s_spot_at) (defScope s_spot_at) [] [] (He.ga K "spot_at") fd := by
  obtain ⟨h, X, G, c⟩ := T.ex
  exact c.def_ 10 (d := d_spot_at) rfl
theorem Tx.f_step_turn : ∃ fd, FunD K "step_turn" "step_turn" (defArgs s_step_turn) (defBody s_step_turn) (defScope s_step_turn) [] [] (He.ga K "step_turn") fd := by
  obtain ⟨h, X, G, c⟩ := T.ex
  exact c.def_ 11 (d := d_step_turn) rfl
theorem Tx.f_gap_turn : ∃ fd, FunD K "gap_turn" "gap_turn" (defArgs s_gap_turn) (defBody s_gap_turn) (defScope s_gap_turn) [] [] (He.ga K "gap_turn") fd := by
  obtain ⟨h, X, G, c⟩ := T.ex
  exact c.def_ 12 (d := d_gap_turn) rfl
theorem Tx.f_turn_along : ∃ fd, FunD K "turn_along" "turn_along" (defArgs s_turn_along) (defBody s_turn_along) (defScope s_turn_along) [] [] (He.ga K "turn_along") fd := by
  obtain ⟨h, X, G, c⟩ := T.ex
  exact c.def_ 13 (d := d_turn_along) rfl
theorem Tx.f_places_of_knots : ∃ fd, FunD K "places_of_knots" "places_of_knots" (defArgs s_places_of_knots) (defBody s_places_of_knots) (defScope s_places_of_knots) [] [] (He.ga K "places_of_knots") fd := by
  obtain ⟨h, X, G, c⟩ := T.ex
  exact c.def_ 14 (d := d_places_of_knots) rfl
theorem Tx.f_put_least : ∃ fd, FunD K "put_least" "put_least" (defArgs s_put_least) (defBody s_put_least) (defScope s_put_least) [] [] (He.ga K "put_least") fd := by
  obtain ⟨h, X, G, c⟩ := T.ex
  exact c.def_ 15 (d := d_put_least) rfl
theorem Tx.f_led_on : ∃ fd, FunD K "led_on" "led_on" (defArgs s_led_on) (defBody s_led_on) (defScope s_led_on) [] [] (He.ga K "led_on") fd := by
  obtain ⟨h, X, G, c⟩ := T.ex
  exact c.def_ 16 (d := d_led_on) rfl
theorem Tx.f_least_of : ∃ fd, FunD K "least_of" "least_of" (defArgs s_least_of) (defBody s_least_of) (defScope s_least_of) [] [] (He.ga K "least_of") fd := by
  obtain ⟨h, X, G, c⟩ := T.ex
  exact c.def_ 17 (d := d_least_of) rfl
theorem Tx.f_want_spot : ∃ fd, FunD K "want_spot" "want_spot" (defArgs s_want_spot) (defBody s_want_spot) (defScope s_want_spot) [] [] (He.ga K "want_spot") fd := by
  obtain ⟨h, X, G, c⟩ := T.ex
  exact c.def_ 18 (d := d_want_spot) rfl
theorem Tx.f_want_count : ∃ fd, FunD K "want_count" "want_count" (defArgs s_want_count) (defBody s_want_count) (defScope s_want_count) [] [] (He.ga K "want_count") fd := by
  obtain ⟨h, X, G, c⟩ := T.ex
  exact c.def_ 19 (d := d_want_count) rfl
theorem Tx.f_knots_beside : ∃ fd, FunD K "knots_beside" "knots_beside" (defArgs s_knots_beside) (defBody s_knots_beside) (defScope s_knots_beside) [] [] (He.ga K "knots_beside") fd := by
  obtain ⟨h, X, G, c⟩ := T.ex
  exact c.def_ 20 (d := d_knots_beside) rfl
theorem Tx.f_ahead_of : ∃ fd, FunD K "ahead_of" "ahead_of" (defArgs s_ahead_of) (defBody s_ahead_of) (defScope s_ahead_of) [] [] (He.ga K "ahead_of") fd := by
  obtain ⟨h, X, G, c⟩ := T.ex
  exact c.def_ 21 (d := d_ahead_of) rfl
theorem Tx.f_state_behind : ∃ fd, FunD K "state_behind" "state_behind" (defArgs s_state_behind) (defBody s_state_behind) (defScope s_state_behind) [] [] (He.ga K "state_behind") fd := by
  obtain ⟨h, X, G, c⟩ := T.ex
  exact c.def_ 22 (d := d_state_behind) rfl
theorem Tx.f_law_pot : ∃ fd, FunD K "_law_pot" "_law_pot" (defArgs s_law_pot) (defBody s_law_pot) (defScope s_law_pot) [] [] (He.ga K "_law_pot") fd := by
  obtain ⟨h, X, G, c⟩ := T.ex
  exact c.def_ 23 (d := d_law_pot) rfl
theorem Tx.f_law_take : ∃ fd, FunD K "_law_take" "_law_take" (defArgs s_law_take) (defBody s_law_take) (defScope s_law_take) [] [] (He.ga K "_law_take") fd := by
  obtain ⟨h, X, G, c⟩ := T.ex
  exact c.def_ 24 (d := d_law_take) rfl
theorem Tx.f_law_name : ∃ fd, FunD K "_law_name" "_law_name" (defArgs s_law_name) (defBody s_law_name) (defScope s_law_name) [] [] (He.ga K "_law_name") fd := by
  obtain ⟨h, X, G, c⟩ := T.ex
  exact c.def_ 25 (d := d_law_name) rfl
theorem Tx.f_law_length : ∃ fd, FunD K "_law_length" "_law_length" (defArgs s_law_length) (defBody s_law_length) (defScope s_law_length) [] [] (He.ga K "_law_length") fd := by
  obtain ⟨h, X, G, c⟩ := T.ex
  exact c.def_ 26 (d := d_law_length) rfl
theorem Tx.f_law_hearers : ∃ fd, FunD K "_law_hearers" "_law_hearers" (defArgs s_law_hearers) (defBody s_law_hearers) (defScope s_law_hearers) [] [] (He.ga K "_law_hearers") fd := by
  obtain ⟨h, X, G, c⟩ := T.ex
  exact c.def_ 27 (d := d_law_hearers) rfl
theorem Tx.f_law_persons : ∃ fd, FunD K "_law_persons" "_law_persons" (defArgs s_law_persons) (defBody s_law_persons) (defScope s_law_persons) [] [] (He.ga K "_law_persons") fd := by
  obtain ⟨h, X, G, c⟩ := T.ex
  exact c.def_ 28 (d := d_law_persons) rfl
theorem Tx.f_law_tie : ∃ fd, FunD K "_law_tie" "_law_tie" (defArgs s_law_tie) (defBody s_law_tie) (defScope s_law_tie) [] [] (He.ga K "_law_tie") fd := by
  obtain ⟨h, X, G, c⟩ := T.ex
  exact c.def_ 29 (d := d_law_tie) rfl
theorem Tx.f_law_web : ∃ fd, FunD K "_law_web" "_law_web" (defArgs s_law_web) (defBody s_law_web) (defScope s_law_web) [] [] (He.ga K "_law_web") fd := by
  obtain ⟨h, X, G, c⟩ := T.ex
  exact c.def_ 30 (d := d_law_web) rfl
theorem Tx.f_law_rounds : ∃ fd, FunD K "_law_rounds" "_law_rounds" (defArgs s_law_rounds) (defBody s_law_rounds) (defScope s_law_rounds) [] [] (He.ga K "_law_rounds") fd := by
  obtain ⟨h, X, G, c⟩ := T.ex
  exact c.def_ 31 (d := d_law_rounds) rfl
theorem Tx.f_law_spot : ∃ fd, FunD K "_law_spot" "_law_spot" (defArgs s_law_spot) (defBody s_law_spot) (defScope s_law_spot) [] [] (He.ga K "_law_spot") fd := by
  obtain ⟨h, X, G, c⟩ := T.ex
  exact c.def_ 32 (d := d_law_spot) rfl
theorem Tx.f_law_stood : ∃ fd, FunD K "_law_stood" "_law_stood" (defArgs s_law_stood) (defBody s_law_stood) (defScope s_law_stood) [] [] (He.ga K "_law_stood") fd := by
  obtain ⟨h, X, G, c⟩ := T.ex
  exact c.def_ 33 (d := d_law_stood) rfl
theorem Tx.f_law_next_to : ∃ fd, FunD K "_law_next_to" "_law_next_to" (defArgs s_law_next_to) (defBody s_law_next_to) (defScope s_law_next_to) [] [] (He.ga K "_law_next_to") fd := by
  obtain ⟨h, X, G, c⟩ := T.ex
  exact c.def_ 34 (d := d_law_next_to) rfl
theorem Tx.f_law_set : ∃ fd, FunD K "_law_set" "_law_set" (defArgs s_law_set) (defBody s_law_set) (defScope s_law_set) [] [] (He.ga K "_law_set") fd := by
  obtain ⟨h, X, G, c⟩ := T.ex
  exact c.def_ 35 (d := d_law_set) rfl
theorem Tx.f_law_behind : ∃ fd, FunD K "_law_behind" "_law_behind" (defArgs s_law_behind) (defBody s_law_behind) (defScope s_law_behind) [] [] (He.ga K "_law_behind") fd := by
  obtain ⟨h, X, G, c⟩ := T.ex
  exact c.def_ 36 (d := d_law_behind) rfl
theorem Tx.f_law_made : ∃ fd, FunD K "_law_made" "_law_made" (defArgs s_law_made) (defBody s_law_made) (defScope s_law_made) [] [] (He.ga K "_law_made") fd := by
  obtain ⟨h, X, G, c⟩ := T.ex
  exact c.def_ 37 (d := d_law_made) rfl
theorem Tx.f_law_spots : ∃ fd, FunD K "_law_spots" "_law_spots" (defArgs s_law_spots) (defBody s_law_spots) (defScope s_law_spots) [] [] (He.ga K "_law_spots") fd := by
  obtain ⟨h, X, G, c⟩ := T.ex
  exact c.def_ 38 (d := d_law_spots) rfl
theorem Tx.f_law_line : ∃ fd, FunD K "_law_line" "_law_line" (defArgs s_law_line) (defBody s_law_line) (defScope s_law_line) [] [] (He.ga K "_law_line") fd := by
  obtain ⟨h, X, G, c⟩ := T.ex
  exact c.def_ 39 (d := d_law_line) rfl
theorem Tx.f_law_far : ∃ fd, FunD K "_law_far" "_law_far" (defArgs s_law_far) (defBody s_law_far) (defScope s_law_far) [] [] (He.ga K "_law_far") fd := by
  obtain ⟨h, X, G, c⟩ := T.ex
  exact c.def_ 40 (d := d_law_far) rfl
theorem Tx.f_law_right : ∃ fd, FunD K "_law_right" "_law_right" (defArgs s_law_right) (defBody s_law_right) (defScope s_law_right) [] [] (He.ga K "_law_right") fd := by
  obtain ⟨h, X, G, c⟩ := T.ex
  exact c.def_ 41 (d := d_law_right) rfl
theorem Tx.f_law : ∃ fd, FunD K "law" "law" (defArgs s_law) (defBody s_law) (defScope s_law) [] [] (He.ga K "law") fd := by
  obtain ⟨h, X, G, c⟩ := T.ex
  exact c.def_ 42 (d := d_law) rfl
theorem Tx.f_Web_init : ∃ fd, FunD K "__init__" "Web.__init__" (defArgs s_Web_init) (defBody s_Web_init) (defScope s_Web_init) (d_Web_init.dvs K) (d_Web_init.kws K) (He.ma K (He.ga K "Web") "__init__") fd := by
  obtain ⟨h, X, G, c⟩ := T.ex
  exact c.def_ 43 (d := d_Web_init) rfl
theorem Tx.f_Web_rounds : ∃ fd, FunD K "rounds" "Web.rounds" (defArgs s_Web_rounds) (defBody s_Web_rounds) (defScope s_Web_rounds) [] [] (He.ma K (He.ga K "Web") "rounds") fd := by
  obtain ⟨h, X, G, c⟩ := T.ex
  exact c.def_ 44 (d := d_Web_rounds) rfl
theorem Tx.f_Web_persons : ∃ fd, FunD K "persons" "Web.persons" (defArgs s_Web_persons) (defBody s_Web_persons) (defScope s_Web_persons) [] [] (He.ma K (He.ga K "Web") "persons") fd := by
  obtain ⟨h, X, G, c⟩ := T.ex
  exact c.def_ 45 (d := d_Web_persons) rfl
theorem Tx.f_Web_ties : ∃ fd, FunD K "ties" "Web.ties" (defArgs s_Web_ties) (defBody s_Web_ties) (defScope s_Web_ties) [] [] (He.ma K (He.ga K "Web") "ties") fd := by
  obtain ⟨h, X, G, c⟩ := T.ex
  exact c.def_ 46 (d := d_Web_ties) rfl
theorem Tx.f_Web_has_person : ∃ fd, FunD K "has_person" "Web.has_person" (defArgs s_Web_has_person) (defBody s_Web_has_person) (defScope s_Web_has_person) [] [] (He.ma K (He.ga K "Web") "has_person") fd := by
  obtain ⟨h, X, G, c⟩ := T.ex
  exact c.def_ 47 (d := d_Web_has_person) rfl
theorem Tx.f_Web_has_tie : ∃ fd, FunD K "has_tie" "Web.has_tie" (defArgs s_Web_has_tie) (defBody s_Web_has_tie) (defScope s_Web_has_tie) [] [] (He.ma K (He.ga K "Web") "has_tie") fd := by
  obtain ⟨h, X, G, c⟩ := T.ex
  exact c.def_ 48 (d := d_Web_has_tie) rfl
theorem Tx.f_Web_has_spot : ∃ fd, FunD K "has_spot" "Web.has_spot" (defArgs s_Web_has_spot) (defBody s_Web_has_spot) (defScope s_Web_has_spot) [] [] (He.ma K (He.ga K "Web") "has_spot") fd := by
  obtain ⟨h, X, G, c⟩ := T.ex
  exact c.def_ 49 (d := d_Web_has_spot) rfl
theorem Tx.f_Web_tie_of : ∃ fd, FunD K "tie_of" "Web.tie_of" (defArgs s_Web_tie_of) (defBody s_Web_tie_of) (defScope s_Web_tie_of) [] [] (He.ma K (He.ga K "Web") "tie_of") fd := by
  obtain ⟨h, X, G, c⟩ := T.ex
  exact c.def_ 50 (d := d_Web_tie_of) rfl
theorem Tx.f_Web_state : ∃ fd, FunD K "state" "Web.state" (defArgs s_Web_state) (defBody s_Web_state) (defScope s_Web_state) [] [] (He.ma K (He.ga K "Web") "state") fd := by
  obtain ⟨h, X, G, c⟩ := T.ex
  exact c.def_ 51 (d := d_Web_state) rfl
theorem Tx.f_Web_ends : ∃ fd, FunD K "ends" "Web.ends" (defArgs s_Web_ends) (defBody s_Web_ends) (defScope s_Web_ends) [] [] (He.ma K (He.ga K "Web") "ends") fd := by
  obtain ⟨h, X, G, c⟩ := T.ex
  exact c.def_ 52 (d := d_Web_ends) rfl
theorem Tx.f_Web_length : ∃ fd, FunD K "length" "Web.length" (defArgs s_Web_length) (defBody s_Web_length) (defScope s_Web_length) [] [] (He.ma K (He.ga K "Web") "length") fd := by
  obtain ⟨h, X, G, c⟩ := T.ex
  exact c.def_ 53 (d := d_Web_length) rfl
theorem Tx.f_Web_hearers : ∃ fd, FunD K "hearers" "Web.hearers" (defArgs s_Web_hearers) (defBody s_Web_hearers) (defScope s_Web_hearers) [] [] (He.ma K (He.ga K "Web") "hearers") fd := by
  obtain ⟨h, X, G, c⟩ := T.ex
  exact c.def_ 54 (d := d_Web_hearers) rfl
theorem Tx.f_Web_told_persons : ∃ fd, FunD K "told_persons" "Web.told_persons" (defArgs s_Web_told_persons) (defBody s_Web_told_persons) (defScope s_Web_told_persons) [] [] (He.ma K (He.ga K "Web") "told_persons") fd := by
  obtain ⟨h, X, G, c⟩ := T.ex
  exact c.def_ 55 (d := d_Web_told_persons) rfl
theorem Tx.f_Web_told_ties : ∃ fd, FunD K "told_ties" "Web.told_ties" (defArgs s_Web_told_ties) (defBody s_Web_told_ties) (defScope s_Web_told_ties) [] [] (He.ma K (He.ga K "Web") "told_ties") fd := by
  obtain ⟨h, X, G, c⟩ := T.ex
  exact c.def_ 56 (d := d_Web_told_ties) rfl
theorem Tx.f_Web_eq : ∃ fd, FunD K "__eq__" "Web.__eq__" (defArgs s_Web_eq) (defBody s_Web_eq) (defScope s_Web_eq) [] [] (He.ma K (He.ga K "Web") "__eq__") fd := by
  obtain ⟨h, X, G, c⟩ := T.ex
  exact c.def_ 57 (d := d_Web_eq) rfl
theorem Tx.f_Knots_init : ∃ fd, FunD K "__init__" "Knots.__init__" (defArgs s_Knots_init) (defBody s_Knots_init) (defScope s_Knots_init) [] [] (He.ma K (He.ga K "Knots") "__init__") fd := by
  obtain ⟨h, X, G, c⟩ := T.ex
  exact c.def_ 58 (d := d_Knots_init) rfl
theorem Tx.f_Knots_tie_up : ∃ fd, FunD K "tie_up" "Knots.tie_up" (defArgs s_Knots_tie_up) (defBody s_Knots_tie_up) (defScope s_Knots_tie_up) [] [] (He.ma K (He.ga K "Knots") "tie_up") fd := by
  obtain ⟨h, X, G, c⟩ := T.ex
  exact c.def_ 59 (d := d_Knots_tie_up) rfl
theorem Tx.f_Knots_number_of : ∃ fd, FunD K "number_of" "Knots.number_of" (defArgs s_Knots_number_of) (defBody s_Knots_number_of) (defScope s_Knots_number_of) [] [] (He.ma K (He.ga K "Knots") "number_of") fd := by
  obtain ⟨h, X, G, c⟩ := T.ex
  exact c.def_ 60 (d := d_Knots_number_of) rfl
theorem Tx.f_Knots_search : ∃ fd, FunD K "search" "Knots.search" (defArgs s_Knots_search) (defBody s_Knots_search) (defScope s_Knots_search) [] [] (He.ma K (He.ga K "Knots") "search") fd := by
  obtain ⟨h, X, G, c⟩ := T.ex
  exact c.def_ 61 (d := d_Knots_search) rfl
theorem Tx.f_Knots_rises : ∃ fd, FunD K "rises" "Knots.rises" (defArgs s_Knots_rises) (defBody s_Knots_rises) (defScope s_Knots_rises) [] [] (He.ma K (He.ga K "Knots") "rises") fd := by
  obtain ⟨h, X, G, c⟩ := T.ex
  exact c.def_ 62 (d := d_Knots_rises) rfl
theorem Tx.f_Knots_power : ∃ fd, FunD K "power" "Knots.power" (defArgs s_Knots_power) (defBody s_Knots_power) (defScope s_Knots_power) [] [] (He.ma K (He.ga K "Knots") "power") fd := by
  obtain ⟨h, X, G, c⟩ := T.ex
  exact c.def_ 63 (d := d_Knots_power) rfl
theorem Tx.f_Knots_does_fit : ∃ fd, FunD K "does_fit" "Knots.does_fit" (defArgs s_Knots_does_fit) (defBody s_Knots_does_fit) (defScope s_Knots_does_fit) [] [] (He.ma K (He.ga K "Knots") "does_fit") fd := by
  obtain ⟨h, X, G, c⟩ := T.ex
  exact c.def_ 64 (d := d_Knots_does_fit) rfl
theorem Tx.f_Knots_most_rise : ∃ fd, FunD K "most_rise" "Knots.most_rise" (defArgs s_Knots_most_rise) (defBody s_Knots_most_rise) (defScope s_Knots_most_rise) [] [] (He.ma K (He.ga K "Knots") "most_rise") fd := by
  obtain ⟨h, X, G, c⟩ := T.ex
  exact c.def_ 65 (d := d_Knots_most_rise) rfl
theorem Tx.f_Knots_sought_rise : ∃ fd, FunD K "sought_rise" "Knots.sought_rise" (defArgs s_Knots_sought_rise) (defBody s_Knots_sought_rise) (defScope s_Knots_sought_rise) [] [] (He.ma K (He.ga K "Knots") "sought_rise") fd := by
  obtain ⟨h, X, G, c⟩ := T.ex
  exact c.def_ 66 (d := d_Knots_sought_rise) rfl
theorem Tx.f_Ahead_init : ∃ fd, FunD K "__init__" "Ahead.__init__" (defArgs s_Ahead_init) (defBody s_Ahead_init) (defScope s_Ahead_init) [] [] (He.ma K (He.ga K "Ahead") "__init__") fd := by
  obtain ⟨h, X, G, c⟩ := T.ex
  exact c.def_ 67 (d := d_Ahead_init) rfl
theorem Tx.f_Ahead_ways : ∃ fd, FunD K "ways" "Ahead.ways" (defArgs s_Ahead_ways) (defBody s_Ahead_ways) (defScope s_Ahead_ways) [] [] (He.ma K (He.ga K "Ahead") "ways") fd := by
  obtain ⟨h, X, G, c⟩ := T.ex
  exact c.def_ 68 (d := d_Ahead_ways) rfl
theorem Tx.f_Ahead_count : ∃ fd, FunD K "count" "Ahead.count" (defArgs s_Ahead_count) (defBody s_Ahead_count) (defScope s_Ahead_count) [] [] (He.ma K (He.ga K "Ahead") "count") fd := by
  obtain ⟨h, X, G, c⟩ := T.ex
  exact c.def_ 69 (d := d_Ahead_count) rfl
theorem Tx.f_Ahead_is_set_by : ∃ fd, FunD K "is_set_by" "Ahead.is_set_by" (defArgs s_Ahead_is_set_by) (defBody s_Ahead_is_set_by) (defScope s_Ahead_is_set_by) [] [] (He.ma K (He.ga K "Ahead") "is_set_by") fd := by
  obtain ⟨h, X, G, c⟩ := T.ex
  exact c.def_ 70 (d := d_Ahead_is_set_by) rfl
theorem Tx.f_Ahead_state : ∃ fd, FunD K "state" "Ahead.state" (defArgs s_Ahead_state) (defBody s_Ahead_state) (defScope s_Ahead_state) [] [] (He.ma K (He.ga K "Ahead") "state") fd := by
  obtain ⟨h, X, G, c⟩ := T.ex
  exact c.def_ 71 (d := d_Ahead_state) rfl
end
end K33


set_option Elab.async false
set_option linter.all false
set_option maxRecDepth 100000
set_option maxHeartbeats 4000000
/-! Short words for calls; what stands in the heap. -/
namespace K33
open PySem PySem.Spec PyProof.Rows L2 K33M
abbrev Ex := Evl.Ex
/-- the def at f keeps its promise -/
structure FO (P : Program) (w : World) (K : PySem.W.Frag) (mg : Str → Option Value) (base : Heap) (k : Nat) (f : Addr) (ps : List Str) (sp : Sp) : Prop where
  ex : ∃ fd, FnOk P w K mg base CX0 k f fd ps sp ∧ Binds K fd ps [] ∧ PySem.W.keepIn K (.ref f) = true
abbrev bx (P : Program) (w : World) (K : PySem.W.Frag) (mg : Str → Option Value) (base : Heap) (N : List Str) (qual : Str) (st : Stmt) (f : Addr) (cd : Value) (A : Around) (outer : List Env) (s : Shared) (H : Hp) (E : XK) : Cx :=
  (cxOf CX0 P w K mg base N qual (defScope st) f cd A outer s H E).nox
abbrev fin (Q : VK) : Ends := { nx := fun _ H' => Q .non H', rt := Q }
section
variable {P : Program} {w : World} {K : PySem.W.Frag} {mg : Str → Option Value} {base : Heap}
theorem def_ok {x qual : Str} {st : Stmt} {f : Addr} {N ps : List Str} {k : Nat} {sp : Sp} (hF : ∃ fd, FunD K x qual (defArgs st) (defBody st) (defScope st) [] [] f fd) (S : FnScope N ps (defScope st))
    (hb : ∀ (kV doc pm : Value) (an : Option Addr) (cdv ct : Value) (us : List Value), us.length = ps.length → bindArgs (PySem.W.fnOf x qual (defArgs st) (defBody st) (defScope st) .none kV doc pm an cdv ct) ⟨us, []⟩ = pure (ps.zip us))
    (len : ∀ vs H Q E, sp vs H Q E → vs.length = ps.length)
    (body : ∀ (cdv : Value) (A : Around) (outer : List Env) (s : Shared) (H : Hp) (vs : List V) (Q : VK) (E : XK), Room k (A.deeper (envOfC qual (defScope st) s.heap.objs.size f cdv)) → sp vs H Q E →
      ∃ t, PSs (bx P w K mg base N qual st f cdv A outer s H E) (defBody st) t ∧ t (fin Q) (start N vs) H) : FO P w K mg base (k + 1) f ps sp := by
  obtain ⟨fd, F⟩ := hF
  refine ⟨fd, F.ok S len fun cdv A outer s H vs Q E hr h => ?_, F.bindsN hb, F.kp⟩
  obtain ⟨t, h1, h2⟩ := body cdv A outer s H vs Q E hr h
  exact ⟨t, h1.nox, h2⟩
theorem FO.mono {j k : Nat} {f : Addr} {ps : List Str} {sp : Sp} (G : FO P w K mg base j f ps sp) (h : j ≤ k) : FO P w K mg base k f ps sp := by
  obtain ⟨fd, F, b, kp⟩ := G
  exact ⟨fd, F.mono h, b, kp⟩
end
section
variable {X : Cx} {k : Nat} {f C : Addr} {ps : List Str} {sp : Sp} {x : Str} {p pos apos : Pos} {e o : Expr} {es : List Expr} {t : TA} {ta : TE}
theorem c_fn (G : FO X.prog X.w X.K X.mg X.base k f ps sp) (hm : X.mg x = some (.ref f)) (hr : Room k X.A) (ha : PA X (e :: es) t) (hg : Gl X x := by rfl) (hdb : (x == ("__debug__" : Str)) = false := by decide)
    (he : starEach (e :: es) X.env = (false, eval e X.env) :: starEach es X.env := by rfl) (hpl : (backTo pos (starEach es X.env)).any (·.1) = false := by rfl) : PE X (.Call (.Name x p) (e :: es) [] pos) (tCall sp [] E0 t) := by
  obtain ⟨fd, F, b, kp⟩ := G
  exact pe_call F hr hg hm kp b .nil pass0 ha hdb he hpl
theorem c_m {m : Str} {pl : Sem Bool} (he : PE X o ta) (c : Cls X.K C) (hm : Meth X.K C m f) (G : FO X.prog X.w X.K X.mg X.base k f ps sp) (hr : Room k X.A) (ha : PA X (e :: es) t)
    (hst : starEach (e :: es) X.env = (false, eval e X.env) :: starEach es X.env := by rfl) (hpl : (backTo pos (starEach es X.env)).any (·.1) = false := by rfl)
    (ht : eval (.Call (.Attribute o m apos) (e :: es) [] pos) X.env = (do
      let ov ← eval o X.env
      standAt apos.atName
      let (f, first) ← holding [ov] (getMethod ov m pl)
      callWith pos f first (backTo pos (starEach (e :: es) X.env)) (backToKw pos (keywordEach [] X.env))) := by rfl) :
    PE X (.Call (.Attribute o m apos) (e :: es) [] pos) (tMeth C m sp [] E0 ta t) := by
  obtain ⟨fd, F, b, kp⟩ := G
  exact pe_meth he c hm F hr b .nil pass0 ha hst hpl ht
theorem c_m0 {m : Str} {pl : Sem Bool} (he : PE X o ta) (c : Cls X.K C) (hm : Meth X.K C m f) (G : FO X.prog X.w X.K X.mg X.base k f ps sp) (hr : Room k X.A)
    (ht : eval (.Call (.Attribute o m apos) [] [] pos) X.env = (do
      let ov ← eval o X.env
      standAt apos.atName
      let (f, first) ← holding [ov] (getMethod ov m pl)
      callWith pos f first (backTo pos (starEach [] X.env)) (backToKw pos (keywordEach [] X.env))) := by rfl) :
    PE X (.Call (.Attribute o m apos) [] [] pos) (tMeth C m sp [] E0 ta tNil) := by
  obtain ⟨fd, F, b, kp⟩ := G
  exact pe_meth0 he c hm F hr b .nil pass0 ht
end
/-! ### isinstance -/
theorem isi_ty {K : PySem.W.Frag} {H : Hp} {x : V} {tx n : String} {b : Bool} {Q : VK} (ty : TyX K H x (.type tx)) (h : PySem.W.kitOne K (.type tx) (.type n) = some b) (q : Q (.bl b) H) : rIsi K [x, .ty n] H Q := ⟨_, _, _, _, b, rfl, .ty n, ty, h, q⟩
/-! ### pairs that go together -/
theorem pr_at {α β : Type} {R : α → β → Prop} {l : List α} {m : List β} (h : Paired R l m) {i : Nat} {a : α} (e : l[i]? = some a) : ∃ b, m[i]? = some b ∧ R a b := L2.paired_get h e
theorem pr_back {α β : Type} {R : α → β → Prop} : ∀ {l : List α} {m : List β}, Paired R l m → ∀ {i : Nat} {b : β}, m[i]? = some b → ∃ a, l[i]? = some a ∧ R a b
  | _, _, .nil, i, b, e => by simp at e
  | _, _, .cons r t, 0, b, e => by
    simp only [List.getElem?_cons_zero, Option.some.injEq] at e
    subst e
    exact ⟨_, rfl, r⟩
  | _, _, .cons r t, i + 1, b, e => by
    simp only [List.getElem?_cons_succ] at e ⊢
    exact pr_back t e
theorem pr_len {α β : Type} {R : α → β → Prop} {l : List α} {m : List β} (h : Paired R l m) : l.length = m.length := Paired.length h
theorem pr_mono {α β : Type} {R S : α → β → Prop} {l : List α} {m : List β} (h : Paired R l m) (hs : ∀ a b, R a b → S a b) : Paired S l m := L2.Paired.mapP h hs
theorem pr_of {α β : Type} {R : α → β → Prop} : ∀ {l : List α} {m : List β}, l.length = m.length → (∀ (i : Nat) a b, l[i]? = some a → m[i]? = some b → R a b) → Paired R l m
  | [], [], _, _ => .nil
  | [], _ :: _, h, _ => by simp at h
  | _ :: _, [], h, _ => by simp at h
  | a :: l, b :: m, h, hr => .cons (hr 0 a b rfl rfl) (pr_of (by simpa using h) fun i a b h1 h2 => hr (i + 1) a b (by simpa using h1) (by simpa using h2))
/-! ### webs -/
structure Tie where
  nm : Str
  one : Str
  other : Str
  len : Int
  hs : List (Int × Int)
structure Web where
  ps : List (Str × Int)
  ts : List Tie
  rd : Bool
def PrAt (H : Hp) (v : V) (p : Int × Int) : Prop := ∃ a, v = .ref a ∧ H a = some (.tup [.int p.1, .int p.2])
def HsAt (H : Hp) (v : V) (hs : List (Int × Int)) : Prop := ∃ a ps, v = .ref a ∧ TupF H a (ps.map V.ref) ∧ Paired (fun (p : Addr) (q : Int × Int) => H p = some (.tup [.int q.1, .int q.2])) ps hs
def Tie4 (H : Hp) (a : Addr) (t : Tie) : Prop := ∃ v, H a = some (.tup [.str t.one, .str t.other, .int t.len, v]) ∧ HsAt H v t.hs
def Tie5 (H : Hp) (a : Addr) (t : Tie) : Prop := ∃ v, H a = some (.tup [.str t.nm, .str t.one, .str t.other, .int t.len, v]) ∧ HsAt H v t.hs
theorem HsAt.mono {H H' : Hp} (e : Ex H H') {v : V} {hs : List (Int × Int)} (h : HsAt H v hs) : HsAt H' v hs :=
  let ⟨a, ps, ev, ht, hp⟩ := h
  ⟨a, ps, ev, ht.mono e, pr_mono hp fun _ _ q => e _ _ q⟩
theorem Tie4.mono {H H' : Hp} (e : Ex H H') {a : Addr} {t : Tie} (h : Tie4 H a t) : Tie4 H' a t := let ⟨v, h1, h2⟩ := h; ⟨v, e _ _ h1, h2.mono e⟩
theorem Tie5.mono {H H' : Hp} (e : Ex H H') {a : Addr} {t : Tie} (h : Tie5 H a t) : Tie5 H' a t := let ⟨v, h1, h2⟩ := h; ⟨v, e _ _ h1, h2.mono e⟩
def stD (W : Web) : List (Key × V) := W.ps.map fun x => (Sum.inr x.1, V.int x.2)
def tiD (W : Web) (tas : List Addr) : List (Key × V) := List.zipWith (fun t a => (Sum.inr t.nm, V.ref a)) W.ts tas
def webF (rd : Bool) (ds dt r : Addr) : List (Str × V) := [("is_of_rounds", .bl rd), ("own_states", .ref ds), ("own_ties", .ref dt), ("reckoned", .ref r)]
/-- a Web stands at p; r: the list of what was reckoned -/
structure WebAt (C : Addr) (H : Hp) (p : Addr) (W : Web) (r : Addr) : Prop where
  ex : ∃ dx ds dt tas, H p = some (.ins C dx (webF W.rd ds dt r)) ∧ H ds = some (.dK (stD W)) ∧ H dt = some (.dK (tiD W tas)) ∧ Paired (fun (a : Addr) (t : Tie) => Tie4 H a t) tas W.ts
theorem WebAt.mono {C : Addr} {H H' : Hp} {p : Addr} {W : Web} {r : Addr} (e : Ex H H') (h : WebAt C H p W r) : WebAt C H' p W r :=
  let ⟨dx, ds, dt, tas, h1, h2, h3, h4⟩ := h.ex
  ⟨dx, ds, dt, tas, e _ _ h1, e _ _ h2, e _ _ h3, pr_mono h4 fun _ _ q => q.mono e⟩
/-- what a web is -/
structure WebOk (W : Web) : Prop where
  p1 : 1 ≤ W.ps.length
  p8 : W.ps.length ≤ 8
  pn : (W.ps.map (·.1)).Nodup
  pst : ∀ q ∈ W.ps, 0 ≤ q.2 ∧ q.2 ≤ 2
  t12 : W.ts.length ≤ 12
  tn : (W.ps.map (·.1) ++ W.ts.map (·.nm)).Nodup
  te : ∀ t ∈ W.ts, t.one ∈ W.ps.map (·.1) ∧ t.other ∈ W.ps.map (·.1) ∧ t.one ≠ t.other
  tl : ∀ t ∈ W.ts, if W.rd = true then t.len = 1 else 2 ≤ t.len ∧ t.len ≤ 12
  ths : ∀ t ∈ W.ts, t.hs.Pairwise (fun a b => a.1 < b.1) ∧ ∀ q ∈ t.hs, 0 < q.1 ∧ q.1 < t.len ∧ 1 ≤ q.2 ∧ q.2 ≤ 2
  h12 : ((W.ts.map fun t => t.hs.length).sum) ≤ 12
end K33


set_option Elab.async false
set_option linter.all false
set_option maxRecDepth 100000
set_option maxHeartbeats 4000000
/-! Readings that leave what is known: comprehensions by what they pick, hidden addresses. -/
namespace K33
open PySem PySem.Spec PyProof.Rows L2 K33M
/-! ### heaps seen without one address -/
def hid (p : Addr) (H : Hp) : Hp := fun a => if a = p then none else H a
theorem hid_ex {p : Addr} {H : Hp} : Evl.Ex (hid p H) H := fun a o h => by
  unfold hid at h
  split at h
  · cases h
  · exact h
theorem hid_same {p : Addr} {H : Hp} : hid p H p = none := by unfold hid; rw [if_pos rfl]
theorem hid_ne {p a : Addr} {H : Hp} (h : a ≠ p) : hid p H a = H a := by unfold hid; rw [if_neg h]
theorem ex_hid {p : Addr} {V H : Hp} (e : Evl.Ex V H) (hp : V p = none) : Evl.Ex V (hid p H) := fun a o h => by
  rw [hid_ne fun z => by rw [z, hp] at h; cases h]
  exact e a o h
theorem hid_mono {p : Addr} {H H' : Hp} (e : Evl.Ex H H') : Evl.Ex (hid p H) (hid p H') := ex_hid (hid_ex.trans e) hid_same
theorem sqt {K : PySem.W.Frag} {H : Hp} {a : Addr} {xs : List V} (h : H a = some (.tup xs)) : SqT K H a xs := Or.inl (Or.inl h)
theorem sql {K : PySem.W.Frag} {H : Hp} {a : Addr} {xs : List V} (h : H a = some (.lst xs)) : SqL K H a xs := Or.inl (Or.inl h)
/-! ### what a comprehension picks -/
def Picks (n : Nat) (sel : Nat → Bool) (R : Nat → Hp → V → Prop) (H : Hp) (ys : List V) : Prop := Paired (fun i y => R i H y) ((List.range n).filter sel) ys
theorem Picks.mono {n : Nat} {sel : Nat → Bool} {R : Nat → Hp → V → Prop} {H H' : Hp} {ys : List V} (m : ∀ i y, R i H y → R i H' y) (h : Picks n sel R H ys) : Picks n sel R H' ys := pr_mono h fun i y r => m i y r
theorem Picks.none {sel : Nat → Bool} {R : Nat → Hp → V → Prop} {H : Hp} : Picks 0 sel R H [] := by
  unfold Picks
  exact Paired.nil
/-- what stands stands still, lists aside -/
def ExL (H H' : Hp) : Prop := ∀ a o, H a = some o → (∀ xs, o ≠ .lst xs) → H' a = some o
theorem ExL.of {H H' : Hp} (e : Evl.Ex H H') : ExL H H' := fun a o h _ => e a o h
theorem ExL.trans {H H1 H2 : Hp} (a : ExL H H1) (b : ExL H1 H2) : ExL H H2 := fun x o h n => b x o (a x o h n) n
theorem ExL.upd {H : Hp} {D : Addr} {xs ys : List V} (h : H D = some (.lst xs)) : ExL H (upd H D (.lst ys)) := fun a o e n => by
  rw [upd_ne fun z => by rw [z, h] at e; cases e; exact n _ rfl]
  exact e
theorem Picks.yes {n : Nat} {sel : Nat → Bool} {R : Nat → Hp → V → Prop} {H : Hp} {ys : List V} {y : V} (h : Picks n sel R H ys) (s : sel n = true) (r : R n H y) : Picks (n + 1) sel R H (ys ++ [y]) := by
  unfold Picks
  rw [List.range_succ, List.filter_append, List.filter_cons, if_pos s]
  exact Paired.snoc h r
theorem Picks.no {n : Nat} {sel : Nat → Bool} {R : Nat → Hp → V → Prop} {H : Hp} {ys : List V} (h : Picks n sel R H ys) (s : sel n = false) : Picks (n + 1) sel R H ys := by
  unfold Picks
  rw [List.range_succ, List.filter_append, List.filter_cons, if_neg (by rw [s]; decide), List.filter_nil, List.append_nil]
  exact h
theorem Picks.len {n : Nat} {sel : Nat → Bool} {R : Nat → Hp → V → Prop} {H : Hp} {ys : List V} (h : Picks n sel R H ys) : ys.length ≤ n := by
  rw [← pr_len h]
  have q := List.length_filter_le sel (List.range n)
  rwa [List.length_range] at q
theorem paired_eq {α β : Type} {f : α → β} : ∀ {l : List α} {m : List β}, Paired (fun a b => b = f a) l m → m = l.map f
  | _, _, .nil => rfl
  | _, _, .cons h t => by rw [List.map_cons, h, paired_eq t]
theorem Picks.eq {n : Nat} {sel : Nat → Bool} {v : Nat → V} {H : Hp} {ys : List V} (h : Picks n sel (fun i _ y => y = v i) H ys) : ys = ((List.range n).filter sel).map v := paired_eq h
theorem Picks.all {n : Nat} {R : Nat → Hp → V → Prop} {H : Hp} {ys : List V} (h : Picks n (fun _ => true) R H ys) : Paired (fun i y => R i H y) (List.range n) ys := by
  unfold Picks at h
  rwa [List.filter_eq_self.mpr fun _ _ => rfl] at h
theorem range_map {α β : Type} (f : α → β) (l : List α) (g : Nat → β) (h : ∀ i a, l[i]? = some a → g i = f a) : (List.range l.length).map g = l.map f := by
  apply List.ext_getElem?
  intro i
  simp only [List.getElem?_map]
  by_cases c : i < l.length
  · rw [List.getElem?_range c, List.getElem?_eq_getElem c]
    simp [h i _ (List.getElem?_eq_getElem c)]
  · rw [List.getElem?_eq_none (by simpa using c), List.getElem?_eq_none (by omega)]
    rfl
/-- paired with places, paired with the things at them -/
theorem pr_range {α β : Type} {R : Nat → β → Prop} {S : α → β → Prop} {l : List α} {m : List β} (h : Paired R (List.range l.length) m) (hs : ∀ i a b, l[i]? = some a → R i b → S a b) : Paired S l m := by
  refine pr_of ?_ fun i a b h1 h2 => ?_
  · have := pr_len h
    rw [List.length_range] at this
    exact this
  · have hi := (List.getElem?_eq_some_iff.mp h1).1
    obtain ⟨b', e, r⟩ := pr_at h (i := i) (List.getElem?_range hi)
    rw [h2] at e
    cases e
    exact hs i a b h1 r
theorem lc_pick {J : It} {n : Nat} {G : Hp → Prop} {Y : Nat → Hp → V → Hp → Prop} (w : Walk J n G Y) {g : TG} {tt : TT} {te : TE} {vs : List Nat} {σ : L2.St} {H1 : Hp} {Qd : Addr → Hp → Prop} (sel : Nat → Bool) (R : Nat → Hp → V → Prop) (hn : n ≤ 40000)
    (hG : ∀ H, Ex H1 H → G H) (mo : ∀ i y H H', ExL H H' → R i H y → R i H' y)
    (gm : ∀ x σ' H' (A B : L2.St → Hp → Prop), (∀ σ2 H2, A σ2 H2 → B σ2 H2) → g x σ' H' A → g x σ' H' B)
    (st : ∀ i x H H', i < n → Ex H1 H → Y i H x H' → g x (wipe σ vs) H' fun σ2 H2 => wipe σ2 vs = wipe σ vs ∧ ∀ (Qy : VK) (Qn : Hp → Prop), (sel i = true → ∀ y H4, Ex H H4 → R i H4 y → Qy y H4) → (sel i = false → ∀ H3, Ex H H3 → Qn H3) →
      tt σ2 H2 fun b H3 => if b = true then te σ2 H3 Qy else Qn H3)
    (hd : ∀ D H ys, H1 D = none → Ex H1 H → H D = some (.lst ys) → Picks n sel R H ys → Qd D H) (D : Addr) (hD : H1 D = none) :
    ∃ W : Nat → Nat → Hp → Prop, (∃ m, W 0 m (upd H1 D (.lst []))) ∧ ∀ i m H, W i m H →
      (J.stop i H ∧ Qd D H) ∨ (J.go i H ∧ ∃ Nx : Hp → Prop, (∀ H', Nx H' → ∃ m', m' < m ∧ W (i + 1) m' H') ∧ ∀ x H', J.yld i H x H' → g x (wipe σ vs) H' fun σ2 H2 => wipe σ2 vs = wipe σ vs ∧ tt σ2 H2 fun b H3 =>
        if b = true then te σ2 H3 fun y H4 => ∃ acc, H4 D = some (.lst acc) ∧ acc.length < sizeLine ∧ Nx (upd H4 D (.lst (acc ++ [y]))) else Nx H3) := by
  refine lc_it w (fun i H => Ex H1 H ∧ ∃ ys, H D = some (.lst ys) ∧ Picks i sel R H ys) ⟨Evl.Ex.new hD, [], upd_same, Picks.none⟩ (fun i H _ p => hG H p.1) (fun i x H H' hi p y => ?_) fun H p => ?_
  · obtain ⟨e, ys, hy, pk⟩ := p
    refine gm _ _ _ _ _ (fun σ2 H2 q => ⟨q.1, ?_⟩) (st i x H H' hi e y)
    refine q.2 _ _ (fun s y H4 e4 r => ⟨ys, e4 D _ hy, Evl.sz_lt (by have := pk.len; omega), ?_, ys ++ [y], upd_same, ?_⟩) fun s H3 e3 => ?_
    · exact (e.trans e4).mut hD
    · have l : ExL H4 (upd H4 D (.lst (ys ++ [y]))) := ExL.upd (e4 D _ hy)
      exact (pk.mono fun i y r => mo i y _ _ ((ExL.of e4).trans l) r).yes s (mo i y _ _ l r)
    · exact ⟨e.trans e3, ys, e3 D _ hy, (pk.mono fun i y r => mo i y _ _ (ExL.of e3) r).no s⟩
  · obtain ⟨e, ys, hy, pk⟩ := p
    exact hd D H ys hD e hy pk
/-- targets -/
theorem gm_name {i : Nat} : ∀ (x : V) (σ' : L2.St) (H' : Hp) (A B : L2.St → Hp → Prop), (∀ σ2 H2, A σ2 H2 → B σ2 H2) → gName i x σ' H' A → gName i x σ' H' B := fun _ _ _ _ _ h q => h _ _ q
theorem gm_tup2 {K : PySem.W.Frag} {i j : Nat} : ∀ (x : V) (σ' : L2.St) (H' : Hp) (A B : L2.St → Hp → Prop), (∀ σ2 H2, A σ2 H2 → B σ2 H2) → gTup K 2 (gCons (gName i) (gCons (gName j) gNil)) x σ' H' A → gTup K 2 (gCons (gName i) (gCons (gName j) gNil)) x σ' H' B :=
  fun _ _ _ _ _ h q => let ⟨a, xs, e1, e2, e3, v, r, e4, v', r', e5, e6, q⟩ := q; ⟨a, xs, e1, e2, e3, v, r, e4, v', r', e5, e6, h _ _ q⟩
theorem gm_tup3 {K : PySem.W.Frag} {i j k : Nat} : ∀ (x : V) (σ' : L2.St) (H' : Hp) (A B : L2.St → Hp → Prop), (∀ σ2 H2, A σ2 H2 → B σ2 H2) → gTup K 3 (gCons (gName i) (gCons (gName j) (gCons (gName k) gNil))) x σ' H' A → gTup K 3 (gCons (gName i) (gCons (gName j) (gCons (gName k) gNil))) x σ' H' B :=
  fun _ _ _ _ _ h q => let ⟨a, xs, e1, e2, e3, v, r, e4, v', r', e5, v'', r'', e6, e7, q⟩ := q; ⟨a, xs, e1, e2, e3, v, r, e4, v', r', e5, v'', r'', e6, e7, h _ _ q⟩
theorem isi_no {K : PySem.W.Frag} {H : Hp} {x : V} {tx n : String} {Q : VK} (ty : TyOf K H x (.type tx)) (h : kitB tx n = some false) (q : Q (.bl false) H) : rIsi K [x, .ty n] H Q := isi_ty (.base ty) (kit_ty h) q
theorem isi_yes {K : PySem.W.Frag} {H : Hp} {x : V} {tx n : String} {Q : VK} (ty : TyOf K H x (.type tx)) (h : kitB tx n = some true) (q : Q (.bl true) H) : rIsi K [x, .ty n] H Q := isi_ty (.base ty) (kit_ty h) q
/-! ### dicts as lists of pairs -/
theorem valV_no {κ : Type} [DecidableEq κ] {k : κ} : ∀ {kvs : List (κ × V)}, k ∉ kvs.map (·.1) → valV kvs k = none
  | [], _ => rfl
  | p :: r, h => by
    rw [List.map_cons, List.mem_cons] at h
    rw [valV_neg fun z => h (.inl z.symm)]
    exact valV_no fun z => h (.inr z)
theorem valV_nd {κ : Type} [DecidableEq κ] {k : κ} {v : V} : ∀ {kvs : List (κ × V)}, (kvs.map (·.1)).Nodup → (k, v) ∈ kvs → valV kvs k = some v
  | [], _, h => by cases h
  | p :: r, n, h => by
    rw [List.map_cons, List.nodup_cons] at n
    rcases List.mem_cons.mp h with e | h
    · rw [← e, valV_pos rfl]
    · rw [valV_neg fun z => n.1 (z ▸ List.mem_map_of_mem h), valV_nd n.2 h]
theorem valV_in {κ : Type} [DecidableEq κ] {k : κ} {v : V} : ∀ {kvs : List (κ × V)}, valV kvs k = some v → (k, v) ∈ kvs
  | [], h => by cases h
  | p :: r, h => by
    by_cases c : p.1 = k
    · rw [valV_pos c] at h
      cases h
      rw [← c]
      exact List.mem_cons_self
    · rw [valV_neg c] at h
      exact List.mem_cons_of_mem _ (valV_in h)
theorem nodup_map {α β : Type} {f : α → β} (hf : ∀ a b, f a = f b → a = b) : ∀ {l : List α}, l.Nodup → (l.map f).Nodup
  | [], _ => List.nodup_nil
  | a :: l, h => by
    rw [List.nodup_cons] at h
    rw [List.map_cons, List.nodup_cons]
    refine ⟨fun m => ?_, nodup_map hf h.2⟩
    obtain ⟨b, hb, e⟩ := List.mem_map.mp m
    rw [hf _ _ e] at hb
    exact h.1 hb
theorem isi_tupF {K : PySem.W.Frag} {H : Hp} {a : Addr} {xs : List V} {Q : VK} (h : TupF H a xs) (q : Q (.bl true) H) : rIsi K [.ref a, .ty "tuple"] H Q :=
  let ⟨_, e, _⟩ := h; isi_ty (.fTuple e) (kit_ty (a := "tuple") (b := "tuple") (r := true) (by decide +kernel)) q
/-! ### the rules with the module's facts named -/
def rLenK (K : PySem.W.Frag) : List V → Hp → VK → Prop := fun xs H Q => ∃ p ys, xs = [.ref p] ∧ (SqL K H p ys ∨ SqT K H p ys) ∧ Q (.int ys.length) H
def rTupleK (K : PySem.W.Frag) : List V → Hp → VK → Prop := fun xs H Q => ∃ p ys, xs = [.ref p] ∧ ((SqL K H p ys ∧ ∀ l, H l = none → Q (.ref l) (upd H l (.tup ys))) ∨ (SqT K H p ys ∧ Q (.ref p) H))
section
variable {X : Cx} {K : PySem.W.Frag}
theorem ix_tupK (h : X.K = K) : IxR X (rIxT K) := h ▸ ix_tup
theorem ix_listK (h : X.K = K) : IxR X (rIxL K) := h ▸ ix_list
theorem op_catTK (h : X.K = K) : OpR X (binaryOp .Add) (rCatT K) := h ▸ op_catT
theorem call_len_seqK (h : X.K = K) : CallR X (.builtin "len") (rLenK K) := h ▸ call_len_seq
theorem call_tuple_ofK (h : X.K = K) : CallR X (.type "tuple") (rTupleK K) := h ▸ call_tuple_of
theorem op_notIn_seqK (h : X.K = K) : OpR X (compareOp .NotIn) (rIn K true) := h ▸ op_notIn_seq
theorem op_neDK (h : X.K = K) (hu : X.A.units + 64 < cLine) : OpR X (compareOp .NotEq) (rNeD K) := h ▸ op_neD hu
theorem pg_tupK {pos : Pos} {es : List Expr} {k : Nat} {t : TGs} (n : Nat) (hK : X.K = K) (hc : X.calm = true) (h : PGs X es t)
    (hn : (assignEach es X.env).length = n := by rfl) (hst : (assignEach es X.env).findIdx? (·.1) = none := by rfl) : PG X (.Tuple es k pos) (gTup K n t) := hK ▸ pg_tup hc h hn hst
theorem pe_fldK {e : Expr} {f : Str} {pos : Pos} {ta : TE} (hK : X.K = K) (he : PE X e ta) (hb : attributeBase e f X.env (eval e X.env) = eval e X.env) : PE X (.Attribute e f pos) (tFld K ta f) := hK ▸ pe_fld he hb
theorem pe_mgetK {P : Program} {w : World} {o i : Expr} {pos : Pos} {td ty : TE} (hP : X.prog = P) (hw : X.w = w) (hu : X.A.units + 1 < cLine) (ho : PE X o td) (hi : PE X i ty) (hs : NoSl i) : PE X (.Subscript o i pos) (tMGet P w td ty) := hP ▸ hw ▸ pe_mget hu ho hi hs
end
section
variable {X : Cx}
theorem pe_ty (n : String) {pos : Pos} (hg : Gl X (Str.ofString n)) (hm : X.mg (Str.ofString n) = none) (hv : bootBuiltins (Str.ofString n) = some (.type n)) (hn : (Str.ofString n) ≠ "__name__" := by decide) (hd : ((Str.ofString n) == ("__debug__" : Str)) = false := by decide) :
    PE X (.Name (Str.ofString n) pos) (tC (.ty n)) := pe_bltn hg hm hv (show RelV (.ty n) (.type n) from rfl) hn hd
end
end K33


set_option Elab.async false
set_option linter.all false
set_option maxRecDepth 100000
set_option maxHeartbeats 4000000
namespace K33
open PySem PySem.Spec PyProof.Rows L2 K33M
def letters : Str := "abcdefghijklmnopqrstuvwxyz"
structure NameOk (x : Str) : Prop where
  lo : 1 ≤ x.length
  hi : x.length ≤ 8
  al : ∀ c ∈ x.cps.toList, c ∈ letters.cps.toList
def sp_is_name : Sp := fun vs H Q _ => ∃ x : Str, vs = [.str x] ∧ NameOk x ∧ ∀ H', Ex H H' → Q (.bl true) H'
def sp_is_count : Sp := fun vs H Q _ => ∃ i : Int, vs = [.int i] ∧ ∀ H', Ex H H' → Q (.bl (decide (0 ≤ i))) H'
def sp_is_state : Sp := fun vs H Q _ => ∃ i : Int, vs = [.int i] ∧ ∀ H', Ex H H' → Q (.bl (decide (0 ≤ i ∧ i ≤ 2))) H'
def LenOk (rd : Bool) (l : Int) : Prop := if rd = true then l = 1 else 2 ≤ l ∧ l ≤ 12
def sp_is_length : Sp := fun vs H Q _ => ∃ (i : Int) (rd : Bool), vs = [.int i, .bl rd] ∧ LenOk rd i ∧ ∀ H', Ex H H' → Q (.bl true) H'
def HsOk (l : Int) (hs : List (Int × Int)) : Prop := hs.Pairwise (fun a b => a.1 < b.1) ∧ ∀ q ∈ hs, 0 < q.1 ∧ q.1 < l ∧ 1 ≤ q.2 ∧ q.2 ≤ 2
def sp_are_hearers : Sp := fun vs H Q _ => ∃ (v : V) (l : Int) (hs : List (Int × Int)), vs = [v, .int l] ∧ HsAt H v hs ∧ HsOk l hs ∧ ∀ H', Ex H H' → Q (.bl true) H'
section
variable {P : Program} {w : World} {K : PySem.W.Frag} {mg : Str → Option Value} {base : Heap}
theorem o_is_count (T : Tx K mg) : FO P w K mg base 1 (He.ga K "is_count") ["thing"] sp_is_count := def_ok T.f_is_count sc_is_count (fun _ _ _ _ _ _ us hl => match us, hl with | [_], _ => rfl)
    (fun _ _ _ _ h => by obtain ⟨_, rfl, _⟩ := h; rfl) fun cdv A outer s H vs Q E hr h => by
  have hu := hu_of hr
  obtain ⟨i, rfl, hQ⟩ := h
  refine ⟨_, (pss_one (ps_ret (pe_and (pe_callB call_isi (by rfl) T.z_isinstance (by decide +kernel) (pa_cons (pv 0) (pa_cons (pe_ty "int" (by rfl) T.z_int (by decide +kernel)) pa_nil))) (pe_and (pe_not (pe_callB call_isi (by rfl) T.z_isinstance (by decide +kernel) (pa_cons (pv 0) (pa_cons (pe_ty "bool" (by rfl) T.z_bool (by decide +kernel)) pa_nil)))) (pe_one (pe_cmpR op_ge (pv 0) pe_int (nomark _))))))), ?_⟩
  dsimp only [tCKw, tM1, tVals, tVar, tC, tB, tAnd, tOr, tNot, tAndV, tOrV, tNotV, tIf, tNext, tSeq, tBreak, tCont, tDrop, tRet, tRetN, tIfS, tNever, gName, gNil, gCons, gTup, gSub, tAsg, tPar, tAug, tTest, tChain, tFld, sFld, tNil, tCons, tTup, tLst, tCall, tMeth, tCB, tBM, tNoPart, tPart, tSl, tOp, tUn, rI, rI0, rU, iList, iTup, iRng1, iRng2, iStr, iEnum, iZip, iItems, iVals, tDGet, tDIn, tDNotIn, sDPut, tDGet2, tDNewK, tDNewT, tYes, fin, List.cons_append, List.nil_append, bx, cxOf, Cx.nox]
  refine ⟨_, rfl, isi_yes (.int _) (by decide +kernel) ⟨_, rfl, ?_⟩⟩
  refine ⟨_, rfl, isi_no (.int _) (by decide +kernel) ⟨_, rfl, ⟨_, rfl, ⟨_, rfl, _, _, rfl, rfl, hQ _ (Evl.Ex.refl _)⟩⟩⟩⟩
theorem o_is_name (T : Tx K mg) : FO P w K mg base 1 (He.ga K "is_name") ["thing"] sp_is_name := def_ok T.f_is_name sc_is_name (fun _ _ _ _ _ _ us hl => match us, hl with | [_], _ => rfl)
    (fun _ _ _ _ h => by obtain ⟨_, rfl, _⟩ := h; rfl) fun cdv A outer s H vs Q E hr h => by
  have hu := hu_of hr
  obtain ⟨_, hi_MOST_LETTERS, ri_MOST_LETTERS⟩ := T.i_MOST_LETTERS
  obtain ⟨_, ht_LETTERS, rt_LETTERS⟩ := T.t_LETTERS
  obtain ⟨x, rfl, hx, hQ⟩ := h
  have h1 : x.length ≤ sizeLine := Evl.sz_of (by have := hx.hi; omega)
  have e1 : decide ((1 : Int) ≤ (x.length : Int)) = true := decide_eq_true (by have := hx.lo; omega)
  have e2 : decide ((x.length : Int) ≤ 8) = true := decide_eq_true (by have := hx.hi; omega)
  refine ⟨_, (pss_cons (ps_if (PW.pt (pw_or (pt_not (pt_val (pe_callB call_isi (by rfl) T.z_isinstance (by decide +kernel) (pa_cons (pv 0) (pa_cons (pe_ty "str" (by rfl) T.z_str (by decide +kernel)) pa_nil))))) (pw_or1 (pt_not (pt_chain op_le op_le pe_int (pe_callB call_len_str (by rfl) T.z_len (by decide +kernel) (pa_cons (pv 0) pa_nil)) (pe_glob rfl hi_MOST_LETTERS ri_MOST_LETTERS)))))) (pss_one (ps_ret pe_bl)) pss_nil)
      (pss_one (ps_ret (pe_callB (cr_all rfl) (by rfl) T.z_all (by decide +kernel) (pa_cons (pe_lc (own := [("sign", 1)]) rfl sc_is_name.nd (pi_str (pv 0)) (blkOk_by (by rfl)) (fun _ _ _ _ _ => (pg_name (i := 1) sc_is_name.nd rfl (.inl rfl))) (fun _ _ _ _ _ => pts_nil) (fun _ _ _ _ _ => (pe_cmpR op_in_sign (pv 1) (pe_glob rfl ht_LETTERS rt_LETTERS) (by rfl)))) pa_nil))))), ?_⟩
  dsimp only [tCKw, tM1, tVals, tVar, tC, tB, tAnd, tOr, tNot, tAndV, tOrV, tNotV, tIf, tNext, tSeq, tBreak, tCont, tDrop, tRet, tRetN, tIfS, tNever, gName, gNil, gCons, gTup, gSub, tAsg, tPar, tAug, tTest, tChain, tFld, sFld, tNil, tCons, tTup, tLst, tCall, tMeth, tCB, tBM, tNoPart, tPart, tSl, tOp, tUn, rI, rI0, rU, iList, iTup, iRng1, iRng2, iStr, iEnum, iZip, iItems, iVals, tDGet, tDIn, tDNotIn, sDPut, tDGet2, tDNewK, tDNewT, tYes, fin, List.cons_append, List.nil_append, bx, cxOf, Cx.nox]
  refine ⟨_, rfl, isi_yes (.str _) (by decide +kernel) ⟨_, rfl, ?_⟩⟩
  refine ⟨_, rfl, _, rfl, h1, _, _, rfl, rfl, _, rfl, ?_⟩
  rw [e1]
  refine ⟨_, _, rfl, rfl, ⟨_, rfl, ?_⟩⟩
  rw [e2]
  refine ⟨_, rfl, _, rfl, lc_pick walk_str (fun _ => true) (fun _ _ y => y = .bl true) (by have := hx.hi; have e : x.length = x.cps.size := rfl; omega) (fun _ _ => True.intro) (fun _ _ _ _ _ r => r) gm_name (fun i y H1 H' hi e Y => ?_) fun D H1 ys _ e hD pk => ?_⟩
  · obtain ⟨rfl, c, hc, rfl⟩ := Y
    refine ⟨rfl, fun Qy Qn k _ => ⟨_, rfl, c, letters, rfl, rfl, ?_⟩⟩
    refine k rfl _ _ (Evl.Ex.refl _) ?_
    rw [decide_eq_true (hx.al c (List.mem_of_getElem? (by rw [Array.getElem?_toList]; exact hc)))]
  · refine ⟨D, List.replicate x.cps.size true, rfl, sql ?_, ?_⟩
    · rw [hD, pk.eq, List.filter_eq_self.mpr fun _ _ => rfl]
      simp [List.map_replicate, List.map_const']
    · rw [show (List.replicate x.cps.size true).all id = true by simp]
      exact hQ _ e
theorem o_is_state (T : Tx K mg) : FO P w K mg base 2 (He.ga K "is_state") ["thing"] sp_is_state := def_ok T.f_is_state sc_is_state (fun _ _ _ _ _ _ us hl => match us, hl with | [_], _ => rfl)
    (fun _ _ _ _ h => by obtain ⟨_, rfl, _⟩ := h; rfl) fun cdv A outer s H vs Q E hr h => by
  have hu := hu_of hr
  obtain ⟨i, rfl, hQ⟩ := h
  refine ⟨_, (pss_one (ps_ret (pe_and (c_fn (o_is_count T) T.g_is_count (hr.mono (by decide)) (pa_cons (pv 0) pa_nil)) (pe_one (pe_cmpR op_le (pv 0) pe_int (nomark _)))))), ?_⟩
  dsimp only [tCKw, tM1, tVals, tVar, tC, tB, tAnd, tOr, tNot, tAndV, tOrV, tNotV, tIf, tNext, tSeq, tBreak, tCont, tDrop, tRet, tRetN, tIfS, tNever, gName, gNil, gCons, gTup, gSub, tAsg, tPar, tAug, tTest, tChain, tFld, sFld, tNil, tCons, tTup, tLst, tCall, tMeth, tCB, tBM, tNoPart, tPart, tSl, tOp, tUn, rI, rI0, rU, iList, iTup, iRng1, iRng2, iStr, iEnum, iZip, iItems, iVals, tDGet, tDIn, tDNotIn, sDPut, tDGet2, tDNewK, tDNewT, tYes, fin, List.cons_append, List.nil_append, bx, cxOf, Cx.nox]
  refine ⟨_, rfl, i, rfl, fun H' e => ⟨_, rfl, ?_⟩⟩
  by_cases c : 0 ≤ i
  · rw [decide_eq_true c, if_pos rfl]
    refine ⟨_, rfl, _, _, rfl, rfl, ?_⟩
    rw [show decide (i ≤ 2) = decide (0 ≤ i ∧ i ≤ 2) by simp [c]]
    exact hQ _ e
  · rw [decide_eq_false c, if_neg (by decide)]
    rw [show false = decide (0 ≤ i ∧ i ≤ 2) by simp [c]]
    exact hQ _ e
theorem o_is_length (T : Tx K mg) : FO P w K mg base 2 (He.ga K "is_length") ["thing", "rounds"] sp_is_length := def_ok T.f_is_length sc_is_length (fun _ _ _ _ _ _ us hl => match us, hl with | [_, _], _ => rfl)
    (fun _ _ _ _ h => by obtain ⟨_, _, rfl, _⟩ := h; rfl) fun cdv A outer s H vs Q E hr h => by
  have hu := hu_of hr
  obtain ⟨_, hi_LONGEST, ri_LONGEST⟩ := T.i_LONGEST
  obtain ⟨i, rd, rfl, hl, hQ⟩ := h
  refine ⟨_, (pss_cons (ps_if (pt_val (pv 1)) (pss_one (ps_ret (pe_and (c_fn (o_is_count T) T.g_is_count (hr.mono (by decide)) (pa_cons (pv 0) pa_nil)) (pe_one (pe_cmpR op_eq (pv 0) pe_int (nomark _)))))) pss_nil)
      (pss_one (ps_ret (pe_and (c_fn (o_is_count T) T.g_is_count (hr.mono (by decide)) (pa_cons (pv 0) pa_nil)) (pe_one (pe_chain op_le op_le pe_int (pv 0) (pe_glob rfl hi_LONGEST ri_LONGEST))))))), ?_⟩
  dsimp only [tCKw, tM1, tVals, tVar, tC, tB, tAnd, tOr, tNot, tAndV, tOrV, tNotV, tIf, tNext, tSeq, tBreak, tCont, tDrop, tRet, tRetN, tIfS, tNever, gName, gNil, gCons, gTup, gSub, tAsg, tPar, tAug, tTest, tChain, tFld, sFld, tNil, tCons, tTup, tLst, tCall, tMeth, tCB, tBM, tNoPart, tPart, tSl, tOp, tUn, rI, rI0, rU, iList, iTup, iRng1, iRng2, iStr, iEnum, iZip, iItems, iVals, tDGet, tDIn, tDNotIn, sDPut, tDGet2, tDNewK, tDNewT, tYes, fin, List.cons_append, List.nil_append, bx, cxOf, Cx.nox]
  cases rd with
  | true =>
    have hl : i = 1 := hl
    subst hl
    exact ⟨_, rfl, _, rfl, _, rfl, _, rfl, fun H' e => ⟨_, rfl, _, rfl, rfl, hQ _ e⟩⟩
  | false =>
    have hl : 2 ≤ i ∧ i ≤ 12 := hl
    refine ⟨_, rfl, _, rfl, _, rfl, _, rfl, fun H' e => ⟨_, rfl, ?_⟩⟩
    rw [decide_eq_true (show 0 ≤ i by omega)]
    refine ⟨_, rfl, _, _, rfl, rfl, _, rfl, ?_⟩
    rw [decide_eq_true (show 2 ≤ i by omega)]
    refine ⟨_, _, rfl, rfl, ?_⟩
    rw [decide_eq_true (show i ≤ 1000000000000000000000000000000 by omega)]
    exact hQ _ e
theorem o_are_hearers (T : Tx K mg) : FO P w K mg base 3 (He.ga K "are_hearers") ["thing", "length"] sp_are_hearers := def_ok T.f_are_hearers sc_are_hearers (fun _ _ _ _ _ _ us hl => match us, hl with | [_, _], _ => rfl)
    (fun _ _ _ _ h => by obtain ⟨_, _, _, rfl, _⟩ := h; rfl) fun cdv A outer s H vs Q E hr h => by
  have hu := hu_of hr
  obtain ⟨v, l, hs, rfl, ⟨a, ps, rfl, ht, hp⟩, ho, hQ⟩ := h
  refine ⟨_, (pss_cons (ps_if (pt_not (pt_val (pe_callB call_isi (by rfl) T.z_isinstance (by decide +kernel) (pa_cons (pv 0) (pa_cons (pe_ty "tuple" (by rfl) T.z_tuple (by decide +kernel)) pa_nil))))) (pss_one (ps_ret pe_bl)) pss_nil)
      (pss_cons (ps_set (i := 2) sc_are_hearers.nd rfl (.inl rfl) pe_int)
      (pss_cons (ps_for PassesOwn.never rfl (pi_tup (pv 0)) (pg_name (i := 3) sc_are_hearers.nd rfl (.inl rfl))
        (pss_cons (ps_if (PW.pt (pw_or (pt_not (pt_val (pe_callB call_isi (by rfl) T.z_isinstance (by decide +kernel) (pa_cons (pv 3) (pa_cons (pe_ty "tuple" (by rfl) T.z_tuple (by decide +kernel)) pa_nil))))) (pw_or1 (pt_cmpR op_ne (pe_callB call_len_seq (by rfl) T.z_len (by decide +kernel) (pa_cons (pv 3) pa_nil)) pe_int (nomark _))))) (pss_one (ps_ret pe_bl)) pss_nil)
        (pss_cons (ps_asg (pv 3) (pg_tup rfl (pgs_cons (pg_name (i := 4) sc_are_hearers.nd rfl (.inl rfl)) (pgs_cons (pg_name (i := 5) sc_are_hearers.nd rfl (.inl rfl)) pgs_nil))))
        (pss_cons (ps_if (PW.pt (pw_or (pt_not (pt_val (c_fn (o_is_count T) T.g_is_count (hr.mono (by decide)) (pa_cons (pv 4) pa_nil)))) (pw_or (pt_not (pt_chain op_lt op_lt (pv 2) (pv 4) (pv 1))) (pw_or (pt_not (pt_val (c_fn (o_is_state T) T.g_is_state (hr.mono (by decide)) (pa_cons (pv 5) pa_nil)))) (pw_or1 (pt_cmpR op_eq (pv 5) pe_int (nomark _))))))) (pss_one (ps_ret pe_bl)) pss_nil)
        (pss_one (ps_set (i := 2) sc_are_hearers.nd rfl (.inl rfl) (pv 4)))))))
      (pss_one (ps_ret pe_bl))))), ?_⟩
  dsimp only [tCKw, tM1, tVals, tVar, tC, tB, tAnd, tOr, tNot, tAndV, tOrV, tNotV, tIf, tNext, tSeq, tBreak, tCont, tDrop, tRet, tRetN, tIfS, tNever, gName, gNil, gCons, gTup, gSub, tAsg, tPar, tAug, tTest, tChain, tFld, sFld, tNil, tCons, tTup, tLst, tCall, tMeth, tCB, tBM, tNoPart, tPart, tSl, tOp, tUn, rI, rI0, rU, iList, iTup, iRng1, iRng2, iStr, iEnum, iZip, iItems, iVals, tDGet, tDIn, tDNotIn, sDPut, tDGet2, tDNewK, tDNewT, tYes, fin, List.cons_append, List.nil_append, bx, cxOf, Cx.nox]
  have hl : ps.length = hs.length := pr_len hp
  refine ⟨_, rfl, isi_tupF ht ⟨_, rfl, ?_⟩⟩
  refine ⟨_, rfl, a, rfl, ⟨_, ht.sq⟩, for_it walk_tup (fun i σ H' => Ex H H' ∧ ∃ ah x3 x4 x5, σ = [some (.ref a), some (.int l), some (.int ah), x3, x4, x5] ∧ (∀ q, hs[i]? = some q → ah < q.1)) ?_ (fun i σ H' _ p => (ht.mono p.1).sq) (fun i x σ H2 H' hi p y => ?_) fun σ H' p => ?_⟩
  · refine ⟨Evl.Ex.refl _, _, _, _, _, rfl, fun q hq => ?_⟩
    exact (ho.2 q (List.mem_of_getElem? hq)).1
  · obtain ⟨e, ah, x3, x4, x5, rfl, hah⟩ := p
    obtain ⟨rfl, hx⟩ := y
    rw [List.length_map] at hi
    rw [List.getElem?_map, List.getElem?_eq_getElem hi] at hx
    have hx : some (V.ref ps[i]) = some x := hx
    cases hx
    obtain ⟨q, hq, hp1⟩ := pr_at hp (List.getElem?_eq_getElem hi)
    obtain ⟨g1, g2, g3, g4⟩ := ho.2 q (List.mem_of_getElem? hq)
    have ht1 := e _ _ hp1
    dsimp only [tCKw, tM1, tVals, tVar, tC, tB, tAnd, tOr, tNot, tAndV, tOrV, tNotV, tIf, tNext, tSeq, tBreak, tCont, tDrop, tRet, tRetN, tIfS, tNever, gName, gNil, gCons, gTup, gSub, tAsg, tPar, tAug, tTest, tChain, tFld, sFld, tNil, tCons, tTup, tLst, tCall, tMeth, tCB, tBM, tNoPart, tPart, tSl, tOp, tUn, rI, rI0, rU, iList, iTup, iRng1, iRng2, iStr, iEnum, iZip, iItems, iVals, tDGet, tDIn, tDNotIn, sDPut, tDGet2, tDNewK, tDNewT, tYes, fin, List.cons_append, List.nil_append, bx, cxOf, Cx.nox]
    refine ⟨_, rfl, isi_yes (.tup ht1) (by decide +kernel) ⟨_, rfl, ?_⟩⟩
    refine ⟨_, rfl, ⟨_, _, rfl, .inr (sqt ht1), rfl, _, rfl, ?_⟩⟩
    refine ⟨_, rfl, _, _, rfl, sqt ht1, rfl, _, _, rfl, _, _, rfl, rfl, ?_⟩
    refine ⟨_, rfl, _, rfl, fun H3 e3 => ⟨_, rfl, ?_⟩⟩
    rw [decide_eq_true (show 0 ≤ q.1 by omega)]
    refine ⟨_, rfl, _, rfl, _, _, rfl, rfl, _, rfl, ?_⟩
    rw [decide_eq_true (hah q hq)]
    refine ⟨_, rfl, _, _, rfl, rfl, ⟨_, rfl, ?_⟩⟩
    rw [decide_eq_true g2]
    refine ⟨_, rfl, _, rfl, fun H4 e4 => ⟨_, rfl, ?_⟩⟩
    rw [decide_eq_true (show 0 ≤ q.2 ∧ q.2 ≤ 2 by omega)]
    refine ⟨_, rfl, rfl, ⟨_, rfl, ?_⟩⟩
    rw [decide_eq_false (show ¬ V.int q.2 = V.int 0 by intro z; injection z; omega)]
    refine ⟨_, rfl, (e.trans e3).trans e4, _, _, _, _, rfl, fun q' hq' => ?_⟩
    exact List.pairwise_iff_getElem.mp ho.1 i (i + 1) (by omega) (by have := (List.getElem?_eq_some_iff.mp hq').1; omega) (by omega) |> fun z => by
      have a1 := (List.getElem?_eq_some_iff.mp hq).2
      have a2 := (List.getElem?_eq_some_iff.mp hq').2
      rw [a1, a2] at z
      exact z
  · exact hQ _ p.1
end
end K33


set_option Elab.async false
set_option linter.all false
set_option maxRecDepth 100000
set_option maxHeartbeats 4000000
namespace K33
open PySem PySem.Spec PyProof.Rows L2 K33M
def psD (ps : List (Str × Int)) : List (Key × V) := ps.map fun x => (Sum.inr x.1, V.int x.2)
structure PsOk (ps : List (Str × Int)) : Prop where
  lo : 1 ≤ ps.length
  hi : ps.length ≤ 8
  nd : (ps.map (·.1)).Nodup
  nm : ∀ q ∈ ps, NameOk q.1
  st : ∀ q ∈ ps, 0 ≤ q.2 ∧ q.2 ≤ 2
theorem psD_no {ps : List (Str × Int)} {x : Str} (h : x ∉ ps.map (·.1)) : valV (psD ps) (Sum.inr x) = none := valV_no fun m => by
  obtain ⟨p, hp, e⟩ := List.mem_map.mp m
  obtain ⟨q, hq, rfl⟩ := List.mem_map.mp hp
  exact h (List.mem_map.mpr ⟨q, hq, Sum.inr.inj e⟩)
theorem psD_yes {ps : List (Str × Int)} {x : Str} {i : Int} (n : (ps.map (·.1)).Nodup) (h : (x, i) ∈ ps) : valV (psD ps) (Sum.inr x) = some (.int i) := by
  refine valV_nd ?_ (List.mem_map.mpr ⟨_, h, rfl⟩)
  have e : (psD ps).map (·.1) = (ps.map (·.1)).map (Sum.inr : Str → Key) := by simp [psD, List.map_map, Function.comp_def]
  rw [e]
  exact nodup_map (fun _ _ z => Sum.inr.inj z) n
theorem psD_some {ps : List (Str × Int)} {x : Str} (n : (ps.map (·.1)).Nodup) (h : x ∈ ps.map (·.1)) : (valV (psD ps) (Sum.inr x)).isSome = true := by
  obtain ⟨q, hq, rfl⟩ := List.mem_map.mp h
  rw [psD_yes n (i := q.2) hq]
  rfl
def sp_persons_read : Sp := fun vs H Q _ => ∃ (a : Addr) (as : List Addr) (ps : List (Str × Int)), vs = [.ref a] ∧ H a = some (.lst (as.map V.ref)) ∧ Paired (fun b (q : Str × Int) => H b = some (.tup [.str q.1, .int q.2])) as ps ∧ PsOk ps ∧
  ∀ p H', H p = none → Ex H H' → H' p = some (.dK (psD ps)) → Q (.ref p) H'
def sp_are_ends : Sp := fun vs H Q _ => ∃ (d : Addr) (kvs : List (Key × V)) (x y : Str), vs = [.ref d, .str x, .str y] ∧ H d = some (.dK kvs) ∧ (valV kvs (.inr x)).isSome = true ∧ (valV kvs (.inr y)).isSome = true ∧ x ≠ y ∧ ∀ H', Ex H H' → Q (.bl true) H'
structure TieOk (ps : List (Str × Int)) (rd : Bool) (t : Tie) : Prop where
  nm : NameOk t.nm
  fr : t.nm ∉ ps.map (·.1)
  one : t.one ∈ ps.map (·.1)
  two : t.other ∈ ps.map (·.1)
  ne : t.one ≠ t.other
  len : LenOk rd t.len
  hs : HsOk t.len t.hs
def sp_want_tie : Sp := fun vs H Q _ => ∃ (dp dt a : Addr) (n : Int) (rd : Bool) (ps : List (Str × Int)) (kvs : List (Key × V)) (t : Tie), vs = [.ref dp, .ref dt, .int n, .ref a, .bl rd] ∧ H dp = some (.dK (psD ps)) ∧ H dt = some (.dK kvs) ∧ Tie5 H a t ∧
  (ps.map (·.1)).Nodup ∧ TieOk ps rd t ∧ valV kvs (.inr t.nm) = none ∧ ∀ H', Ex H H' → Q .non H'
section
variable {P : Program} {w : World} {K : PySem.W.Frag} {mg : Str → Option Value} {base : Heap}
theorem o_persons_read (T : Tx K mg) : FO P w K mg base 3 (He.ga K "persons_read") ["thing"] sp_persons_read := def_ok T.f_persons_read sc_persons_read (fun _ _ _ _ _ _ us hl => match us, hl with | [_], _ => rfl)
    (fun _ _ _ _ h => by obtain ⟨_, _, _, rfl, _⟩ := h; rfl) fun cdv A outer s H vs Q E hr h => by
  have hu := hu_of hr
  obtain ⟨_, hi_MOST_PERSONS, ri_MOST_PERSONS⟩ := T.i_MOST_PERSONS
  obtain ⟨a, as, ps, rfl, ha, hp, ho, hQ⟩ := h
  have hl : as.length = ps.length := pr_len hp
  refine ⟨_, (pss_cons (ps_if (pt_not (pt_val (pe_callB call_isi (by rfl) T.z_isinstance (by decide +kernel) (pa_cons (pv 0) (pa_cons (pe_ty "list" (by rfl) T.z_list (by decide +kernel)) pa_nil))))) (pss_one ps_never) pss_nil)
      (pss_cons (ps_set (i := 1) sc_persons_read.nd rfl (.inl rfl) pe_dnewK)
      (pss_cons (ps_for PassesOwn.never rfl (pi_enum (by rfl) T.z_enumerate (pa_cons (pv 0) pa_nil)) (pg_tup rfl (pgs_cons (pg_name (i := 2) sc_persons_read.nd rfl (.inl rfl)) (pgs_cons (pg_name (i := 3) sc_persons_read.nd rfl (.inl rfl)) pgs_nil)))
        (pss_cons (ps_if (PW.pt (pw_or (pt_not (pt_val (pe_callB call_isi (by rfl) T.z_isinstance (by decide +kernel) (pa_cons (pv 3) (pa_cons (pe_ty "tuple" (by rfl) T.z_tuple (by decide +kernel)) pa_nil))))) (pw_or1 (pt_cmpR op_ne (pe_callB call_len_seq (by rfl) T.z_len (by decide +kernel) (pa_cons (pv 3) pa_nil)) pe_int (nomark _))))) (pss_one ps_never) pss_nil)
        (pss_cons (ps_asg (pv 3) (pg_tup rfl (pgs_cons (pg_name (i := 4) sc_persons_read.nd rfl (.inl rfl)) (pgs_cons (pg_name (i := 5) sc_persons_read.nd rfl (.inl rfl)) pgs_nil))))
        (pss_cons (ps_if (pt_not (pt_val (c_fn (o_is_name T) T.g_is_name (hr.mono (by decide)) (pa_cons (pv 4) pa_nil)))) (pss_one ps_never) pss_nil)
        (pss_cons (ps_if (pt_cmp (pc_din hu (pv 4) (pv 1))) (pss_one ps_never) pss_nil)
        (pss_cons (ps_if (pt_not (pt_val (c_fn (o_is_state T) T.g_is_state (hr.mono (by decide)) (pa_cons (pv 5) pa_nil)))) (pss_one ps_never) pss_nil)
        (pss_one (ps_dput hu (pv 1) (pv 4) (pv 5) rfl))))))))
      (pss_cons (ps_if (pt_not (pt_chain op_le op_le pe_int (pe_callB call_lenD (by rfl) T.z_len (by decide +kernel) (pa_cons (pv 1) pa_nil)) (pe_glob rfl hi_MOST_PERSONS ri_MOST_PERSONS))) (pss_one ps_never) pss_nil)
      (pss_one (ps_ret (pv 1))))))), ?_⟩
  dsimp only [tCKw, tM1, tVals, tVar, tC, tB, tAnd, tOr, tNot, tAndV, tOrV, tNotV, tIf, tNext, tSeq, tBreak, tCont, tDrop, tRet, tRetN, tIfS, tNever, gName, gNil, gCons, gTup, gSub, tAsg, tPar, tAug, tTest, tChain, tFld, sFld, tNil, tCons, tTup, tLst, tCall, tMeth, tCB, tBM, tNoPart, tPart, tSl, tOp, tUn, rI, rI0, rU, iList, iTup, iRng1, iRng2, iStr, iEnum, iZip, iItems, iVals, tDGet, tDIn, tDNotIn, sDPut, tDGet2, tDNewK, tDNewT, tYes, fin, List.cons_append, List.nil_append, bx, cxOf, Cx.nox]
  refine ⟨_, rfl, isi_yes (.lst ha) (by decide +kernel) ⟨_, rfl, fun D hD => ?_⟩⟩
  have e0 : Ex H (upd H D (.dK [])) := Evl.Ex.new hD
  refine ⟨_, rfl, a, _, rfl, sql (e0 _ _ ha), for_it (walk_enum (xs := as.map V.ref)) (fun i σ H' => Ex H H' ∧ ∃ x2 x3 x4 x5, σ = [some (.ref a), some (.ref D), x2, x3, x4, x5] ∧ H' D = some (.dK (psD (ps.take i)))) ?_ (fun i σ H' _ p => sql (p.1 _ _ ha)) (fun i x σ H2 H' hi p y => ?_) fun σ H' p => ?_⟩
  · exact ⟨e0, _, _, _, _, rfl, upd_same⟩
  · obtain ⟨e, x2, x3, x4, x5, rfl, hd⟩ := p
    obtain ⟨T0, y1, y2, rfl, hT, rfl, hy1, hy2⟩ := y
    rw [List.length_map] at hi
    have hy2 : (as.map V.ref)[i]? = some y2 := hy2
    rw [List.getElem?_map, List.getElem?_eq_getElem hi] at hy2
    cases hy1
    have hy2 : some (V.ref as[i]) = some y2 := hy2
    cases hy2
    obtain ⟨q, hq, hp1⟩ := pr_at hp (List.getElem?_eq_getElem hi)
    have hqm := List.mem_of_getElem? hq
    have e2 : Ex H (upd H2 T0 (.tup [.int (i : Nat), .ref as[i]])) := e.trans (Evl.Ex.new hT)
    have ht1 := e2 _ _ hp1
    have hd2 : upd H2 T0 (.tup [.int (i : Nat), .ref as[i]]) D = some (.dK (psD (ps.take i))) := (Evl.Ex.new hT) _ _ hd
    have hno : q.1 ∉ (ps.take i).map (·.1) := fun m => by
      have n := ho.nd
      rw [← List.take_append_drop i ps, List.map_append, List.nodup_append] at n
      have hq2 : q ∈ ps.drop i := List.mem_of_getElem? (i := 0) (by rw [List.getElem?_drop]; exact hq)
      exact n.2.2 _ m _ (List.mem_map_of_mem hq2) rfl
    dsimp only [tCKw, tM1, tVals, tVar, tC, tB, tAnd, tOr, tNot, tAndV, tOrV, tNotV, tIf, tNext, tSeq, tBreak, tCont, tDrop, tRet, tRetN, tIfS, tNever, gName, gNil, gCons, gTup, gSub, tAsg, tPar, tAug, tTest, tChain, tFld, sFld, tNil, tCons, tTup, tLst, tCall, tMeth, tCB, tBM, tNoPart, tPart, tSl, tOp, tUn, rI, rI0, rU, iList, iTup, iRng1, iRng2, iStr, iEnum, iZip, iItems, iVals, tDGet, tDIn, tDNotIn, sDPut, tDGet2, tDNewK, tDNewT, tYes, fin, List.cons_append, List.nil_append, bx, cxOf, Cx.nox]
    refine ⟨_, _, rfl, sqt upd_same, rfl, _, _, rfl, _, _, rfl, rfl, ?_⟩
    refine ⟨_, rfl, isi_yes (.tup ht1) (by decide +kernel) ⟨_, rfl, ?_⟩⟩
    refine ⟨_, rfl, ⟨_, _, rfl, .inr (sqt ht1), rfl, _, rfl, ?_⟩⟩
    refine ⟨_, rfl, _, _, rfl, sqt ht1, rfl, _, _, rfl, _, _, rfl, rfl, ?_⟩
    refine ⟨_, rfl, _, rfl, ho.nm q hqm, fun H3 e3 => ⟨_, rfl, ?_⟩⟩
    refine ⟨_, rfl, _, rfl, _, _, rfl, DGet.k (k := .inr q.1) (e3 _ _ hd2), ?_⟩
    rw [psD_no hno]
    refine ⟨_, rfl, _, rfl, _, rfl, fun H4 e4 => ⟨_, rfl, ?_⟩⟩
    rw [decide_eq_true (ho.st q hqm)]
    have hd4 := e4 _ _ (e3 _ _ hd2)
    refine ⟨_, rfl, _, rfl, _, rfl, _, _, rfl, DPut.k (k := .inr q.1) hd4 (Evl.sz_lt ?_), ?_⟩
    · have := ho.hi
      simp only [psD, List.length_map, List.length_take]
      omega
    · refine ⟨((e2.trans e3).trans e4).mut hD, _, _, _, _, rfl, ?_⟩
      rw [upd_same, putK_new _ (psD_no hno), List.take_succ, hq]
      simp [psD]
  · obtain ⟨e, x2, x3, x4, x5, rfl, hd⟩ := p
    rw [List.length_map, hl, List.take_length] at hd
    dsimp only [tCKw, tM1, tVals, tVar, tC, tB, tAnd, tOr, tNot, tAndV, tOrV, tNotV, tIf, tNext, tSeq, tBreak, tCont, tDrop, tRet, tRetN, tIfS, tNever, gName, gNil, gCons, gTup, gSub, tAsg, tPar, tAug, tTest, tChain, tFld, sFld, tNil, tCons, tTup, tLst, tCall, tMeth, tCB, tBM, tNoPart, tPart, tSl, tOp, tUn, rI, rI0, rU, iList, iTup, iRng1, iRng2, iStr, iEnum, iZip, iItems, iVals, tDGet, tDIn, tDNotIn, sDPut, tDGet2, tDNewK, tDNewT, tYes, fin, List.cons_append, List.nil_append, bx, cxOf, Cx.nox]
    refine ⟨_, rfl, _, _, rfl, hd, _, _, rfl, rfl, ⟨_, rfl, ?_⟩⟩
    have l1 : (psD ps).length = ps.length := List.length_map ..
    rw [l1, decide_eq_true (show (1 : Int) ≤ (ps.length : Int) by have := ho.lo; omega)]
    refine ⟨_, _, rfl, rfl, ⟨_, rfl, ?_⟩⟩
    rw [decide_eq_true (show (ps.length : Int) ≤ 8 by have := ho.hi; omega)]
    exact ⟨_, rfl, hQ _ _ hD e hd⟩
theorem o_are_ends (T : Tx K mg) : FO P w K mg base 1 (He.ga K "are_ends") ["persons", "one", "other"] sp_are_ends := def_ok T.f_are_ends sc_are_ends (fun _ _ _ _ _ _ us hl => match us, hl with | [_, _, _], _ => rfl)
    (fun _ _ _ _ h => by obtain ⟨_, _, _, _, rfl, _⟩ := h; rfl) fun cdv A outer s H vs Q E hr h => by
  have hu := hu_of hr
  obtain ⟨d, kvs, x, y, rfl, hd, hx, hy, ne, hQ⟩ := h
  refine ⟨_, (pss_one (ps_ret (pe_and (pe_callB call_isi (by rfl) T.z_isinstance (by decide +kernel) (pa_cons (pv 1) (pa_cons (pe_ty "str" (by rfl) T.z_str (by decide +kernel)) pa_nil))) (pe_and (pe_callB call_isi (by rfl) T.z_isinstance (by decide +kernel) (pa_cons (pv 2) (pa_cons (pe_ty "str" (by rfl) T.z_str (by decide +kernel)) pa_nil))) (pe_and (pe_cmp (pc_din hu (pv 1) (pv 0)) rfl) (pe_and (pe_cmp (pc_din hu (pv 2) (pv 0)) rfl) (pe_one (pe_cmpR op_ne (pv 1) (pv 2) (nomark _))))))))), ?_⟩
  dsimp only [tCKw, tM1, tVals, tVar, tC, tB, tAnd, tOr, tNot, tAndV, tOrV, tNotV, tIf, tNext, tSeq, tBreak, tCont, tDrop, tRet, tRetN, tIfS, tNever, gName, gNil, gCons, gTup, gSub, tAsg, tPar, tAug, tTest, tChain, tFld, sFld, tNil, tCons, tTup, tLst, tCall, tMeth, tCB, tBM, tNoPart, tPart, tSl, tOp, tUn, rI, rI0, rU, iList, iTup, iRng1, iRng2, iStr, iEnum, iZip, iItems, iVals, tDGet, tDIn, tDNotIn, sDPut, tDGet2, tDNewK, tDNewT, tYes, fin, List.cons_append, List.nil_append, bx, cxOf, Cx.nox]
  refine ⟨_, rfl, isi_yes (.str _) (by decide +kernel) ⟨_, rfl, ?_⟩⟩
  refine ⟨_, rfl, isi_yes (.str _) (by decide +kernel) ⟨_, rfl, ?_⟩⟩
  refine ⟨_, rfl, _, rfl, _, _, rfl, DGet.k (k := .inr x) hd, _, rfl, ?_⟩
  rw [hx]
  refine ⟨_, rfl, _, rfl, _, _, rfl, DGet.k (k := .inr y) hd, _, rfl, ?_⟩
  rw [hy]
  refine ⟨_, rfl, _, rfl, rfl, ?_⟩
  rw [decide_eq_false (show ¬ V.str x = V.str y by intro z; injection z with z; exact ne z)]
  exact hQ _ (Evl.Ex.refl _)
theorem o_want_tie (T : Tx K mg) : FO P w K mg base 4 (He.ga K "want_tie") ["persons", "ties", "number", "thing", "rounds"] sp_want_tie := def_ok T.f_want_tie sc_want_tie (fun _ _ _ _ _ _ us hl => match us, hl with | [_, _, _, _, _], _ => rfl)
    (fun _ _ _ _ h => by obtain ⟨_, _, _, _, _, _, _, _, rfl, _⟩ := h; rfl) fun cdv A outer s H vs Q E hr h => by
  have hu := hu_of hr
  obtain ⟨dp, dt, a, n, rd, ps, kvs, t, rfl, hp, ht, ⟨v, h5, hv⟩, nd, ok, hn, hQ⟩ := h
  refine ⟨_, (pss_cons (ps_if (PW.pt (pw_or (pt_not (pt_val (pe_callB call_isi (by rfl) T.z_isinstance (by decide +kernel) (pa_cons (pv 3) (pa_cons (pe_ty "tuple" (by rfl) T.z_tuple (by decide +kernel)) pa_nil))))) (pw_or1 (pt_cmpR op_ne (pe_callB call_len_seq (by rfl) T.z_len (by decide +kernel) (pa_cons (pv 3) pa_nil)) pe_int (nomark _))))) (pss_one ps_never) pss_nil)
      (pss_cons (ps_asg (pv 3) (pg_tup rfl (pgs_cons (pg_name (i := 5) sc_want_tie.nd rfl (.inl rfl)) (pgs_cons (pg_name (i := 6) sc_want_tie.nd rfl (.inl rfl)) (pgs_cons (pg_name (i := 7) sc_want_tie.nd rfl (.inl rfl)) (pgs_cons (pg_name (i := 8) sc_want_tie.nd rfl (.inl rfl)) (pgs_cons (pg_name (i := 9) sc_want_tie.nd rfl (.inl rfl)) pgs_nil)))))))
      (pss_cons (ps_if (pt_not (pt_val (c_fn (o_is_name T) T.g_is_name (hr.mono (by decide)) (pa_cons (pv 5) pa_nil)))) (pss_one ps_never) pss_nil)
      (pss_cons (ps_if (PW.pt (pw_or (pt_cmp (pc_din hu (pv 5) (pv 0))) (pw_or1 (pt_cmp (pc_din hu (pv 5) (pv 1)))))) (pss_one ps_never) pss_nil)
      (pss_cons (ps_if (pt_not (pt_val (c_fn (o_are_ends T) T.g_are_ends (hr.mono (by decide)) (pa_cons (pv 0) (pa_cons (pv 6) (pa_cons (pv 7) pa_nil)))))) (pss_one ps_never) pss_nil)
      (pss_cons (ps_if (pt_not (pt_val (c_fn (o_is_length T) T.g_is_length (hr.mono (by decide)) (pa_cons (pv 8) (pa_cons (pv 4) pa_nil))))) (pss_one ps_never) pss_nil)
      (pss_one (ps_if (pt_not (pt_val (c_fn (o_are_hearers T) T.g_are_hearers (hr.mono (by decide)) (pa_cons (pv 9) (pa_cons (pv 8) pa_nil))))) (pss_one ps_never) pss_nil)))))))), ?_⟩
  dsimp only [tCKw, tM1, tVals, tVar, tC, tB, tAnd, tOr, tNot, tAndV, tOrV, tNotV, tIf, tNext, tSeq, tBreak, tCont, tDrop, tRet, tRetN, tIfS, tNever, gName, gNil, gCons, gTup, gSub, tAsg, tPar, tAug, tTest, tChain, tFld, sFld, tNil, tCons, tTup, tLst, tCall, tMeth, tCB, tBM, tNoPart, tPart, tSl, tOp, tUn, rI, rI0, rU, iList, iTup, iRng1, iRng2, iStr, iEnum, iZip, iItems, iVals, tDGet, tDIn, tDNotIn, sDPut, tDGet2, tDNewK, tDNewT, tYes, fin, List.cons_append, List.nil_append, bx, cxOf, Cx.nox]
  refine ⟨_, rfl, isi_yes (.tup h5) (by decide +kernel) ⟨_, rfl, ?_⟩⟩
  refine ⟨_, rfl, ⟨_, _, rfl, .inr (sqt h5), rfl, _, rfl, ?_⟩⟩
  refine ⟨_, rfl, _, _, rfl, sqt h5, rfl, _, _, rfl, _, _, rfl, _, _, rfl, _, _, rfl, _, _, rfl, rfl, ?_⟩
  refine ⟨_, rfl, _, rfl, ok.nm, fun H1 e1 => ⟨_, rfl, ?_⟩⟩
  refine ⟨_, rfl, _, rfl, _, _, rfl, DGet.k (k := .inr t.nm) (e1 _ _ hp), ?_⟩
  rw [psD_no ok.fr]
  refine ⟨_, rfl, _, rfl, _, rfl, _, _, rfl, DGet.k (k := .inr t.nm) (e1 _ _ ht), ?_⟩
  rw [hn]
  refine ⟨_, rfl, _, rfl, _, rfl, _, rfl, _, _, _, _, rfl, e1 _ _ hp, psD_some nd ok.one, psD_some nd ok.two, ok.ne, fun H2 e2 => ⟨_, rfl, ?_⟩⟩
  refine ⟨_, rfl, _, rfl, _, _, rfl, ok.len, fun H3 e3 => ⟨_, rfl, ?_⟩⟩
  refine ⟨_, rfl, _, rfl, _, _, _, rfl, hv.mono ((e1.trans e2).trans e3), ok.hs, fun H4 e4 => ⟨_, rfl, ?_⟩⟩
  exact hQ _ (((e1.trans e2).trans e3).trans e4)
end
end K33


set_option Elab.async false
set_option linter.all false
set_option maxRecDepth 100000
set_option maxHeartbeats 4000000
namespace K33
open PySem PySem.Spec PyProof.Rows L2 K33M
abbrev cW (K : PySem.W.Frag) : Addr := He.ga K "Web"
abbrev cN (K : PySem.W.Frag) : Addr := He.ga K "Knots"
abbrev cA (K : PySem.W.Frag) : Addr := He.ga K "Ahead"
def tiK (ts : List Tie) (as : List Addr) : List (Key × V) := List.zipWith (fun t a => (Sum.inr t.nm, V.ref a)) ts as
theorem tiK_at {ts : List Tie} {as : List Addr} {i : Nat} {k : Key} {x : V} (h : (tiK ts as)[i]? = some (k, x)) : ∃ t a, ts[i]? = some t ∧ as[i]? = some a ∧ k = .inr t.nm ∧ x = .ref a := by
  unfold tiK at h
  rw [List.getElem?_zipWith] at h
  split at h
  · next t a h1 h2 =>
    cases h
    exact ⟨t, a, h1, h2, rfl, rfl⟩
  · cases h
theorem tiK_no {ts : List Tie} {as : List Addr} {x : Str} (h : x ∉ ts.map (·.nm)) : valV (tiK ts as) (Sum.inr x) = none := valV_no fun m => by
  obtain ⟨p, hp, e⟩ := List.mem_map.mp m
  obtain ⟨i, hi⟩ := List.getElem?_of_mem hp
  obtain ⟨t, a, h1, _, h3, _⟩ := tiK_at (k := p.1) (x := p.2) hi
  rw [h3] at e
  exact h (List.mem_map.mpr ⟨t, List.mem_of_getElem? h1, Sum.inr.inj e⟩)
theorem tiK_len {ts : List Tie} {as : List Addr} (h : as.length = ts.length) : (tiK ts as).length = ts.length := by
  unfold tiK
  rw [List.length_zipWith]
  omega
structure TsOk (ps : List (Str × Int)) (rd : Bool) (ts : List Tie) : Prop where
  ok : ∀ t ∈ ts, TieOk ps rd t
  nd : (ts.map (·.nm)).Nodup
  hi : ts.length ≤ 12
  hh : (ts.map fun t => t.hs.length).sum ≤ 12
def TsAt (H : Hp) (as : List Addr) (ts : List Tie) : Prop := Paired (fun (a : Addr) (t : Tie) => Tie5 H a t) as ts
def T4At (H : Hp) (as : List Addr) (ts : List Tie) : Prop := Paired (fun (a : Addr) (t : Tie) => Tie4 H a t) as ts
theorem T4At.mono {H H' : Hp} (e : Ex H H') {as : List Addr} {ts : List Tie} (h : T4At H as ts) : T4At H' as ts := pr_mono h fun _ _ q => q.mono e
theorem sum_cast {α : Type} (f : α → Nat) : ∀ l : List α, (l.map fun x => ((f x : Nat) : Int)).sum = (((l.map f).sum : Nat) : Int)
  | [] => rfl
  | a :: l => by
    simp only [List.map_cons, List.sum_cons]
    rw [sum_cast f l]
    omega
def sp_ties_read : Sp := fun vs H Q _ => ∃ (dp a : Addr) (as : List Addr) (ps : List (Str × Int)) (ts : List Tie) (rd : Bool), vs = [.ref dp, .ref a, .bl rd] ∧ H dp = some (.dK (psD ps)) ∧ H a = some (.lst (as.map V.ref)) ∧ TsAt H as ts ∧ PsOk ps ∧ TsOk ps rd ts ∧
  ∀ p H' tas, H p = none → Ex H H' → H' p = some (.dK (tiK ts tas)) → T4At H' tas ts → Q (.ref p) H'
def sp_Web_init (K : PySem.W.Frag) : Sp := fun vs H Q _ => ∃ (x dx ap at' : Addr) (as bs : List Addr) (W : Web), vs = [.ref x, .ref ap, .ref at', .bl W.rd] ∧ H x = some (.ins (cW K) dx []) ∧
  (H ap = some (.lst (as.map V.ref)) ∧ Paired (fun b (q : Str × Int) => H b = some (.tup [.str q.1, .int q.2])) as W.ps) ∧ (H at' = some (.lst (bs.map V.ref)) ∧ TsAt H bs W.ts) ∧ PsOk W.ps ∧ TsOk W.ps W.rd W.ts ∧
  ∀ r H', H r = none → Ex (hid x H) H' → WebAt (cW K) H' x W r → H' r = some (.lst []) → Q .non H'
section
variable {P : Program} {w : World} {K : PySem.W.Frag} {mg : Str → Option Value} {base : Heap}
theorem o_ties_read (T : Tx K mg) : FO P w K mg base 5 (He.ga K "ties_read") ["persons", "thing", "rounds"] sp_ties_read := def_ok T.f_ties_read sc_ties_read (fun _ _ _ _ _ _ us hl => match us, hl with | [_, _, _], _ => rfl)
    (fun _ _ _ _ h => by obtain ⟨_, _, _, _, _, _, rfl, _⟩ := h; rfl) fun cdv A outer s H vs Q E hr h => by
  have hu := hu_of hr
  obtain ⟨_, hi_MOST_HEARERS, ri_MOST_HEARERS⟩ := T.i_MOST_HEARERS
  obtain ⟨_, hi_MOST_TIES, ri_MOST_TIES⟩ := T.i_MOST_TIES
  obtain ⟨dp, a, as, ps, ts, rd, rfl, hdp, ha, hp, po, ok, hQ⟩ := h
  have hl : as.length = ts.length := pr_len hp
  refine ⟨_, (pss_cons (ps_if (PW.pt (pw_and (pt_not (pt_val (pe_callB call_isi (by rfl) T.z_isinstance (by decide +kernel) (pa_cons (pv 1) (pa_cons (pe_ty "list" (by rfl) T.z_list (by decide +kernel)) pa_nil))))) (pw_and1 (pt_cmpR (op_neD hr.units) (pv 1) (pe_tupF pa_nil) (nomark _))))) (pss_one ps_never) pss_nil)
      (pss_cons (ps_set (i := 3) sc_ties_read.nd rfl (.inl rfl) pe_dnewK)
      (pss_cons (ps_for PassesOwn.never rfl (pi_enum (by rfl) T.z_enumerate (pa_cons (pv 1) pa_nil)) (pg_tup rfl (pgs_cons (pg_name (i := 4) sc_ties_read.nd rfl (.inl rfl)) (pgs_cons (pg_name (i := 5) sc_ties_read.nd rfl (.inl rfl)) pgs_nil)))
        (pss_cons (ps_expr (c_fn (o_want_tie T) T.g_want_tie (hr.mono (by decide)) (pa_cons (pv 0) (pa_cons (pv 3) (pa_cons (pv 4) (pa_cons (pv 5) (pa_cons (pv 2) pa_nil)))))))
        (pss_one (ps_dput hu (pv 3) (pe_ix ix_tup (pv 5) pe_int (fun _ _ => rfl)) (pe_slice sl_tup (pv 5) (po_some pe_int) po_none) rfl))))
      (pss_cons (ps_if (pt_cmpR op_gt (pe_callB call_lenD (by rfl) T.z_len (by decide +kernel) (pa_cons (pv 3) pa_nil)) (pe_glob rfl hi_MOST_TIES ri_MOST_TIES) (nomark _)) (pss_one ps_never) pss_nil)
      (pss_cons (ps_if (pt_cmpR op_gt (pe_callB (cr_sum rfl) (by rfl) T.z_sum (by decide +kernel) (pa_cons (pe_lock (pe_lc (own := [("tie", 5)]) rfl sc_ties_read.nd (pi_values (pv 3)) (blkOk_by (by rfl)) (fun _ _ _ _ _ => (pg_name (i := 5) sc_ties_read.nd rfl (.inl rfl))) (fun _ _ _ _ _ => pts_nil) (fun _ _ _ _ _ => (pe_callB (call_len_seqK (K := K) rfl) (by rfl) T.z_len (by decide +kernel) (pa_cons (pe_ix (ix_tupK (K := K) rfl) (pv 5) pe_int (fun _ _ => rfl)) pa_nil))))) pa_nil)) (pe_glob rfl hi_MOST_HEARERS ri_MOST_HEARERS) (nomark _)) (pss_one ps_never) pss_nil)
      (pss_one (ps_ret (pv 3)))))))), ?_⟩
  dsimp only [tCKw, tM1, tVals, tVar, tC, tB, tAnd, tOr, tNot, tAndV, tOrV, tNotV, tIf, tNext, tSeq, tBreak, tCont, tDrop, tRet, tRetN, tIfS, tNever, gName, gNil, gCons, gTup, gSub, tAsg, tPar, tAug, tTest, tChain, tFld, sFld, tNil, tCons, tTup, tLst, tCall, tMeth, tCB, tBM, tNoPart, tPart, tSl, tOp, tUn, rI, rI0, rU, iList, iTup, iRng1, iRng2, iStr, iEnum, iZip, iItems, iVals, tDGet, tDIn, tDNotIn, sDPut, tDGet2, tDNewK, tDNewT, tYes, fin, List.cons_append, List.nil_append, bx, cxOf, Cx.nox]
  refine ⟨_, rfl, isi_yes (.lst ha) (by decide +kernel) ⟨_, rfl, fun D hD => ?_⟩⟩
  have e0 : Ex H (upd H D (.dK [])) := Evl.Ex.new hD
  refine ⟨_, rfl, a, _, rfl, sql (e0 _ _ ha), for_it (walk_enum (xs := as.map V.ref)) (fun i σ H' => Ex H H' ∧ ∃ x4 x5 tas, σ = [some (.ref dp), some (.ref a), some (.bl rd), some (.ref D), x4, x5] ∧ H' D = some (.dK (tiK (ts.take i) tas)) ∧ T4At (hid D H') tas (ts.take i)) ?_ (fun i σ H' _ p => sql (p.1 _ _ ha)) (fun i x σ H2 H' hi p y => ?_) fun σ H' p => ?_⟩
  · exact ⟨e0, _, _, [], rfl, upd_same, .nil⟩
  · obtain ⟨e, x4, x5, tas, rfl, hd, h4⟩ := p
    obtain ⟨T0, y1, y2, rfl, hT, rfl, hy1, hy2⟩ := y
    rw [List.length_map] at hi
    have hy2 : (as.map V.ref)[i]? = some y2 := hy2
    rw [List.getElem?_map, List.getElem?_eq_getElem hi] at hy2
    cases hy1
    have hy2 : some (V.ref as[i]) = some y2 := hy2
    cases hy2
    obtain ⟨t, ht, hp1⟩ := pr_at hp (List.getElem?_eq_getElem hi)
    have htm := List.mem_of_getElem? ht
    have hno : t.nm ∉ (ts.take i).map (·.nm) := fun m => by
      have n := ok.nd
      rw [← List.take_append_drop i ts, List.map_append, List.nodup_append] at n
      have hq2 : t ∈ ts.drop i := List.mem_of_getElem? (i := 0) (by rw [List.getElem?_drop]; exact ht)
      exact n.2.2 _ m _ (List.mem_map_of_mem hq2) rfl
    have e1 : Ex H2 (upd H2 T0 (.tup [.int (i : Nat), .ref as[i]])) := Evl.Ex.new hT
    obtain ⟨v, h5, hv⟩ := hp1.mono (e.trans e1)
    dsimp only [tCKw, tM1, tVals, tVar, tC, tB, tAnd, tOr, tNot, tAndV, tOrV, tNotV, tIf, tNext, tSeq, tBreak, tCont, tDrop, tRet, tRetN, tIfS, tNever, gName, gNil, gCons, gTup, gSub, tAsg, tPar, tAug, tTest, tChain, tFld, sFld, tNil, tCons, tTup, tLst, tCall, tMeth, tCB, tBM, tNoPart, tPart, tSl, tOp, tUn, rI, rI0, rU, iList, iTup, iRng1, iRng2, iStr, iEnum, iZip, iItems, iVals, tDGet, tDIn, tDNotIn, sDPut, tDGet2, tDNewK, tDNewT, tYes, fin, List.cons_append, List.nil_append, bx, cxOf, Cx.nox]
    refine ⟨_, _, rfl, sqt upd_same, rfl, _, _, rfl, _, _, rfl, rfl, ?_⟩
    refine ⟨_, rfl, _, rfl, _, rfl, _, rfl, _, rfl, _, _, _, _, _, ps, _, t, rfl, (e.trans e1) _ _ hdp, e1 _ _ hd, ⟨v, h5, hv⟩, po.nd, ok.ok t htm, tiK_no hno, fun H3 e3 => ?_⟩
    refine ⟨_, rfl, _, rfl, _, _, rfl, sqt (e3 _ _ h5), (fun z => nomatch (show (1 : Nat) = 0 from z.1)), fun q hq => ?_⟩
    refine ⟨_, rfl, _, rfl, _, _, _, _, rfl, rfl, Evl.ex_t (Evl.Ex.new hq) (sqt (e3 _ _ h5)), rfl, ?_⟩
    have e4 : Ex H3 (upd H3 q (.tup (cutV [.str t.nm, .str t.one, .str t.other, .int t.len, v] (some 1) none))) := Evl.Ex.new hq
    have hd4 := e4 _ _ (e3 _ _ (e1 _ _ hd))
    have hl2 : tas.length = (ts.take i).length := pr_len h4
    refine ⟨_, _, rfl, DPut.k (k := .inr t.nm) hd4 (Evl.sz_lt ?_), ?_⟩
    · rw [tiK_len hl2]
      have := ok.hi
      rw [List.length_take]
      omega
    · refine ⟨(((e.trans e1).trans e3).trans e4).mut hD, _, _, tas ++ [q], rfl, ?_, ?_⟩
      · rw [upd_same, putK_new _ (tiK_no hno), List.take_succ, ht]
        unfold tiK
        rw [List.zipWith_append hl2.symm]
        rfl
      · rw [List.take_succ, ht]
        have hqD : q ≠ D := fun z => by rw [z, e3 _ _ (e1 _ _ hd)] at hq; cases hq
        have ee : Ex (hid D H2) (hid D (upd (upd H3 q (.tup (cutV [.str t.nm, .str t.one, .str t.other, .int t.len, v] (some 1) none))) D (.dK (putK (tiK (ts.take i) tas) (.inr t.nm) (.ref q))))) := ex_hid ((hid_ex.trans ((e1.trans e3).trans e4)).mut hid_same) hid_same
        refine Paired.snoc (h4.mono ee) ⟨v, ?_, ?_⟩
        · rw [hid_ne hqD, upd_ne hqD, upd_same]
          rfl
        · have hv2 : HsAt (hid D (upd H2 T0 (.tup [.int (i : Nat), .ref as[i]]))) v t.hs := by
            obtain ⟨v', h5', hv'⟩ := hp1
            have := (e.trans e1) _ _ h5'
            rw [h5] at this
            cases this
            exact hv'.mono (ex_hid (e.trans e1) hD)
          exact hv2.mono (ex_hid ((hid_ex.trans (e3.trans e4)).mut hid_same) hid_same)
  · obtain ⟨e, x4, x5, tas, rfl, hd, h4⟩ := p
    rw [List.length_map, hl, List.take_length] at hd h4
    have hl2 : tas.length = ts.length := pr_len h4
    dsimp only [tCKw, tM1, tVals, tVar, tC, tB, tAnd, tOr, tNot, tAndV, tOrV, tNotV, tIf, tNext, tSeq, tBreak, tCont, tDrop, tRet, tRetN, tIfS, tNever, gName, gNil, gCons, gTup, gSub, tAsg, tPar, tAug, tTest, tChain, tFld, sFld, tNil, tCons, tTup, tLst, tCall, tMeth, tCB, tBM, tNoPart, tPart, tSl, tOp, tUn, rI, rI0, rU, iList, iTup, iRng1, iRng2, iStr, iEnum, iZip, iItems, iVals, tDGet, tDIn, tDNotIn, sDPut, tDGet2, tDNewK, tDNewT, tYes, fin, List.cons_append, List.nil_append, bx, cxOf, Cx.nox]
    refine ⟨_, rfl, _, _, rfl, hd, _, _, rfl, rfl, _, rfl, ?_⟩
    rw [tiK_len hl2, decide_eq_false (show ¬ (12 : Int) < (ts.length : Int) by have := ok.hi; omega)]
    refine ⟨D, _, hd, True.intro, fun od => ?_⟩
    have hDz : H' D ≠ none := by rw [hd]; exact fun z => nomatch z
    refine ⟨_, rfl, D, od, _, rfl, upd_same, lc_pick walk_values (fun _ => true) (fun i _ y => ∃ t, ts[i]? = some t ∧ y = .int (t.hs.length : Nat)) (by rw [tiK_len hl2]; have := ok.hi; omega) (fun H e => e _ _ upd_same) (fun _ _ _ _ _ r => r) gm_name (fun i y H1 H2 hi e2 Y => ?_) fun L H1 ys hL e2 hys pk => ?_⟩
    · obtain ⟨rfl, k, hk⟩ := Y
      obtain ⟨t, b, ht, hb, rfl, rfl⟩ := tiK_at hk
      obtain ⟨t', ht', v, hv, ha4, zs, rfl, hz, hpz⟩ := pr_at h4 hb
      rw [ht] at ht'
      cases ht'
      have ee : Ex (hid D H') H2 := fun x o hx => by
        have hxD : x ≠ D := fun z => by rw [z, hid_same] at hx; cases hx
        rw [hid_ne hxD] at hx
        exact e2 _ _ (by rw [upd_ne hxD]; exact hx)
      refine ⟨rfl, fun Qy Qn k _ => ⟨_, rfl, b, _, _, _, rfl, rfl, sqt (ee _ _ hv), rfl, _, _, rfl, .inr (hz.mono ee).sq, ?_⟩⟩
      refine k rfl _ _ (Evl.Ex.refl _) ⟨t, ht, ?_⟩
      rw [List.length_map, pr_len hpz]
    · have hLD : L ≠ D := fun z => by rw [z, upd_same] at hL; cases hL
      have pk2 := pk.all
      rw [tiK_len hl2] at pk2
      have e3 := paired_eq (f := fun t : Tie => V.int ((t.hs.length : Nat) : Int)) (pr_range (S := fun (t : Tie) (y : V) => y = V.int ((t.hs.length : Nat) : Int)) pk2 fun i t y h1 ⟨t', h2, h3⟩ => by
        rw [h1] at h2
        cases h2
        exact h3)
      refine ⟨e2 _ _ upd_same, L, ts.map fun t => ((t.hs.length : Nat) : Int), rfl, sql ?_, _, _, rfl, rfl, ⟨_, rfl, ?_⟩⟩
      · rw [upd_ne hLD, hys, e3, List.map_map]
        rfl
      · rw [sum_cast, decide_eq_false (show ¬ (12 : Int) < (((ts.map fun t => t.hs.length).sum : Nat) : Int) by have := ok.hh; omega)]
        have ee : Ex H' (upd H1 D (.dK (tiK ts tas))) := fun x o hx => by
          by_cases hxD : x = D
          · rw [hxD, upd_same, ← hd, ← hxD, hx]
          · rw [upd_ne hxD]
            exact e2 _ _ (by rw [upd_ne hxD]; exact hx)
        exact ⟨_, rfl, hQ _ _ _ hD (e.trans ee) upd_same (h4.mono (hid_ex.trans ee))⟩
theorem hid_of {H : Hp} {x a : Addr} {o o0 : HO} (hx : H x = some o0) (h : H a = some o) (n : o ≠ o0) : hid x H a = some o := by
  rw [hid_ne fun z => by rw [z, hx] at h; cases h; exact n rfl]
  exact h
/-- neither a tuple nor a locked one -/
structure NoTup (o : HO) : Prop where
  a : ∀ xs, HO.tup xs ≠ o
  b : ∀ u xs, HO.frz u (.tup xs) ≠ o
theorem HsAt.hid {H : Hp} {x : Addr} {o0 : HO} (hx : H x = some o0) (n : NoTup o0) {v : V} {hs : List (Int × Int)} (h : HsAt H v hs) : HsAt (hid x H) v hs :=
  let ⟨a, ps, e, ⟨o, h1, h2⟩, h3⟩ := h
  ⟨a, ps, e, ⟨o, hid_of hx h1 (n.b _ _), h2⟩, pr_mono h3 fun _ _ q => hid_of hx q (n.a _)⟩
theorem Tie5.hid {H : Hp} {x a : Addr} {o0 : HO} (hx : H x = some o0) (n : NoTup o0) {t : Tie} (h : Tie5 H a t) : Tie5 (hid x H) a t :=
  let ⟨v, h1, h2⟩ := h; ⟨v, hid_of hx h1 (n.a _), h2.hid hx n⟩
theorem vals_app : ∀ {a : List V} {b : List Value} {c : List V} {d : List Value}, Vals a b → Vals c d → Vals (a ++ c) (b ++ d)
  | _, _, _, _, .nil, h => h
  | _, _, _, _, .cons r t, h => .cons r (vals_app t h)
theorem Tie4.hid {H : Hp} {x a : Addr} {o0 : HO} (hx : H x = some o0) (n : NoTup o0) {t : Tie} (h : Tie4 H a t) : Tie4 (hid x H) a t :=
  let ⟨v, h1, h2⟩ := h; ⟨v, hid_of hx h1 (n.a _), h2.hid hx n⟩
theorem noTup_ins {C dx : Addr} {fs : List (Str × V)} : NoTup (.ins C dx fs) := ⟨(fun _ z => nomatch z), (fun _ _ z => nomatch z)⟩
theorem noTup_dK {kvs : List (Key × V)} : NoTup (.dK kvs) := ⟨(fun _ z => nomatch z), (fun _ _ z => nomatch z)⟩
theorem noTup_lst {xs : List V} : NoTup (.lst xs) := ⟨(fun _ z => nomatch z), (fun _ _ z => nomatch z)⟩
abbrev webPs : List Str := ["self", "persons", "ties", "rounds"]
theorem web_bind (Tt : Addr) (D doc pm : Value) (an : Option Addr) (cdv ct a b c d it : Value) : ∃ k, bindArgs (PySem.W.fnOf "__init__" "Web.__init__" (defArgs s_Web_init) (defBody s_Web_init) (defScope s_Web_init) (.ref Tt) D doc pm an cdv ct) ⟨[a, b, c], [((Str.ofString "rounds"), d)]⟩ = seqItems? (.ref Tt) >>= k ∧ k (some #[it]) = pure (webPs.zip [a,b,c,d]) := by
  refine ⟨_, rfl, ?_⟩
  simp only [Option.getD_some]
  exact (if_neg (fun z => Bool.noConfusion (show false = true from z))).trans rfl
theorem fn_ok {x qual : Str} {st : Stmt} {f : Addr} {N ps : List Str} {k : Nat} {sp : Sp} {dvs : List V} {kws : List (Str × V)} {fd : FuncData} (F : FunD K x qual (defArgs st) (defBody st) (defScope st) dvs kws f fd) (S : FnScope N ps (defScope st))
    (len : ∀ vs H Q E, sp vs H Q E → vs.length = ps.length)
    (body : ∀ (cdv : Value) (A : Around) (outer : List Env) (s : Shared) (H : Hp) (vs : List V) (Q : VK) (E : XK), Room k (A.deeper (envOfC qual (defScope st) s.heap.objs.size f cdv)) → sp vs H Q E →
      ∃ t, PSs (bx P w K mg base N qual st f cdv A outer s H E) (defBody st) t ∧ t (fin Q) (start N vs) H) : FnOk P w K mg base CX0 (k + 1) f fd ps sp :=
  F.ok S len fun cdv A outer s H vs Q E hr h => by
    obtain ⟨t, h1, h2⟩ := body cdv A outer s H vs Q E hr h
    exact ⟨t, h1.nox, h2⟩
theorem o_Web_init (T : Tx K mg) : ∃ fd, FnOk P w K mg base CX0 6 (He.ma K (cW K) "__init__") fd ["self", "persons", "ties", "rounds"] (sp_Web_init K) ∧ ∃ g : List Value → List Value → List Value, KBn K fd ["self", "persons", "ties", "rounds"] 3 ["rounds"] g (fun vs zs => vs ++ zs) := by
  obtain ⟨fd, F⟩ := T.f_Web_init
  refine ⟨fd, fn_ok F sc_Web_init (fun _ _ _ _ h => by obtain ⟨_, _, _, _, _, _, _, rfl, _⟩ := h; rfl) (fun cdv A outer s H vs Q E hr h => ?_), ?_⟩
  · have hu := hu_of hr
    obtain ⟨x, dx, ap, at', as, bs, W, rfl, hx, ⟨ha, hap⟩, ⟨hb, hbp⟩, po, ok, hQ⟩ := h
    refine ⟨_, (pss_cons (ps_fld (pv 0) (pv 3) rfl)
      (pss_cons (ps_fld (pv 0) (c_fn (o_persons_read T) T.g_persons_read (hr.mono (by decide)) (pa_cons (pv 1) pa_nil)) rfl)
      (pss_cons (ps_fld (pv 0) (c_fn (o_ties_read T) T.g_ties_read (hr.mono (by decide)) (pa_cons (pe_fld (pv 0) rfl) (pa_cons (pv 2) (pa_cons (pv 3) pa_nil)))) rfl)
      (pss_one (ps_fld (pv 0) (pe_lst pa_nil) rfl))))), ?_⟩
    dsimp only [tCKw, tM1, tVals, tVar, tC, tB, tAnd, tOr, tNot, tAndV, tOrV, tNotV, tIf, tNext, tSeq, tBreak, tCont, tDrop, tRet, tRetN, tIfS, tNever, gName, gNil, gCons, gTup, gSub, tAsg, tPar, tAug, tTest, tChain, tFld, sFld, tNil, tCons, tTup, tLst, tCall, tMeth, tCB, tBM, tNoPart, tPart, tSl, tOp, tUn, rI, rI0, rU, iList, iTup, iRng1, iRng2, iStr, iEnum, iZip, iItems, iVals, tDGet, tDIn, tDNotIn, sDPut, tDGet2, tDNewK, tDNewT, tYes, fin, List.cons_append, List.nil_append, bx, cxOf, Cx.nox]
    have nx : ∀ {a : Addr} {o : HO}, H a = some o → (∀ C d fs, o ≠ .ins C d fs) → a ≠ x := fun h n z => by
      rw [z, hx] at h
      cases h
      exact n _ _ _ rfl
    have f1 : ∀ (H1 : Hp) (fs : List (Str × V)), Ex (hid x H) H1 → Ex (hid x H) (upd H1 x (.ins (cW K) dx fs)) := fun H1 fs e => e.mut hid_same
    have v0 : ∀ {a : Addr} {o : HO}, H a = some o → (∀ C d fs, o ≠ .ins C d fs) → hid x H a = some o := fun h n => by rw [hid_ne (nx h n)]; exact h
    refine ⟨_, rfl, _, rfl, x, _, dx, _, rfl, hx, T.c_Web, T.n_Web_is_of_rounds, Nat.lt_of_sub_eq_succ rfl, ?_⟩
    have e1 := f1 _ (putF "is_of_rounds" (V.bl W.rd) []) (hid_ex (p := x) (H := H))
    refine ⟨_, rfl, ap, as, W.ps, rfl, e1 _ _ (v0 ha fun _ _ _ z => nomatch z), pr_mono hap fun b q h => e1 _ _ (v0 h fun _ _ _ z => nomatch z), po, fun ds H2 hds e2 hd2 => ?_⟩
    have hx2 := e2 _ _ upd_same
    refine ⟨_, rfl, x, _, dx, _, rfl, hx2, T.c_Web, T.n_Web_own_states, Nat.lt_of_sub_eq_succ rfl, ?_⟩
    have e3 := f1 _ (putF "own_states" (V.ref ds) (putF "is_of_rounds" (V.bl W.rd) [])) (e1.trans e2)
    have hdsx : ds ≠ x := fun z => by rw [z, upd_same] at hds; cases hds
    refine ⟨_, rfl, x, _, dx, _, _, rfl, upd_same, T.c_Web, T.n_Web_own_states, rfl, _, rfl, _, rfl, ds, at', bs, W.ps, W.ts, W.rd, rfl, by rw [upd_ne hdsx]; exact hd2, e3 _ _ (v0 hb fun _ _ _ z => nomatch z), ?_, po, ok, fun dt H4 tas hdt e4 hd4 h4 => ?_⟩
    · exact pr_mono hbp fun b t h => (h.hid hx noTup_ins).mono e3
    have hx4 := e4 _ _ upd_same
    have hdtx : dt ≠ x := fun z => by rw [z, upd_same] at hdt; cases hdt
    refine ⟨_, rfl, x, _, dx, _, rfl, hx4, T.c_Web, T.n_Web_own_ties, Nat.lt_of_sub_eq_succ rfl, Nat.zero_le _, fun r hr => ?_⟩
    have hrx : r ≠ x := fun z => by rw [z, upd_same] at hr; cases hr
    have e5 := f1 _ (putF "own_ties" (V.ref dt) (putF "own_states" (V.ref ds) (putF "is_of_rounds" (V.bl W.rd) []))) (e3.trans e4)
    refine ⟨_, rfl, x, _, dx, _, rfl, (Evl.Ex.new hr) _ _ upd_same, T.c_Web, T.n_Web_reckoned, Nat.lt_of_sub_eq_succ rfl, ?_⟩
    have e6 := f1 _ (putF "reckoned" (V.ref r) (putF "own_ties" (V.ref dt) (putF "own_states" (V.ref ds) (putF "is_of_rounds" (V.bl W.rd) [])))) (e5.trans (Evl.Ex.new (o := .lst []) hr))
    have hrn : H r = none := by
      cases hh : H r with
      | none => rfl
      | some o =>
        rw [e5 r o (by rw [hid_ne hrx]; exact hh)] at hr
        cases hr
    refine hQ r _ hrn e6 ⟨dx, ds, dt, tas, upd_same, ?_, ?_, ?_⟩ (by rw [upd_ne hrx, upd_same])
    · rw [upd_ne hdsx]
      have := e4 ds _ (by rw [upd_ne hdsx]; exact hd2)
      exact (Evl.Ex.new hr) _ _ (by rw [upd_ne hdsx]; exact this)
    · rw [upd_ne hdtx]
      exact (Evl.Ex.new hr) _ _ (by rw [upd_ne hdtx]; exact hd4)
    · exact pr_mono h4 fun b t h => (h.hid hx4 noTup_ins).mono (((hid_ex.mut hid_same).trans (Evl.Ex.new hr)).mut hid_same)
  · obtain ⟨its, mv, kb⟩ := F.kbinds 3 ["rounds"] [] (fun us its mv ws => us ++ ws) (fun z => nomatch (show (_ :: _ : List V) = [] from z)) (fun z => nomatch (show (_ :: _ : List (Str × V)) = [] from z)) (fun q hq => by cases hq) (fun r _ _ z => vals_app r z) fun Tt D doc pm an cdv ct us its mv ws l1 l2 l3 l4 => by
      match us, l1, its, l2, mv, l3, ws, l4 with
      | [_, _, _], _, [_], _, [], _, [_], _ => exact web_bind Tt (.ref D) doc pm an cdv ct _ _ _ _ _
    exact ⟨_, kb⟩
end
end K33


set_option Elab.async false
set_option linter.all false
set_option maxRecDepth 100000
set_option maxHeartbeats 4000000
namespace K33
open PySem PySem.Spec PyProof.Rows L2 K33M
/-! ### what a web tells -/
def hsSt (hs : List (Int × Int)) (i : Int) : Int := match hs.find? (fun q => decide (q.1 = i)) with | some q => q.2 | none => 0
def psSt (ps : List (Str × Int)) (x : Str) : Int := match ps.find? (fun q => decide (q.1 = x)) with | some q => q.2 | none => 0
def tieOf (ts : List Tie) (x : Str) : Option Tie := ts.find? (fun t => decide (t.nm = x))
def stOf (W : Web) : Spot → Int
  | .p x => psSt W.ps x
  | .h n i => match tieOf W.ts n with | some t => hsSt t.hs i | none => 0
structure WOk (W : Web) : Prop where
  ps : PsOk W.ps
  ts : TsOk W.ps W.rd W.ts
def SpotIn (W : Web) : Spot → Prop
  | .p x => x ∈ W.ps.map (·.1)
  | .h n i => ∃ t ∈ W.ts, t.nm = n ∧ 0 < i ∧ i < t.len
theorem tieOf_eq : ∀ {ts : List Tie} {t : Tie}, (ts.map (·.nm)).Nodup → t ∈ ts → tieOf ts t.nm = some t
  | [], _, _, h => by cases h
  | u :: ts, t, n, h => by
    rw [List.map_cons, List.nodup_cons] at n
    unfold tieOf
    rw [List.find?_cons]
    by_cases e : u.nm = t.nm
    · rw [decide_eq_true e]
      rcases List.mem_cons.mp h with z | z
      · rw [z]
      · exact absurd (List.mem_map.mpr ⟨t, z, e.symm⟩) n.1
    · rw [decide_eq_false e]
      rcases List.mem_cons.mp h with z | z
      · exact absurd (by rw [z]) e
      · exact tieOf_eq n.2 z
theorem valV_psD : ∀ (ps : List (Str × Int)) (x : Str), x ∈ ps.map (·.1) → valV (psD ps) (.inr x) = some (.int (psSt ps x))
  | [], _, h => by cases h
  | q :: ps, x, h => by
    unfold psD psSt
    rw [List.map_cons, List.find?_cons]
    by_cases e : q.1 = x
    · rw [valV_pos (show (Sum.inr q.1 : Key) = .inr x by rw [e]), decide_eq_true e]
    · rw [valV_neg (show ¬ (Sum.inr q.1 : Key) = .inr x from fun z => e (Sum.inr.inj z)), decide_eq_false e]
      rcases List.mem_cons.mp (by rw [List.map_cons] at h; exact h) with z | z
      · exact absurd z.symm e
      · exact valV_psD ps x z
def hsD (hs : List (Int × Int)) : List (Key × V) := hs.map fun q => (Sum.inl q.1, V.int q.2)
theorem valV_hsD : ∀ (hs : List (Int × Int)) (i : Int), (valV (hsD hs) (.inl i)).getD (.int 0) = .int (hsSt hs i)
  | [], _ => rfl
  | q :: hs, i => by
    unfold hsD hsSt
    rw [List.map_cons, List.find?_cons]
    by_cases e : q.1 = i
    · rw [valV_pos (show (Sum.inl q.1 : Key) = .inl i by rw [e]), decide_eq_true e]
      rfl
    · rw [valV_neg (show ¬ (Sum.inl q.1 : Key) = .inl i from fun z => e (Sum.inl.inj z)), decide_eq_false e]
      exact valV_hsD hs i
theorem hs_nodup {l : Int} {hs : List (Int × Int)} (h : HsOk l hs) : (hs.map (·.1)).Nodup := by
  refine (List.pairwise_map.mpr ?_)
  exact h.1.imp fun {a b} z => by omega
theorem tiK_yes {ts : List Tie} {as : List Addr} {H : Hp} {t : Tie} (n : (ts.map (·.nm)).Nodup) (h4 : T4At H as ts) (h : t ∈ ts) : ∃ a, valV (tiK ts as) (.inr t.nm) = some (.ref a) ∧ Tie4 H a t := by
  obtain ⟨i, hi⟩ := List.getElem?_of_mem h
  obtain ⟨a, ha, q⟩ := pr_back h4 hi
  refine ⟨a, valV_nd ?_ (List.mem_of_getElem? (i := i) ?_), q⟩
  · have e : (tiK ts as).map (·.1) = (ts.map (·.nm)).map (Sum.inr : Str → Key) := by
      apply List.ext_getElem?
      intro j
      unfold tiK
      rw [List.getElem?_map, List.getElem?_zipWith, List.getElem?_map, List.getElem?_map]
      cases e1 : ts[j]? with
      | none => rfl
      | some t' =>
        obtain ⟨b, hb, _⟩ := pr_back h4 e1
        rw [hb]
        rfl
    rw [e]
    exact nodup_map (fun _ _ z => Sum.inr.inj z) n
  · unfold tiK
    rw [List.getElem?_zipWith, hi, ha]
theorem tiK_none {ts : List Tie} {as : List Addr} {x : Str} (h : x ∉ ts.map (·.nm)) : (valV (tiK ts as) (.inr x)).isSome = false := by rw [tiK_no h]; rfl
def sp_Web_rounds (K : PySem.W.Frag) : Sp := fun vs H Q _ => ∃ (p r : Addr) (W : Web), vs = [.ref p] ∧ WebAt (cW K) H p W r ∧ ∀ H', Ex H H' → Q (.bl W.rd) H'
def sp_Web_persons (K : PySem.W.Frag) : Sp := fun vs H Q _ => ∃ (p r : Addr) (W : Web), vs = [.ref p] ∧ WebAt (cW K) H p W r ∧ ∀ l H', H l = none → Ex H H' → H' l = some (.lst (W.ps.map fun q => V.str q.1)) → Q (.ref l) H'
def sp_Web_ties (K : PySem.W.Frag) : Sp := fun vs H Q _ => ∃ (p r : Addr) (W : Web), vs = [.ref p] ∧ WebAt (cW K) H p W r ∧ ∀ l H', H l = none → Ex H H' → H' l = some (.lst (W.ts.map fun t => V.str t.nm)) → Q (.ref l) H'
def sp_Web_has_person (K : PySem.W.Frag) : Sp := fun vs H Q _ => ∃ (p r : Addr) (W : Web) (x : Str), vs = [.ref p, .str x] ∧ WebAt (cW K) H p W r ∧ x ∈ W.ps.map (·.1) ∧ ∀ H', Ex H H' → Q (.bl true) H'
def sp_Web_has_tie (K : PySem.W.Frag) : Sp := fun vs H Q _ => ∃ (p r : Addr) (W : Web) (t : Tie), vs = [.ref p, .str t.nm] ∧ WebAt (cW K) H p W r ∧ WOk W ∧ t ∈ W.ts ∧ ∀ H', Ex H H' → Q (.bl true) H'
def sp_Web_tie_of (K : PySem.W.Frag) : Sp := fun vs H Q _ => ∃ (p r : Addr) (W : Web) (t : Tie), vs = [.ref p, .str t.nm] ∧ WebAt (cW K) H p W r ∧ WOk W ∧ t ∈ W.ts ∧ ∀ a H', Ex H H' → Tie4 H' a t → Q (.ref a) H'
def sp_Web_ends (K : PySem.W.Frag) : Sp := fun vs H Q _ => ∃ (p r : Addr) (W : Web) (t : Tie), vs = [.ref p, .str t.nm] ∧ WebAt (cW K) H p W r ∧ WOk W ∧ t ∈ W.ts ∧ ∀ a H', Ex H H' → H' a = some (.tup [.str t.one, .str t.other]) → Q (.ref a) H'
def sp_Web_length (K : PySem.W.Frag) : Sp := fun vs H Q _ => ∃ (p r : Addr) (W : Web) (t : Tie), vs = [.ref p, .str t.nm] ∧ WebAt (cW K) H p W r ∧ WOk W ∧ t ∈ W.ts ∧ ∀ H', Ex H H' → Q (.int t.len) H'
def sp_Web_hearers (K : PySem.W.Frag) : Sp := fun vs H Q _ => ∃ (p r : Addr) (W : Web) (t : Tie), vs = [.ref p, .str t.nm] ∧ WebAt (cW K) H p W r ∧ WOk W ∧ t ∈ W.ts ∧ ∀ v H', Ex H H' → HsAt H' v t.hs → Q v H'
def sp_Web_has_spot (K : PySem.W.Frag) : Sp := fun vs H Q _ => ∃ (p r : Addr) (W : Web) (y : V) (sp : Spot), vs = [.ref p, y] ∧ WebAt (cW K) H p W r ∧ WOk W ∧ SpV H y sp ∧ SpotIn W sp ∧ ∀ H', Ex H H' → Q (.bl true) H'
def sp_Web_state (K : PySem.W.Frag) : Sp := fun vs H Q _ => ∃ (p r : Addr) (W : Web) (y : V) (sp : Spot), vs = [.ref p, y] ∧ WebAt (cW K) H p W r ∧ WOk W ∧ SpV H y sp ∧ SpotIn W sp ∧ ∀ H', Ex H H' → Q (.int (stOf W sp)) H'
theorem SpV.mono {H H' : Hp} (e : Ex H H') {y : V} : ∀ {sp : Spot}, SpV H y sp → SpV H' y sp
  | .p _, h => h
  | .h _ _, ⟨b, e1, h⟩ => ⟨b, e1, e _ _ h⟩
section
variable {P : Program} {w : World} {K : PySem.W.Frag} {mg : Str → Option Value} {base : Heap}
theorem o_Web_rounds (T : Tx K mg) : FO P w K mg base 1 (He.ma K (He.ga K "Web") "rounds") ["self"] (sp_Web_rounds K) := def_ok T.f_Web_rounds sc_Web_rounds (fun _ _ _ _ _ _ us hl => match us, hl with | [_], _ => rfl)
    (fun _ _ _ _ h => by obtain ⟨_, _, _, rfl, _⟩ := h; rfl) fun cdv A outer s H vs Q E hr h => by
  have hu := hu_of hr
  obtain ⟨p, r, W, rfl, ⟨dx, ds, dt, tas, h1, h2, h3, h4⟩, hQ⟩ := h
  refine ⟨_, (pss_one (ps_ret (pe_fld (pv 0) rfl))), ?_⟩
  dsimp only [tCKw, tM1, tVals, tVar, tC, tB, tAnd, tOr, tNot, tAndV, tOrV, tNotV, tIf, tNext, tSeq, tBreak, tCont, tDrop, tRet, tRetN, tIfS, tNever, gName, gNil, gCons, gTup, gSub, tAsg, tPar, tAug, tTest, tChain, tFld, sFld, tNil, tCons, tTup, tLst, tCall, tMeth, tCB, tBM, tNoPart, tPart, tSl, tOp, tUn, rI, rI0, rU, iList, iTup, iRng1, iRng2, iStr, iEnum, iZip, iItems, iVals, tDGet, tDIn, tDNotIn, sDPut, tDGet2, tDNewK, tDNewT, tYes, fin, List.cons_append, List.nil_append, bx, cxOf, Cx.nox]
  exact ⟨_, rfl, p, _, _, _, _, rfl, h1, T.c_Web, T.n_Web_is_of_rounds, rfl, hQ _ (Evl.Ex.refl _)⟩
theorem o_Web_persons (T : Tx K mg) : FO P w K mg base 1 (He.ma K (He.ga K "Web") "persons") ["self"] (sp_Web_persons K) := def_ok T.f_Web_persons sc_Web_persons (fun _ _ _ _ _ _ us hl => match us, hl with | [_], _ => rfl)
    (fun _ _ _ _ h => by obtain ⟨_, _, _, rfl, _⟩ := h; rfl) fun cdv A outer s H vs Q E hr h => by
  have hu := hu_of hr
  obtain ⟨p, r, W, rfl, ⟨dx, ds, dt, tas, h1, h2, h3, h4⟩, hQ⟩ := h
  refine ⟨_, (pss_one (ps_ret (pe_callTy (call_listD rfl) (by rfl) T.z_list (by decide +kernel) (pa_cons (pe_fld (pv 0) rfl) pa_nil)))), ?_⟩
  dsimp only [tCKw, tM1, tVals, tVar, tC, tB, tAnd, tOr, tNot, tAndV, tOrV, tNotV, tIf, tNext, tSeq, tBreak, tCont, tDrop, tRet, tRetN, tIfS, tNever, gName, gNil, gCons, gTup, gSub, tAsg, tPar, tAug, tTest, tChain, tFld, sFld, tNil, tCons, tTup, tLst, tCall, tMeth, tCB, tBM, tNoPart, tPart, tSl, tOp, tUn, rI, rI0, rU, iList, iTup, iRng1, iRng2, iStr, iEnum, iZip, iItems, iVals, tDGet, tDIn, tDNotIn, sDPut, tDGet2, tDNewK, tDNewT, tYes, fin, List.cons_append, List.nil_append, bx, cxOf, Cx.nox]
  refine ⟨_, rfl, p, _, _, _, _, rfl, h1, T.c_Web, T.n_Web_own_states, rfl, ds, _, rfl, .inl h2, fun l hl => hQ _ _ hl (Evl.Ex.new hl) ?_⟩
  rw [upd_same]
  simp [stD, List.map_map, Function.comp_def, kV]
theorem o_Web_ties (T : Tx K mg) : FO P w K mg base 1 (He.ma K (He.ga K "Web") "ties") ["self"] (sp_Web_ties K) := def_ok T.f_Web_ties sc_Web_ties (fun _ _ _ _ _ _ us hl => match us, hl with | [_], _ => rfl)
    (fun _ _ _ _ h => by obtain ⟨_, _, _, rfl, _⟩ := h; rfl) fun cdv A outer s H vs Q E hr h => by
  have hu := hu_of hr
  obtain ⟨p, r, W, rfl, ⟨dx, ds, dt, tas, h1, h2, h3, h4⟩, hQ⟩ := h
  refine ⟨_, (pss_one (ps_ret (pe_callTy (call_listD rfl) (by rfl) T.z_list (by decide +kernel) (pa_cons (pe_fld (pv 0) rfl) pa_nil)))), ?_⟩
  dsimp only [tCKw, tM1, tVals, tVar, tC, tB, tAnd, tOr, tNot, tAndV, tOrV, tNotV, tIf, tNext, tSeq, tBreak, tCont, tDrop, tRet, tRetN, tIfS, tNever, gName, gNil, gCons, gTup, gSub, tAsg, tPar, tAug, tTest, tChain, tFld, sFld, tNil, tCons, tTup, tLst, tCall, tMeth, tCB, tBM, tNoPart, tPart, tSl, tOp, tUn, rI, rI0, rU, iList, iTup, iRng1, iRng2, iStr, iEnum, iZip, iItems, iVals, tDGet, tDIn, tDNotIn, sDPut, tDGet2, tDNewK, tDNewT, tYes, fin, List.cons_append, List.nil_append, bx, cxOf, Cx.nox]
  refine ⟨_, rfl, p, _, _, _, _, rfl, h1, T.c_Web, T.n_Web_own_ties, rfl, dt, _, rfl, .inl h3, fun l hl => hQ _ _ hl (Evl.Ex.new hl) ?_⟩
  rw [upd_same]
  have e : (tiD W tas).map (fun kv => kV kv.1) = W.ts.map fun t => V.str t.nm := by
    apply List.ext_getElem?
    intro j
    unfold tiD
    rw [List.getElem?_map, List.getElem?_zipWith, List.getElem?_map]
    cases e1 : W.ts[j]? with
    | none => rfl
    | some t' =>
      obtain ⟨b, hb, _⟩ := pr_back h4 e1
      rw [hb]
      rfl
  rw [e]
theorem o_Web_has_person (T : Tx K mg) : FO P w K mg base 1 (He.ma K (He.ga K "Web") "has_person") ["self", "thing"] (sp_Web_has_person K) := def_ok T.f_Web_has_person sc_Web_has_person (fun _ _ _ _ _ _ us hl => match us, hl with | [_, _], _ => rfl)
    (fun _ _ _ _ h => by obtain ⟨_, _, _, _, rfl, _⟩ := h; rfl) fun cdv A outer s H vs Q E hr h => by
  have hu := hu_of hr
  obtain ⟨p, r, W, x, rfl, ⟨dx, ds, dt, tas, h1, h2, h3, h4⟩, hx, hQ⟩ := h
  refine ⟨_, (pss_one (ps_ret (pe_and (pe_callB call_isi (by rfl) T.z_isinstance (by decide +kernel) (pa_cons (pv 1) (pa_cons (pe_ty "str" (by rfl) T.z_str (by decide +kernel)) pa_nil))) (pe_one (pe_cmp (pc_din hu (pv 1) (pe_fld (pv 0) rfl)) rfl))))), ?_⟩
  dsimp only [tCKw, tM1, tVals, tVar, tC, tB, tAnd, tOr, tNot, tAndV, tOrV, tNotV, tIf, tNext, tSeq, tBreak, tCont, tDrop, tRet, tRetN, tIfS, tNever, gName, gNil, gCons, gTup, gSub, tAsg, tPar, tAug, tTest, tChain, tFld, sFld, tNil, tCons, tTup, tLst, tCall, tMeth, tCB, tBM, tNoPart, tPart, tSl, tOp, tUn, rI, rI0, rU, iList, iTup, iRng1, iRng2, iStr, iEnum, iZip, iItems, iVals, tDGet, tDIn, tDNotIn, sDPut, tDGet2, tDNewK, tDNewT, tYes, fin, List.cons_append, List.nil_append, bx, cxOf, Cx.nox]
  refine ⟨_, rfl, isi_yes (.str _) (by decide +kernel) ⟨_, rfl, ?_⟩⟩
  refine ⟨_, rfl, _, rfl, p, _, _, _, _, rfl, h1, T.c_Web, T.n_Web_own_states, rfl, ds, _, rfl, DGet.k (k := .inr x) h2, ?_⟩
  rw [show valV (stD W) (.inr x) = _ from valV_psD W.ps x hx]
  exact hQ _ (Evl.Ex.refl _)
theorem o_Web_has_tie (T : Tx K mg) : FO P w K mg base 1 (He.ma K (He.ga K "Web") "has_tie") ["self", "thing"] (sp_Web_has_tie K) := def_ok T.f_Web_has_tie sc_Web_has_tie (fun _ _ _ _ _ _ us hl => match us, hl with | [_, _], _ => rfl)
    (fun _ _ _ _ h => by obtain ⟨_, _, _, _, rfl, _⟩ := h; rfl) fun cdv A outer s H vs Q E hr h => by
  have hu := hu_of hr
  obtain ⟨p, r, W, t, rfl, ⟨dx, ds, dt, tas, h1, h2, h3, h4⟩, ok, ht, hQ⟩ := h
  refine ⟨_, (pss_one (ps_ret (pe_and (pe_callB call_isi (by rfl) T.z_isinstance (by decide +kernel) (pa_cons (pv 1) (pa_cons (pe_ty "str" (by rfl) T.z_str (by decide +kernel)) pa_nil))) (pe_one (pe_cmp (pc_din hu (pv 1) (pe_fld (pv 0) rfl)) rfl))))), ?_⟩
  dsimp only [tCKw, tM1, tVals, tVar, tC, tB, tAnd, tOr, tNot, tAndV, tOrV, tNotV, tIf, tNext, tSeq, tBreak, tCont, tDrop, tRet, tRetN, tIfS, tNever, gName, gNil, gCons, gTup, gSub, tAsg, tPar, tAug, tTest, tChain, tFld, sFld, tNil, tCons, tTup, tLst, tCall, tMeth, tCB, tBM, tNoPart, tPart, tSl, tOp, tUn, rI, rI0, rU, iList, iTup, iRng1, iRng2, iStr, iEnum, iZip, iItems, iVals, tDGet, tDIn, tDNotIn, sDPut, tDGet2, tDNewK, tDNewT, tYes, fin, List.cons_append, List.nil_append, bx, cxOf, Cx.nox]
  obtain ⟨a, ha, _⟩ := tiK_yes ok.ts.nd h4 ht
  refine ⟨_, rfl, isi_yes (.str _) (by decide +kernel) ⟨_, rfl, ?_⟩⟩
  refine ⟨_, rfl, _, rfl, p, _, _, _, _, rfl, h1, T.c_Web, T.n_Web_own_ties, rfl, dt, _, rfl, DGet.k (k := .inr t.nm) h3, ?_⟩
  rw [show valV (tiD W tas) (.inr t.nm) = _ from ha]
  exact hQ _ (Evl.Ex.refl _)
theorem o_Web_tie_of (T : Tx K mg) : FO P w K mg base 2 (He.ma K (He.ga K "Web") "tie_of") ["self", "tie"] (sp_Web_tie_of K) := def_ok T.f_Web_tie_of sc_Web_tie_of (fun _ _ _ _ _ _ us hl => match us, hl with | [_, _], _ => rfl)
    (fun _ _ _ _ h => by obtain ⟨_, _, _, _, rfl, _⟩ := h; rfl) fun cdv A outer s H vs Q E hr h => by
  have hu := hu_of hr
  obtain ⟨p, r, W, t, rfl, hw, ok, ht, hQ⟩ := h
  refine ⟨_, (pss_cons (ps_if (pt_not (pt_val (c_m (pv 0) T.c_Web T.m_Web_has_tie (o_Web_has_tie T) (hr.mono (by decide)) (pa_cons (pv 1) pa_nil)))) (pss_one ps_never) pss_nil)
      (pss_one (ps_ret (pe_dget hu (pe_fld (pv 0) rfl) (pv 1) (fun _ _ => rfl))))), ?_⟩
  dsimp only [tCKw, tM1, tVals, tVar, tC, tB, tAnd, tOr, tNot, tAndV, tOrV, tNotV, tIf, tNext, tSeq, tBreak, tCont, tDrop, tRet, tRetN, tIfS, tNever, gName, gNil, gCons, gTup, gSub, tAsg, tPar, tAug, tTest, tChain, tFld, sFld, tNil, tCons, tTup, tLst, tCall, tMeth, tCB, tBM, tNoPart, tPart, tSl, tOp, tUn, rI, rI0, rU, iList, iTup, iRng1, iRng2, iStr, iEnum, iZip, iItems, iVals, tDGet, tDIn, tDNotIn, sDPut, tDGet2, tDNewK, tDNewT, tYes, fin, List.cons_append, List.nil_append, bx, cxOf, Cx.nox]
  obtain ⟨dx, ds, dt, tas, h1, h2, h3, h4⟩ := hw.ex
  refine ⟨_, rfl, p, _, _, rfl, h1, rfl, _, rfl, p, r, W, t, rfl, hw, ok, ht, fun H1 e1 => ⟨_, rfl, ?_⟩⟩
  obtain ⟨a, ha, h5⟩ := tiK_yes ok.ts.nd h4 ht
  refine ⟨_, rfl, p, _, _, _, _, rfl, e1 _ _ h1, T.c_Web, T.n_Web_own_ties, rfl, _, rfl, dt, _, rfl, .inl ⟨_, .inr t.nm, .inl (e1 _ _ h3), rfl, ha.symm⟩, hQ a _ e1 (h5.mono e1)⟩
theorem o_Web_ends (T : Tx K mg) : FO P w K mg base 3 (He.ma K (He.ga K "Web") "ends") ["self", "tie"] (sp_Web_ends K) := def_ok T.f_Web_ends sc_Web_ends (fun _ _ _ _ _ _ us hl => match us, hl with | [_, _], _ => rfl)
    (fun _ _ _ _ h => by obtain ⟨_, _, _, _, rfl, _⟩ := h; rfl) fun cdv A outer s H vs Q E hr h => by
  have hu := hu_of hr
  obtain ⟨p, r, W, t, rfl, hw, ok, ht, hQ⟩ := h
  refine ⟨_, (pss_one (ps_ret (pe_slice sl_tup (c_m (pv 0) T.c_Web T.m_Web_tie_of (o_Web_tie_of T) (hr.mono (by decide)) (pa_cons (pv 1) pa_nil)) po_none (po_some pe_int)))), ?_⟩
  dsimp only [tCKw, tM1, tVals, tVar, tC, tB, tAnd, tOr, tNot, tAndV, tOrV, tNotV, tIf, tNext, tSeq, tBreak, tCont, tDrop, tRet, tRetN, tIfS, tNever, gName, gNil, gCons, gTup, gSub, tAsg, tPar, tAug, tTest, tChain, tFld, sFld, tNil, tCons, tTup, tLst, tCall, tMeth, tCB, tBM, tNoPart, tPart, tSl, tOp, tUn, rI, rI0, rU, iList, iTup, iRng1, iRng2, iStr, iEnum, iZip, iItems, iVals, tDGet, tDIn, tDNotIn, sDPut, tDGet2, tDNewK, tDNewT, tYes, fin, List.cons_append, List.nil_append, bx, cxOf, Cx.nox]
  obtain ⟨dx, ds, dt, tas, h1, h2, h3, h4⟩ := hw.ex
  refine ⟨_, rfl, p, _, _, rfl, h1, rfl, _, rfl, p, r, W, t, rfl, hw, ok, ht, fun a H1 e1 ⟨v, hv, _⟩ => ⟨_, rfl, _, _, rfl, sqt hv, (fun z => nomatch (show (2 : Nat) = 4 from z.2)), fun q hq => ?_⟩⟩
  exact hQ q _ (e1.trans (Evl.Ex.new hq)) upd_same
theorem o_Web_length (T : Tx K mg) : FO P w K mg base 3 (He.ma K (He.ga K "Web") "length") ["self", "tie"] (sp_Web_length K) := def_ok T.f_Web_length sc_Web_length (fun _ _ _ _ _ _ us hl => match us, hl with | [_, _], _ => rfl)
    (fun _ _ _ _ h => by obtain ⟨_, _, _, _, rfl, _⟩ := h; rfl) fun cdv A outer s H vs Q E hr h => by
  have hu := hu_of hr
  obtain ⟨p, r, W, t, rfl, hw, ok, ht, hQ⟩ := h
  refine ⟨_, (pss_one (ps_ret (pe_ix ix_tup (c_m (pv 0) T.c_Web T.m_Web_tie_of (o_Web_tie_of T) (hr.mono (by decide)) (pa_cons (pv 1) pa_nil)) pe_int (fun _ _ => rfl)))), ?_⟩
  dsimp only [tCKw, tM1, tVals, tVar, tC, tB, tAnd, tOr, tNot, tAndV, tOrV, tNotV, tIf, tNext, tSeq, tBreak, tCont, tDrop, tRet, tRetN, tIfS, tNever, gName, gNil, gCons, gTup, gSub, tAsg, tPar, tAug, tTest, tChain, tFld, sFld, tNil, tCons, tTup, tLst, tCall, tMeth, tCB, tBM, tNoPart, tPart, tSl, tOp, tUn, rI, rI0, rU, iList, iTup, iRng1, iRng2, iStr, iEnum, iZip, iItems, iVals, tDGet, tDIn, tDNotIn, sDPut, tDGet2, tDNewK, tDNewT, tYes, fin, List.cons_append, List.nil_append, bx, cxOf, Cx.nox]
  obtain ⟨dx, ds, dt, tas, h1, h2, h3, h4⟩ := hw.ex
  exact ⟨_, rfl, p, _, _, rfl, h1, rfl, _, rfl, p, r, W, t, rfl, hw, ok, ht, fun a H1 e1 ⟨v, hv, _⟩ => ⟨_, _, _, _, rfl, rfl, sqt hv, rfl, hQ _ e1⟩⟩
theorem o_Web_hearers (T : Tx K mg) : FO P w K mg base 3 (He.ma K (He.ga K "Web") "hearers") ["self", "tie"] (sp_Web_hearers K) := def_ok T.f_Web_hearers sc_Web_hearers (fun _ _ _ _ _ _ us hl => match us, hl with | [_, _], _ => rfl)
    (fun _ _ _ _ h => by obtain ⟨_, _, _, _, rfl, _⟩ := h; rfl) fun cdv A outer s H vs Q E hr h => by
  have hu := hu_of hr
  obtain ⟨p, r, W, t, rfl, hw, ok, ht, hQ⟩ := h
  refine ⟨_, (pss_one (ps_ret (pe_ix ix_tup (c_m (pv 0) T.c_Web T.m_Web_tie_of (o_Web_tie_of T) (hr.mono (by decide)) (pa_cons (pv 1) pa_nil)) pe_int (fun _ _ => rfl)))), ?_⟩
  dsimp only [tCKw, tM1, tVals, tVar, tC, tB, tAnd, tOr, tNot, tAndV, tOrV, tNotV, tIf, tNext, tSeq, tBreak, tCont, tDrop, tRet, tRetN, tIfS, tNever, gName, gNil, gCons, gTup, gSub, tAsg, tPar, tAug, tTest, tChain, tFld, sFld, tNil, tCons, tTup, tLst, tCall, tMeth, tCB, tBM, tNoPart, tPart, tSl, tOp, tUn, rI, rI0, rU, iList, iTup, iRng1, iRng2, iStr, iEnum, iZip, iItems, iVals, tDGet, tDIn, tDNotIn, sDPut, tDGet2, tDNewK, tDNewT, tYes, fin, List.cons_append, List.nil_append, bx, cxOf, Cx.nox]
  obtain ⟨dx, ds, dt, tas, h1, h2, h3, h4⟩ := hw.ex
  exact ⟨_, rfl, p, _, _, rfl, h1, rfl, _, rfl, p, r, W, t, rfl, hw, ok, ht, fun a H1 e1 ⟨v, hv, hh⟩ => ⟨_, _, _, _, rfl, rfl, sqt hv, rfl, hQ _ _ e1 hh⟩⟩
end
end K33


set_option Elab.async false
set_option linter.all false
set_option maxRecDepth 100000
set_option maxHeartbeats 4000000
namespace K33
open PySem PySem.Spec PyProof.Rows L2 K33M
theorem TupF.monoL {H H' : Hp} {a : Addr} {xs : List V} (e : ExL H H') (h : TupF H a xs) : TupF H' a xs := let ⟨o, q, n⟩ := h; ⟨o, e _ _ q (fun _ z => nomatch z), n⟩
theorem HsAt.monoL {H H' : Hp} (e : ExL H H') {v : V} {hs : List (Int × Int)} (h : HsAt H v hs) : HsAt H' v hs :=
  let ⟨a, ps, ev, ht, hp⟩ := h
  ⟨a, ps, ev, TupF.monoL e ht, pr_mono hp fun _ _ q => e _ _ q fun _ z => nomatch z⟩
theorem Tie5.monoL {H H' : Hp} (e : ExL H H') {a : Addr} {t : Tie} (h : Tie5 H a t) : Tie5 H' a t := let ⟨v, h1, h2⟩ := h; ⟨v, e _ _ h1 (fun _ z => nomatch z), h2.monoL e⟩
def PsAt (H : Hp) (as : List Addr) (ps : List (Str × Int)) : Prop := Paired (fun b (q : Str × Int) => H b = some (.tup [.str q.1, .int q.2])) as ps
theorem refs_of {α : Type} {R : Addr → α → Prop} : ∀ {l : List α} {ys : List V}, Paired (fun t y => ∃ a, y = V.ref a ∧ R a t) l ys → ∃ as : List Addr, ys = as.map V.ref ∧ Paired R as l
  | _, _, .nil => ⟨[], rfl, .nil⟩
  | _, _, .cons ⟨a, e, r⟩ t => let ⟨as, e2, h⟩ := refs_of t; ⟨a :: as, by rw [e, e2]; rfl, .cons r h⟩
theorem noTup_fdK {u : Obj} {kvs : List (Key × V)} : NoTup (.frz u (.dK kvs)) := ⟨(fun _ z => nomatch z), (fun _ _ z => nomatch z)⟩
def sp_Web_told_persons (K : PySem.W.Frag) : Sp := fun vs H Q _ => ∃ (p r : Addr) (W : Web), vs = [.ref p] ∧ WebAt (cW K) H p W r ∧ ∀ l as H', Ex H H' → H' l = some (.lst (as.map V.ref)) → PsAt H' as W.ps → Q (.ref l) H'
def sp_Web_told_ties (K : PySem.W.Frag) : Sp := fun vs H Q _ => ∃ (p r : Addr) (W : Web), vs = [.ref p] ∧ WebAt (cW K) H p W r ∧ WOk W ∧ ∀ l as H', Ex H H' → H' l = some (.lst (as.map V.ref)) → TsAt H' as W.ts → Q (.ref l) H'
def sp_Web_eq (K : PySem.W.Frag) : Sp := spEq fun a b H => ∃ W r r', WOk W ∧ WebAt (cW K) H a W r ∧ WebAt (cW K) H b W r'
theorem stOf_h {W : Web} (ok : WOk W) {t : Tie} (h : t ∈ W.ts) {i : Int} : stOf W (.h t.nm i) = hsSt t.hs i := by
  show (match tieOf W.ts t.nm with | some t => hsSt t.hs i | none => 0) = _
  rw [tieOf_eq ok.ts.nd h]
/-! ### deep data -/
def pyHs (hs : List (Int × Int)) : PyData := .tuple (hs.map fun q => .tuple [.int q.1, .int q.2])
def pyPs (ps : List (Str × Int)) : PyData := .list (ps.map fun q => .tuple [.str q.1, .int q.2])
def pyTs (ts : List Tie) : PyData := .list (ts.map fun t => .tuple [.str t.nm, .str t.one, .str t.other, .int t.len, pyHs t.hs])
theorem dp_all {K : PySem.W.Frag} {H : Hp} {α : Type} {f : α → PyData} {R : Addr → α → Prop} (h : ∀ a x, R a x → Dp K H (.ref a) (f x)) : ∀ {as : List Addr} {xs : List α}, Paired R as xs → DpAll K H (as.map V.ref) (xs.map f)
  | _, _, .nil => .nil
  | _, _, .cons r t => .cons (h _ _ r) (dp_all h t)
theorem dp_hs {K : PySem.W.Frag} {H : Hp} {v : V} {hs : List (Int × Int)} (h : HsAt H v hs) : Dp K H v (pyHs hs) := by
  obtain ⟨a, ps, rfl, ht, hp⟩ := h
  exact .tup ht.sq (dp_all (f := fun q : Int × Int => PyData.tuple [.int q.1, .int q.2]) (fun a q r => .tup (sqt r) (.cons (.int _) (.cons (.int _) .nil))) hp)
theorem dp_ps {K : PySem.W.Frag} {H : Hp} {l : Addr} {as : List Addr} {ps : List (Str × Int)} (hl : H l = some (.lst (as.map V.ref))) (h : PsAt H as ps) : Dp K H (.ref l) (pyPs ps) :=
  .lst (sql hl) (dp_all (f := fun q : Str × Int => PyData.tuple [.str q.1, .int q.2]) (fun a q r => .tup (sqt r) (.cons (.str _) (.cons (.int _) .nil))) h)
theorem dp_ts {K : PySem.W.Frag} {H : Hp} {l : Addr} {as : List Addr} {ts : List Tie} (hl : H l = some (.lst (as.map V.ref))) (h : TsAt H as ts) : Dp K H (.ref l) (pyTs ts) :=
  .lst (sql hl) (dp_all (f := fun t : Tie => PyData.tuple [.str t.nm, .str t.one, .str t.other, .int t.len, pyHs t.hs]) (fun a q r => let ⟨v, h1, h2⟩ := r; .tup (sqt h1) (.cons (.str _) (.cons (.str _) (.cons (.str _) (.cons (.int _) (.cons (dp_hs h2) .nil)))))) h)
theorem lay_all {α : Type} {f : α → PyData} : ∀ {xs : List α}, (∀ x ∈ xs, (f x).canLay0 = true) → PyData.canLayAll0 (xs.map f) = true
  | [], _ => by simp only [List.map_nil, PyData.canLayAll0]
  | x :: xs, h => by
    simp only [List.map_cons, PyData.canLayAll0]
    rw [h x List.mem_cons_self, lay_all fun y hy => h y (List.mem_cons_of_mem _ hy)]
    rfl
theorem depth_all {α : Type} {f : α → PyData} {n : Nat} : ∀ {xs : List α}, (∀ x ∈ xs, (f x).depth ≤ n) → PyData.depthAll (xs.map f) ≤ n
  | [], _ => by simp only [List.map_nil, PyData.depthAll]; exact Nat.zero_le _
  | x :: xs, h => by
    simp only [List.map_cons, PyData.depthAll]
    exact Nat.max_le.mpr ⟨h x List.mem_cons_self, depth_all fun y hy => h y (List.mem_cons_of_mem _ hy)⟩
theorem strOk_nm {x : Str} (h : NameOk x) : PyData.strOk x = true := by
  have hl : ∀ c ∈ letters.cps.toList, c < 0x110000 := by decide +kernel
  unfold PyData.strOk
  rw [Array.all_eq_true]
  intro i hi
  exact decide_eq_true (hl _ (h.al _ (Array.getElem_mem_toList hi)))
theorem sh_hs (hs : List (Int × Int)) : (pyHs hs).canLay0 = true ∧ (pyHs hs).depth ≤ 2 := by
  constructor
  · unfold pyHs
    simp only [PyData.canLay0]
    exact lay_all fun x _ => by simp [PyData.canLay0, PyData.canLayAll0]
  · unfold pyHs
    simp only [PyData.depth]
    have := depth_all (f := fun q : Int × Int => PyData.tuple [.int q.1, .int q.2]) (n := 1) (xs := hs) fun x _ => by simp [PyData.depth, PyData.depthAll]
    omega
theorem sh_ps {ps : List (Str × Int)} (h : ∀ q ∈ ps, NameOk q.1) : SeqAt.shaped (pyPs ps) = true := by
  unfold SeqAt.shaped pyPs
  rw [Bool.and_eq_true]
  constructor
  · simp only [PyData.canLay0]
    exact lay_all fun x hx => by simp only [PyData.canLay0, PyData.canLayAll0, strOk_nm (h x hx), Bool.and_self]
  · refine decide_eq_true ?_
    simp only [PyData.depth]
    have := depth_all (f := fun q : Str × Int => PyData.tuple [.str q.1, .int q.2]) (n := 1) (xs := ps) fun x _ => by simp [PyData.depth, PyData.depthAll]
    omega
theorem sh_ts {ts : List Tie} (h : ∀ t ∈ ts, NameOk t.nm ∧ NameOk t.one ∧ NameOk t.other) : SeqAt.shaped (pyTs ts) = true := by
  unfold SeqAt.shaped pyTs
  rw [Bool.and_eq_true]
  constructor
  · simp only [PyData.canLay0]
    exact lay_all fun x hx => by simp only [PyData.canLay0, PyData.canLayAll0, strOk_nm (h x hx).1, strOk_nm (h x hx).2.1, strOk_nm (h x hx).2.2, (sh_hs x.hs).1, Bool.and_self]
  · refine decide_eq_true ?_
    simp only [PyData.depth]
    have := depth_all (f := fun t : Tie => PyData.tuple [.str t.nm, .str t.one, .str t.other, .int t.len, pyHs t.hs]) (n := 3) (xs := ts) fun x _ => by
      simp only [PyData.depth, PyData.depthAll]
      have := (sh_hs x.hs).2
      omega
    omega
theorem eqv_self {d : PyData} (h : SeqAt.shaped d = true) : PyData.eqv d d = true := SeqAt.eqv_refl d (SeqAt.canLay_of_shaped h)
section
variable {P : Program} {w : World} {K : PySem.W.Frag} {mg : Str → Option Value} {base : Heap}
theorem o_Web_has_spot (T : Tx K mg) : FO P w K mg base 4 (He.ma K (He.ga K "Web") "has_spot") ["self", "thing"] (sp_Web_has_spot K) := def_ok T.f_Web_has_spot sc_Web_has_spot (fun _ _ _ _ _ _ us hl => match us, hl with | [_, _], _ => rfl)
    (fun _ _ _ _ h => by obtain ⟨_, _, _, _, _, rfl, _⟩ := h; rfl) fun cdv A outer s H vs Q E hr h => by
  have hu := hu_of hr
  obtain ⟨p, r, W, y, sp, rfl, hw, ok, hy, hs, hQ⟩ := h
  refine ⟨_, (pss_cons (ps_if (PW.pt (pw_or (pt_not (pt_val (pe_callB call_isi (by rfl) T.z_isinstance (by decide +kernel) (pa_cons (pv 1) (pa_cons (pe_ty "tuple" (by rfl) T.z_tuple (by decide +kernel)) pa_nil))))) (pw_or1 (pt_cmpR op_ne (pe_callB call_len_seq (by rfl) T.z_len (by decide +kernel) (pa_cons (pv 1) pa_nil)) pe_int (nomark _))))) (pss_one (ps_ret (c_m (pv 0) T.c_Web T.m_Web_has_person (o_Web_has_person T) (hr.mono (by decide)) (pa_cons (pv 1) pa_nil)))) pss_nil)
      (pss_cons (ps_asg (pv 1) (pg_tup rfl (pgs_cons (pg_name (i := 2) sc_Web_has_spot.nd rfl (.inl rfl)) (pgs_cons (pg_name (i := 3) sc_Web_has_spot.nd rfl (.inl rfl)) pgs_nil))))
      (pss_one (ps_ret (pe_and (c_m (pv 0) T.c_Web T.m_Web_has_tie (o_Web_has_tie T) (hr.mono (by decide)) (pa_cons (pv 2) pa_nil)) (pe_and (c_fn (o_is_count T) T.g_is_count (hr.mono (by decide)) (pa_cons (pv 3) pa_nil)) (pe_one (pe_chain op_lt op_lt pe_int (pv 3) (c_m (pv 0) T.c_Web T.m_Web_length (o_Web_length T) (hr.mono (by decide)) (pa_cons (pv 2) pa_nil)))))))))), ?_⟩
  dsimp only [tCKw, tM1, tVals, tVar, tC, tB, tAnd, tOr, tNot, tAndV, tOrV, tNotV, tIf, tNext, tSeq, tBreak, tCont, tDrop, tRet, tRetN, tIfS, tNever, gName, gNil, gCons, gTup, gSub, tAsg, tPar, tAug, tTest, tChain, tFld, sFld, tNil, tCons, tTup, tLst, tCall, tMeth, tCB, tBM, tNoPart, tPart, tSl, tOp, tUn, rI, rI0, rU, iList, iTup, iRng1, iRng2, iStr, iEnum, iZip, iItems, iVals, tDGet, tDIn, tDNotIn, sDPut, tDGet2, tDNewK, tDNewT, tYes, fin, List.cons_append, List.nil_append, bx, cxOf, Cx.nox]
  obtain ⟨dx, ds, dt, tas, h1, h2, h3, h4⟩ := hw.ex
  cases sp with
  | p x =>
    cases hy
    refine ⟨_, rfl, isi_no (.str _) (by decide +kernel) ⟨_, rfl, ?_⟩⟩
    exact ⟨_, rfl, p, _, _, rfl, h1, rfl, _, rfl, p, r, W, x, rfl, hw, hs, hQ⟩
  | h n i =>
    obtain ⟨b, rfl, hb⟩ := hy
    obtain ⟨t, ht, rfl, hi⟩ := hs
    refine ⟨_, rfl, isi_yes (.tup hb) (by decide +kernel) ⟨_, rfl, ?_⟩⟩
    refine ⟨_, rfl, ⟨_, _, rfl, .inr (sqt hb), rfl, _, rfl, ?_⟩⟩
    refine ⟨_, rfl, _, _, rfl, sqt hb, rfl, _, _, rfl, _, _, rfl, rfl, ?_⟩
    refine ⟨_, rfl, p, _, _, rfl, h1, rfl, _, rfl, p, r, W, t, rfl, hw, ok, ht, fun H1 e1 => ⟨_, rfl, ?_⟩⟩
    refine ⟨_, rfl, i, rfl, fun H2 e2 => ⟨_, rfl, ?_⟩⟩
    rw [decide_eq_true (show 0 ≤ i by omega)]
    refine ⟨_, rfl, _, _, rfl, rfl, _, rfl, ?_⟩
    rw [decide_eq_true hi.1]
    refine ⟨_, rfl, p, _, _, rfl, (e1.trans e2) _ _ h1, rfl, _, rfl, p, r, W, t, rfl, hw.mono (e1.trans e2), ok, ht, fun H3 e3 => ⟨_, _, rfl, rfl, ?_⟩⟩
    rw [decide_eq_true hi.2]
    exact hQ _ ((e1.trans e2).trans e3)
theorem o_Web_state (T : Tx K mg) : FO P w K mg base 5 (He.ma K (He.ga K "Web") "state") ["self", "spot"] (sp_Web_state K) := def_ok T.f_Web_state sc_Web_state (fun _ _ _ _ _ _ us hl => match us, hl with | [_, _], _ => rfl)
    (fun _ _ _ _ h => by obtain ⟨_, _, _, _, _, rfl, _⟩ := h; rfl) fun cdv A outer s H vs Q E hr h => by
  have hu := hu_of hr
  obtain ⟨p, r, W, y, sp, rfl, hw, ok, hy, hs, hQ⟩ := h
  refine ⟨_, (pss_cons (ps_if (pt_not (pt_val (c_m (pv 0) T.c_Web T.m_Web_has_spot (o_Web_has_spot T) (hr.mono (by decide)) (pa_cons (pv 1) pa_nil)))) (pss_one ps_never) pss_nil)
      (pss_cons (ps_if (pt_val (pe_callB call_isi (by rfl) T.z_isinstance (by decide +kernel) (pa_cons (pv 1) (pa_cons (pe_ty "tuple" (by rfl) T.z_tuple (by decide +kernel)) pa_nil)))) (pss_cons (ps_asg (pv 1) (pg_tup rfl (pgs_cons (pg_name (i := 2) sc_Web_state.nd rfl (.inl rfl)) (pgs_cons (pg_name (i := 3) sc_Web_state.nd rfl (.inl rfl)) pgs_nil))))
        (pss_one (ps_ret (pe_dget2 hu (pe_callTy (call_dictT rfl) (by rfl) T.z_dict (by decide +kernel) (pa_cons (c_m (pv 0) T.c_Web T.m_Web_hearers (o_Web_hearers T) (hr.mono (by decide)) (pa_cons (pv 2) pa_nil)) pa_nil)) (pv 3) pe_int ⟨rfl, rfl, rfl, rfl⟩)))) pss_nil)
      (pss_one (ps_ret (pe_dget hu (pe_fld (pv 0) rfl) (pv 1) (fun _ _ => rfl)))))), ?_⟩
  dsimp only [tCKw, tM1, tVals, tVar, tC, tB, tAnd, tOr, tNot, tAndV, tOrV, tNotV, tIf, tNext, tSeq, tBreak, tCont, tDrop, tRet, tRetN, tIfS, tNever, gName, gNil, gCons, gTup, gSub, tAsg, tPar, tAug, tTest, tChain, tFld, sFld, tNil, tCons, tTup, tLst, tCall, tMeth, tCB, tBM, tNoPart, tPart, tSl, tOp, tUn, rI, rI0, rU, iList, iTup, iRng1, iRng2, iStr, iEnum, iZip, iItems, iVals, tDGet, tDIn, tDNotIn, sDPut, tDGet2, tDNewK, tDNewT, tYes, fin, List.cons_append, List.nil_append, bx, cxOf, Cx.nox]
  obtain ⟨dx, ds, dt, tas, h1, h2, h3, h4⟩ := hw.ex
  refine ⟨_, rfl, p, _, _, rfl, h1, rfl, _, rfl, p, r, W, y, sp, rfl, hw, ok, hy, hs, fun H1 e1 => ⟨_, rfl, ?_⟩⟩
  cases sp with
  | p x =>
    cases hy
    refine ⟨_, rfl, isi_no (.str _) (by decide +kernel) ⟨_, rfl, ?_⟩⟩
    refine ⟨_, rfl, p, _, _, _, _, rfl, e1 _ _ h1, T.c_Web, T.n_Web_own_states, rfl, _, rfl, ds, _, rfl, .inl ⟨_, .inr x, .inl (e1 _ _ h2), rfl, (valV_psD W.ps x hs).symm⟩, ?_⟩
    exact hQ _ e1
  | h n i =>
    obtain ⟨b, rfl, hb⟩ := hy
    obtain ⟨t, ht, rfl, hi⟩ := hs
    have hb1 := e1 _ _ hb
    refine ⟨_, rfl, isi_yes (.tup hb1) (by decide +kernel) ⟨_, rfl, ?_⟩⟩
    refine ⟨_, rfl, _, _, rfl, sqt hb1, rfl, _, _, rfl, _, _, rfl, rfl, ?_⟩
    refine ⟨_, rfl, p, _, _, rfl, e1 _ _ h1, rfl, _, rfl, p, r, W, t, rfl, hw.mono e1, ok, ht, fun v H2 e2 ⟨a, zs, ev, hz, hp⟩ => ?_⟩
    subst ev
    refine ⟨a, zs, hsD t.hs, rfl, hz, ?_, ?_, fun d hd => ⟨d, rfl, .inl ⟨_, .inl upd_same⟩, _, rfl, _, .inl ⟨_, .inl i, .inl upd_same, rfl, rfl⟩, ?_⟩⟩
    · refine pr_of (by rw [pr_len hp]; simp [hsD]) fun j x kv hx hkv => ?_
      obtain ⟨q, hq, hq2⟩ := pr_at hp hx
      unfold hsD at hkv
      rw [List.getElem?_map, hq] at hkv
      cases hkv
      exact sqt hq2
    · have e : (hsD t.hs).map (·.1) = (t.hs.map (·.1)).map (Sum.inl : Int → Key) := by simp [hsD, List.map_map, Function.comp_def]
      rw [e]
      exact nodup_map (fun _ _ z => Sum.inl.inj z) (hs_nodup (ok.ts.ok t ht).hs)
    · rw [valV_hsD]
      rw [← stOf_h ok ht]
      exact hQ _ ((e1.trans e2).trans (Evl.Ex.new (o := .dK (hsD t.hs)) hd))
theorem o_Web_told_persons (T : Tx K mg) : FO P w K mg base 1 (He.ma K (He.ga K "Web") "told_persons") ["self"] (sp_Web_told_persons K) := def_ok T.f_Web_told_persons sc_Web_told_persons (fun _ _ _ _ _ _ us hl => match us, hl with | [_], _ => rfl)
    (fun _ _ _ _ h => by obtain ⟨_, _, _, rfl, _⟩ := h; rfl) fun cdv A outer s H vs Q E hr h => by
  have hu := hu_of hr
  obtain ⟨p, r, W, rfl, ⟨dx, ds, dt, tas, h1, h2, h3, h4⟩, hQ⟩ := h
  refine ⟨_, (pss_one (ps_ret (LiI.pe_listItems rfl (pe_fld (pv 0) rfl) (by rfl) T.z_list (by decide +kernel)))), ?_⟩
  dsimp only [tCKw, tM1, tVals, tVar, tC, tB, tAnd, tOr, tNot, tAndV, tOrV, tNotV, tIf, tNext, tSeq, tBreak, tCont, tDrop, tRet, tRetN, tIfS, tNever, gName, gNil, gCons, gTup, gSub, tAsg, tPar, tAug, tTest, tChain, tFld, sFld, tNil, tCons, tTup, tLst, tCall, tMeth, tCB, tBM, tNoPart, tPart, tSl, tOp, tUn, rI, rI0, rU, iList, iTup, iRng1, iRng2, iStr, iEnum, iZip, iItems, iVals, tDGet, tDIn, tDNotIn, sDPut, tDGet2, tDNewK, tDNewT, tYes, fin, List.cons_append, List.nil_append, bx, cxOf, Cx.nox]
  refine ⟨_, rfl, p, _, _, _, _, rfl, h1, T.c_Web, T.n_Web_own_states, rfl, ds, _, rfl, h2, fun H' l ts e hl hts hn hl' hp => hQ l ts H' e hl' ?_⟩
  refine pr_of (by rw [pr_len hp]; simp [stD]) fun j x q hx hq => ?_
  obtain ⟨kv, h5, h6⟩ := pr_at hp hx
  unfold stD at h5
  rw [List.getElem?_map, hq] at h5
  cases h5
  exact h6
theorem o_Web_told_ties (T : Tx K mg) : FO P w K mg base 1 (He.ma K (He.ga K "Web") "told_ties") ["self"] (sp_Web_told_ties K) := def_ok T.f_Web_told_ties sc_Web_told_ties (fun _ _ _ _ _ _ us hl => match us, hl with | [_], _ => rfl)
    (fun _ _ _ _ h => by obtain ⟨_, _, _, rfl, _⟩ := h; rfl) fun cdv A outer s H vs Q E hr h => by
  have hu := hu_of hr
  obtain ⟨p, r, W, rfl, ⟨dx, ds, dt, tas, h1, h2, h3, h4⟩, ok, hQ⟩ := h
  have hl2 : tas.length = W.ts.length := pr_len h4
  refine ⟨_, (pss_one (ps_ret (pe_lock (pe_lc (own := [("name", 1), ("tie", 2)]) rfl sc_Web_told_ties.nd (pi_items (pe_fld (pv 0) rfl)) (blkOk_by (by rfl)) (fun _ _ _ _ _ => (pg_tupK (K := K) 2 rfl rfl (pgs_cons (pg_name (i := 1) sc_Web_told_ties.nd rfl (.inl rfl)) (pgs_cons (pg_name (i := 2) sc_Web_told_ties.nd rfl (.inl rfl)) pgs_nil)))) (fun _ _ _ _ _ => pts_nil) (fun _ _ _ _ _ => (pe_op (op_catTK (K := K) rfl) (pe_tup (pa_cons (pv 1) pa_nil)) (pv 2))))))), ?_⟩
  dsimp only [tCKw, tM1, tVals, tVar, tC, tB, tAnd, tOr, tNot, tAndV, tOrV, tNotV, tIf, tNext, tSeq, tBreak, tCont, tDrop, tRet, tRetN, tIfS, tNever, gName, gNil, gCons, gTup, gSub, tAsg, tPar, tAug, tTest, tChain, tFld, sFld, tNil, tCons, tTup, tLst, tCall, tMeth, tCB, tBM, tNoPart, tPart, tSl, tOp, tUn, rI, rI0, rU, iList, iTup, iRng1, iRng2, iStr, iEnum, iZip, iItems, iVals, tDGet, tDIn, tDNotIn, sDPut, tDGet2, tDNewK, tDNewT, tYes, fin, List.cons_append, List.nil_append, bx, cxOf, Cx.nox]
  have h1' : ∀ u, upd H dt u p = some (.ins (cW K) dx (webF W.rd ds dt r)) := fun u => by
    rw [upd_ne (fun z => by rw [z, h3] at h1; cases h1)]
    exact h1
  refine ⟨dt, _, h3, True.intro, fun od => ⟨_, rfl, p, _, _, _, _, rfl, h1' _, T.c_Web, T.n_Web_own_ties, rfl, dt, od, _, rfl, upd_same, lc_pick walk_items (fun _ => true) (fun i H y => ∃ a t, y = .ref a ∧ W.ts[i]? = some t ∧ Tie5 H a t) ?_ (fun H e => e _ _ upd_same) (fun i y H H' e ⟨a, t, h1, h2, h3⟩ => ⟨a, t, h1, h2, h3.monoL e⟩) gm_tup2 (fun i y Ha Hb hi e2 Y => ?_) fun L Ha ys hL e2 hys pk => ?_⟩⟩
  · show (tiK W.ts tas).length ≤ _
    rw [tiK_len hl2]
    have := ok.ts.hi
    omega
  · obtain ⟨T0, x1, x2, rfl, hT, rfl, hx1, hx2⟩ := Y
    cases hk : (tiD W tas)[i]? with
    | none => simp [hk] at hx1
    | some kv =>
      obtain ⟨t, a, ht, ha, hk1, hk2⟩ := tiK_at (k := kv.1) (x := kv.2) hk
      simp only [hk, Option.map_some, Option.some.injEq] at hx1 hx2
      rw [hk1] at hx1
      rw [hk2] at hx2
      subst hx1 hx2
      obtain ⟨t', ht', h44⟩ := pr_at h4 ha
      rw [ht] at ht'
      cases ht'
      have e0 : Ex (hid dt H) Ha := fun x o hx => by
        have hxd : x ≠ dt := fun z => by rw [z, hid_same] at hx; cases hx
        rw [hid_ne hxd] at hx
        exact e2 _ _ (by rw [upd_ne hxd]; exact hx)
      have e3 : Ex Ha (upd Ha T0 (.tup [kV (.inr t.nm), .ref a])) := Evl.Ex.new hT
      obtain ⟨v, hv, hh⟩ := ((h44.hid h3 noTup_dK).mono e0).mono e3
      dsimp only [tCKw, tM1, tVals, tVar, tC, tB, tAnd, tOr, tNot, tAndV, tOrV, tNotV, tIf, tNext, tSeq, tBreak, tCont, tDrop, tRet, tRetN, tIfS, tNever, gName, gNil, gCons, gTup, gSub, tAsg, tPar, tAug, tTest, tChain, tFld, sFld, tNil, tCons, tTup, tLst, tCall, tMeth, tCB, tBM, tNoPart, tPart, tSl, tOp, tUn, rI, rI0, rU, iList, iTup, iRng1, iRng2, iStr, iEnum, iZip, iItems, iVals, tDGet, tDIn, tDNotIn, sDPut, tDGet2, tDNewK, tDNewT, tYes, fin, List.cons_append, List.nil_append, bx, cxOf, Cx.nox]
      refine ⟨_, _, rfl, sqt upd_same, rfl, _, _, rfl, _, _, rfl, rfl, rfl, fun Qy Qn k _ => ?_⟩
      refine ⟨_, rfl, Nat.le_of_ble_eq_true rfl, fun q hq => ⟨_, rfl, q, a, _, _, rfl, rfl, sqt upd_same, sqt ((Evl.Ex.new hq) _ _ hv), (fun z => nomatch z), Nat.le_of_ble_eq_true rfl, (fun z => nomatch z), fun _ q2 hq2 => ?_⟩⟩
      refine k rfl _ _ ((e3.trans (Evl.Ex.new hq)).trans (Evl.Ex.new hq2)) ⟨q2, t, rfl, ht, v, upd_same, hh.mono ((Evl.Ex.new hq).trans (Evl.Ex.new hq2))⟩
  · have hLD : L ≠ dt := fun z => by rw [z, upd_same] at hL; cases hL
    have ee : Ex H (upd Ha dt (.dK (tiD W tas))) := fun x o hx => by
      by_cases hxd : x = dt
      · rw [hxd, upd_same, ← h3, ← hxd, hx]
      · rw [upd_ne hxd]
        exact e2 _ _ (by rw [upd_ne hxd]; exact hx)
    have pk2 := pk.all
    rw [show (tiD W tas).length = W.ts.length from tiK_len hl2] at pk2
    have pk3 := pr_range (S := fun (t : Tie) (y : V) => ∃ a, y = .ref a ∧ Tie5 Ha a t) pk2 fun i t y h1 ⟨a, t', h2, h3, h4⟩ => by
      rw [h1] at h3
      cases h3
      exact ⟨a, h2, h4⟩
    obtain ⟨as, rfl, hp⟩ := refs_of pk3
    refine ⟨e2 _ _ upd_same, hQ L as _ ee (by rw [upd_ne hLD]; exact hys) (pr_mono hp fun a t q => (q.hid (e2 _ _ upd_same) noTup_fdK).mono (hid_ex.mut hid_same))⟩
theorem o_Web_eq (T : Tx K mg) : FO P w K mg base 2 (He.ma K (He.ga K "Web") "__eq__") ["self", "other"] (sp_Web_eq K) := def_ok T.f_Web_eq sc_Web_eq (fun _ _ _ _ _ _ us hl => match us, hl with | [_, _], _ => rfl)
    (fun _ _ _ _ h => by obtain ⟨_, _, rfl, _⟩ := h; rfl) fun cdv A outer s H vs Q E hr h => by
  have hu := hu_of hr
  obtain ⟨a, b, rfl, ⟨W, r, r', ok, ha, hb⟩, hQ⟩ := h
  refine ⟨_, (pss_cons (ps_if (PW.pt (pw_or (pt_not (pt_val (pe_callB (C8.call_isC T.ic) (by rfl) T.z_isinstance (by decide +kernel) (pa_cons (pv 1) (pa_cons (pe_glob (v := V.ref (He.ga K "Web")) rfl T.g_Web rfl) pa_nil))))) (pw_or1 (pt_cmpR op_ne (pe_fld (pv 0) rfl) (pe_fld (pv 1) rfl) (nomark _))))) (pss_one (ps_ret pe_bl)) pss_nil)
      (pss_one (ps_ret (pe_and (pe_cmpR (op_eqD hr.units) (c_m0 (pv 0) T.c_Web T.m_Web_told_persons (o_Web_told_persons T) (hr.mono (by decide))) (c_m0 (pv 1) T.c_Web T.m_Web_told_persons (o_Web_told_persons T) (hr.mono (by decide))) (nomark _)) (pe_one (pe_cmpR (op_eqD hr.units) (c_m0 (pv 0) T.c_Web T.m_Web_told_ties (o_Web_told_ties T) (hr.mono (by decide))) (c_m0 (pv 1) T.c_Web T.m_Web_told_ties (o_Web_told_ties T) (hr.mono (by decide))) (nomark _))))))), ?_⟩
  dsimp only [tCKw, tM1, tVals, tVar, tC, tB, tAnd, tOr, tNot, tAndV, tOrV, tNotV, tIf, tNext, tSeq, tBreak, tCont, tDrop, tRet, tRetN, tIfS, tNever, gName, gNil, gCons, gTup, gSub, tAsg, tPar, tAug, tTest, tChain, tFld, sFld, tNil, tCons, tTup, tLst, tCall, tMeth, tCB, tBM, tNoPart, tPart, tSl, tOp, tUn, rI, rI0, rU, iList, iTup, iRng1, iRng2, iStr, iEnum, iZip, iItems, iVals, tDGet, tDIn, tDNotIn, sDPut, tDGet2, tDNewK, tDNewT, tYes, fin, List.cons_append, List.nil_append, bx, cxOf, Cx.nox]
  obtain ⟨dx, ds, dt, tas, h1, h2, h3, h4⟩ := ha.ex
  obtain ⟨dx', ds', dt', tas', g1, g2, g3, g4⟩ := hb.ex
  refine ⟨_, rfl, b, _, _, rfl, g1, _, rfl, ?_⟩
  refine ⟨_, rfl, a, _, _, _, _, rfl, h1, T.c_Web, T.n_Web_is_of_rounds, rfl, _, rfl, b, _, _, _, _, rfl, g1, T.c_Web, T.n_Web_is_of_rounds, rfl, ⟨rfl, _, rfl, ?_⟩⟩
  rw [decide_eq_true (show V.bl W.rd = V.bl W.rd from rfl)]
  refine ⟨_, rfl, a, _, _, rfl, h1, rfl, a, r, W, rfl, ha, fun l as H1 e1 hl hp => ?_⟩
  refine ⟨_, rfl, b, _, _, rfl, e1 _ _ g1, rfl, b, r', W, rfl, hb.mono e1, fun l' as' H2 e2 hl' hp' => ?_⟩
  refine ⟨pyPs W.ps, pyPs W.ps, dp_ps (e2 _ _ hl) (pr_mono hp fun _ _ q => e2 _ _ q), dp_ps hl' hp', sh_ps ok.ps.nm, sh_ps ok.ps.nm, _, rfl, ?_⟩
  rw [eqv_self (sh_ps ok.ps.nm)]
  have e3 := e1.trans e2
  refine ⟨_, rfl, a, _, _, rfl, e3 _ _ h1, rfl, a, r, W, rfl, ha.mono e3, ok, fun l3 as3 H3 e4 hl3 hp3 => ?_⟩
  refine ⟨_, rfl, b, _, _, rfl, (e3.trans e4) _ _ g1, rfl, b, r', W, rfl, hb.mono (e3.trans e4), ok, fun l4 as4 H4 e5 hl4 hp4 => ?_⟩
  have nms : ∀ t ∈ W.ts, NameOk t.nm ∧ NameOk t.one ∧ NameOk t.other := fun t ht => by
    have q := ok.ts.ok t ht
    obtain ⟨x, hx, ex⟩ := List.mem_map.mp q.one
    obtain ⟨y, hy, ey⟩ := List.mem_map.mp q.two
    exact ⟨q.nm, ex ▸ ok.ps.nm x hx, ey ▸ ok.ps.nm y hy⟩
  refine ⟨pyTs W.ts, pyTs W.ts, dp_ts (e5 _ _ hl3) (pr_mono hp3 fun _ _ q => q.mono e5), dp_ts hl4 hp4, sh_ts nms, sh_ts nms, ?_⟩
  rw [eqv_self (sh_ts nms)]
  exact hQ _ ((e3.trans e4).trans e5)
end
end K33


set_option linter.all false
/-! The beats, counted: c (n + 1) v is the greater of c n v and of turn + c n w over the neighbours w. -/
namespace K33
def tau (rd : Bool) (x y : Int) : Int :=
  if rd = true then (if (y - x) % 3 = 0 then 0 else if (y - x) % 3 = 1 then 1 else -1)
  else (if x = 0 ∧ y = 1 then 1 else 0) - (if x = 1 ∧ y = 0 then 1 else 0)
theorem tau_le (rd : Bool) (x y : Int) : tau rd x y ≤ 1 := by
  unfold tau; repeat' split <;> try omega
theorem tau_ge (rd : Bool) (x y : Int) : -1 ≤ tau rd x y := by
  unfold tau; repeat' split <;> try omega
theorem tau_anti (rd : Bool) (x y : Int) : tau rd y x = - tau rd x y := by
  unfold tau
  cases rd with
  | true =>
    simp only [if_pos]
    repeat' split
    all_goals omega
  | false =>
    simp only [Bool.false_eq_true, if_false]
    repeat' split
    all_goals omega
section
open Classical
variable {S : Type} (rd : Bool) (nb : S → S → Prop)
noncomputable def isSet (s : S → Int) (v : S) : Int :=
  if rd = true then (if ∃ w, nb v w ∧ s w = (s v + 1) % 3 then 1 else 0) else (if s v = 0 ∧ ∃ w, nb v w ∧ s w = 1 then 1 else 0)
noncomputable def nxt (s : S → Int) (v : S) : Int :=
  if rd = true then (s v + isSet rd nb s v) % 3 else (if s v = 0 then isSet rd nb s v else if s v = 1 then 2 else 0)
noncomputable def sim (s : S → Int) : Nat → S → Int
  | 0 => s
  | n + 1 => nxt rd nb (sim s n)
noncomputable def cnt (s : S → Int) : Nat → S → Int
  | 0, _ => 0
  | n + 1, v => cnt s n v + isSet rd nb (sim rd nb s n) v
variable {rd nb}
theorem isSet_le (s : S → Int) (v : S) : isSet rd nb s v ≤ 1 := by
  unfold isSet; repeat' split
  all_goals omega
theorem isSet_ge (s : S → Int) (v : S) : 0 ≤ isSet rd nb s v := by
  unfold isSet; repeat' split
  all_goals omega
def Tri (s : S → Int) : Prop := ∀ v, 0 ≤ s v ∧ s v ≤ 2
theorem isSet_iff {s : S → Int} (ht : Tri s) (v : S) : isSet rd nb s v = if ∃ w, nb v w ∧ tau rd (s v) (s w) = 1 then 1 else 0 := by
  have key : ∀ w, tau rd (s v) (s w) = 1 ↔ (if rd = true then s w = (s v + 1) % 3 else s v = 0 ∧ s w = 1) := fun w => by
    have h1 := ht v
    have h2 := ht w
    unfold tau
    cases rd with
    | true =>
      simp only [if_pos]
      constructor
      · intro h
        split at h
        · omega
        · split at h
          · omega
          · omega
      · intro h
        rw [if_neg (by omega), if_pos (by omega)]
    | false =>
      simp only [Bool.false_eq_true, if_false]
      constructor
      · intro h
        split at h
        · assumption
        · split at h <;> omega
      · intro h
        rw [if_pos h, if_neg (by omega)]
        rfl
  unfold isSet
  cases rd with
  | true =>
    simp only [if_pos] at key ⊢
    simp only [key]
  | false =>
    simp only [Bool.false_eq_true, if_false] at key ⊢
    simp only [key]
    by_cases h : s v = 0 ∧ ∃ w, nb v w ∧ s w = 1
    · rw [if_pos h, if_pos (by obtain ⟨a, w, b, c⟩ := h; exact ⟨w, b, a, c⟩)]
    · rw [if_neg h, if_neg (by rintro ⟨w, b, a, c⟩; exact h ⟨a, w, b, c⟩)]
theorem nxt_tri {s : S → Int} (ht : Tri s) : Tri (nxt rd nb s) := fun v => by
  have h1 := isSet_le (rd := rd) (nb := nb) s v
  have h2 := isSet_ge (rd := rd) (nb := nb) s v
  unfold nxt
  repeat' split
  all_goals omega
theorem sim_tri {s : S → Int} (ht : Tri s) : ∀ n, Tri (sim rd nb s n)
  | 0 => ht
  | n + 1 => nxt_tri (sim_tri ht n)
theorem tau_next {s : S → Int} (hs : ∀ v w, nb v w → nb w v) (ht : Tri s) {v w : S} (h : nb v w) :
    tau rd (nxt rd nb s v) (nxt rd nb s w) = tau rd (s v) (s w) - isSet rd nb s v + isSet rd nb s w := by
  have a1 : tau rd (s v) (s w) = 1 → isSet rd nb s v = 1 := fun e => by
    rw [isSet_iff ht, if_pos ⟨w, h, e⟩]
  have a2 : tau rd (s w) (s v) = 1 → isSet rd nb s w = 1 := fun e => by
    rw [isSet_iff ht, if_pos ⟨v, hs _ _ h, e⟩]
  have b1 := isSet_le (rd := rd) (nb := nb) s v
  have b2 := isSet_ge (rd := rd) (nb := nb) s v
  have b3 := isSet_le (rd := rd) (nb := nb) s w
  have b4 := isSet_ge (rd := rd) (nb := nb) s w
  have h1 := ht v
  have h2 := ht w
  cases rd with
  | true =>
    have c : nxt true nb s v = (s v + isSet true nb s v) % 3 := rfl
    have d : nxt true nb s w = (s w + isSet true nb s w) % 3 := rfl
    rw [c, d]
    generalize isSet true nb s v = xv at *
    generalize isSet true nb s w = xw at *
    generalize s v = p at *
    generalize s w = q at *
    unfold tau at *
    simp only [if_true] at *
    have e1 : ((q + xw) % 3 - (p + xv) % 3) % 3 = (q - p + xw - xv) % 3 := by omega
    rw [e1]
    repeat' split
    all_goals (repeat' split at a1)
    all_goals (repeat' split at a2)
    all_goals omega
  | false =>
    have z1 : s v ≠ 0 → isSet false nb s v = 0 := fun e => by
      unfold isSet
      rw [if_neg (by decide), if_neg (fun h => e h.1)]
    have z2 : s w ≠ 0 → isSet false nb s w = 0 := fun e => by
      unfold isSet
      rw [if_neg (by decide), if_neg (fun h => e h.1)]
    have c : nxt false nb s v = (if s v = 0 then isSet false nb s v else if s v = 1 then 2 else 0) := rfl
    have d : nxt false nb s w = (if s w = 0 then isSet false nb s w else if s w = 1 then 2 else 0) := rfl
    rw [c, d]
    generalize isSet false nb s v = xv at *
    generalize isSet false nb s w = xw at *
    generalize s v = p at *
    generalize s w = q at *
    unfold tau at *
    simp only [Bool.false_eq_true, if_false] at *
    have hp : p = 0 ∨ p = 1 ∨ p = 2 := by omega
    have hq : q = 0 ∨ q = 1 ∨ q = 2 := by omega
    have hxv : xv = 0 ∨ xv = 1 := by omega
    have hxw : xw = 0 ∨ xw = 1 := by omega
    rcases hp with rfl | rfl | rfl <;> rcases hq with rfl | rfl | rfl <;> rcases hxv with rfl | rfl <;> rcases hxw with rfl | rfl <;> (revert a1 a2 z1 z2; clear c d h1 h2 b1 b2 b3 b4; decide)
theorem tau_sim {s : S → Int} (hs : ∀ v w, nb v w → nb w v) (ht : Tri s) {v w : S} (h : nb v w) : ∀ n,
    tau rd (sim rd nb s n v) (sim rd nb s n w) = tau rd (s v) (s w) - cnt rd nb s n v + cnt rd nb s n w
  | 0 => by simp [sim, cnt]
  | n + 1 => by
    have a := tau_next (rd := rd) hs (sim_tri (rd := rd) (nb := nb) ht n) h
    have b := tau_sim hs ht h n
    show tau rd (nxt rd nb (sim rd nb s n) v) (nxt rd nb (sim rd nb s n) w) = _ - (cnt rd nb s n v + isSet rd nb (sim rd nb s n) v) + (cnt rd nb s n w + isSet rd nb (sim rd nb s n) w)
    omega
theorem cnt_ub {s : S → Int} (hs : ∀ v w, nb v w → nb w v) (ht : Tri s) {v w : S} (h : nb v w) (n : Nat) : tau rd (s v) (s w) + cnt rd nb s n w ≤ cnt rd nb s (n + 1) v := by
  have a := tau_sim (rd := rd) hs ht h n
  have b := tau_le rd (sim rd nb s n v) (sim rd nb s n w)
  show _ ≤ cnt rd nb s n v + isSet rd nb (sim rd nb s n) v
  have c := isSet_ge (rd := rd) (nb := nb) (sim rd nb s n) v
  by_cases e : tau rd (sim rd nb s n v) (sim rd nb s n w) = 1
  · rw [isSet_iff (sim_tri ht n), if_pos ⟨w, h, e⟩]
    omega
  · omega
theorem cnt_mono1 (s : S → Int) (n : Nat) (v : S) : cnt rd nb s n v ≤ cnt rd nb s (n + 1) v := by
  have c := isSet_ge (rd := rd) (nb := nb) (sim rd nb s n) v
  show _ ≤ cnt rd nb s n v + isSet rd nb (sim rd nb s n) v
  omega
theorem cnt_mono (s : S → Int) (v : S) : ∀ {n m : Nat}, n ≤ m → cnt rd nb s n v ≤ cnt rd nb s m v := by
  intro n m h
  induction h with
  | refl => exact Int.le_refl _
  | step _ ih => exact Int.le_trans ih (cnt_mono1 s _ v)
theorem cnt_nn (s : S → Int) (n : Nat) (v : S) : 0 ≤ cnt rd nb s n v := cnt_mono s v (Nat.zero_le n)
/-- the count comes from before or from a neighbour -/
theorem cnt_from {s : S → Int} (hs : ∀ v w, nb v w → nb w v) (ht : Tri s) (v : S) (n : Nat) :
    cnt rd nb s (n + 1) v = cnt rd nb s n v ∨ ∃ w, nb v w ∧ cnt rd nb s (n + 1) v = tau rd (s v) (s w) + cnt rd nb s n w := by
  have e : cnt rd nb s (n + 1) v = cnt rd nb s n v + isSet rd nb (sim rd nb s n) v := rfl
  rw [isSet_iff (sim_tri ht n)] at e
  by_cases h : ∃ w, nb v w ∧ tau rd (sim rd nb s n v) (sim rd nb s n w) = 1
  · rw [if_pos h] at e
    obtain ⟨w, hw, h1⟩ := h
    refine Or.inr ⟨w, hw, ?_⟩
    have a := tau_sim (rd := rd) hs ht hw n
    omega
  · rw [if_neg h] at e
    exact Or.inl (by omega)
theorem sim_rounds {s : S → Int} (ht : Tri s) (v : S) : ∀ n, sim true nb s n v = (s v + cnt true nb s n v) % 3
  | 0 => by
    have := ht v
    show s v = (s v + 0) % 3
    omega
  | n + 1 => by
    have a := sim_rounds ht v n
    have b : cnt true nb s (n + 1) v = cnt true nb s n v + isSet true nb (sim true nb s n) v := rfl
    show (sim true nb s n v + isSet true nb (sim true nb s n) v) % 3 = _
    rw [b, a]
    omega
/-- set at the beat n (at beat 0: as told) -/
def wasSet (rd : Bool) (nb : S → S → Prop) (s : S → Int) (v : S) : Nat → Prop
  | 0 => s v = 1
  | m + 1 => cnt rd nb s m v < cnt rd nb s (m + 1) v
theorem sim_cries {s : S → Int} (ht : Tri s) (v : S) (n : Nat) : sim false nb s (n + 1) v =
    if cnt false nb s n v < cnt false nb s (n + 1) v then 1 else if wasSet false nb s v n then 2 else 0 := by
  have t := sim_tri (rd := false) (nb := nb) ht n v
  have b : cnt false nb s (n + 1) v = cnt false nb s n v + isSet false nb (sim false nb s n) v := rfl
  have st : sim false nb s (n + 1) v = (if sim false nb s n v = 0 then isSet false nb (sim false nb s n) v else if sim false nb s n v = 1 then 2 else 0) := rfl
  have z : sim false nb s n v ≠ 0 → isSet false nb (sim false nb s n) v = 0 := fun e => by
    unfold isSet
    rw [if_neg (by decide), if_neg (fun h => e h.1)]
  have b1 := isSet_le (rd := false) (nb := nb) (sim false nb s n) v
  have b2 := isSet_ge (rd := false) (nb := nb) (sim false nb s n) v
  have one : wasSet false nb s v n ↔ sim false nb s n v = 1 := by
    cases n with
    | zero => exact Iff.rfl
    | succ m =>
      show cnt false nb s m v < cnt false nb s (m + 1) v ↔ _
      have b' : cnt false nb s (m + 1) v = cnt false nb s m v + isSet false nb (sim false nb s m) v := rfl
      have st' : sim false nb s (m + 1) v = (if sim false nb s m v = 0 then isSet false nb (sim false nb s m) v else if sim false nb s m v = 1 then 2 else 0) := rfl
      have z' : sim false nb s m v ≠ 0 → isSet false nb (sim false nb s m) v = 0 := fun e => by
        unfold isSet
        rw [if_neg (by decide), if_neg (fun h => e h.1)]
      have c1 := isSet_le (rd := false) (nb := nb) (sim false nb s m) v
      have c2 := isSet_ge (rd := false) (nb := nb) (sim false nb s m) v
      by_cases e : sim false nb s m v = 0
      · rw [if_pos e] at st'
        omega
      · have := z' e
        rw [if_neg e] at st'
        by_cases e1 : sim false nb s m v = 1
        · rw [if_pos e1] at st'
          omega
        · rw [if_neg e1] at st'
          omega
  simp only [one]
  by_cases e : sim false nb s n v = 0
  · rw [if_pos e] at st
    by_cases e2 : isSet false nb (sim false nb s n) v = 1
    · rw [if_pos (by omega)]; omega
    · rw [if_neg (by omega), if_neg (by omega)]; omega
  · have := z e
    rw [if_neg e] at st
    rw [if_neg (by omega)]
    exact st
end
end K33


set_option linter.all false
/-! Knots and the untold hearers between them. -/
namespace K33
def turn (rd : Bool) (L : Nat) (x y : Int) : Int := if L = 1 then tau rd x y else tau rd x 0 + tau rd 0 y
theorem tau00 (rd : Bool) : tau rd 0 0 = 0 := by cases rd <;> decide
section
open Classical
variable {S : Type}
structure Net (rd : Bool) (nb : S → S → Prop) (s : S → Int) (N : Nat) (pc : Nat → List Ed) (kn : Nat → S) (Sg : Nat → Nat → Nat → (Nat → S) → Prop) : Prop where
  sym : ∀ v w, nb v w → nb w v
  tri : Tri s
  ends : ∀ {a b L f}, Sg a b L f → f 0 = kn a ∧ f L = kn b ∧ a < N ∧ b < N ∧ 1 ≤ L
  rev : ∀ {a b L f}, Sg a b L f → Sg b a L fun i => f (L - i)
  step : ∀ {a b L f} {i : Nat}, Sg a b L f → i < L → nb (f i) (f (i + 1))
  zero : ∀ {a b L f} {i : Nat}, Sg a b L f → 0 < i → i < L → s (f i) = 0
  long : ∀ {a b L f}, Sg a b L f → L ≠ 1 → rd = false
  inn : ∀ {a b L f} {i : Nat} {w : S}, Sg a b L f → 0 < i → i < L → nb (f i) w → w = f (i - 1) ∨ w = f (i + 1)
  out : ∀ {a : Nat} {w : S}, a < N → nb (kn a) w → ∃ b L f, Sg a b L f ∧ w = f 1
  pie : ∀ {a b L f}, Sg a b L f → ∃ e ∈ pc a, e.o = b ∧ e.l = L ∧ e.u = turn rd L (s (kn a)) (s (kn b))
  bak : ∀ {a : Nat} {e : Ed}, a < N → e ∈ pc a → ∃ f, Sg a e.o e.l f ∧ e.u = turn rd e.l (s (kn a)) (s (kn e.o))
  none : ∀ {a : Nat} {e : Ed}, ¬ a < N → ¬ e ∈ pc a
variable {rd : Bool} {nb : S → S → Prop} {s : S → Int} {N : Nat} {pc : Nat → List Ed} {kn : Nat → S} {Sg : Nat → Nat → Nat → (Nat → S) → Prop}
theorem Net.gr (n : Net rd nb s N pc kn Sg) : Gr N pc := by
  have h : ∀ k e, e ∈ pc k → k < N := fun k e he => by
    apply Classical.byContradiction
    intro c
    exact n.none c he
  have u : ∀ k e, e ∈ pc k → -1 ≤ e.u ∧ e.u ≤ 1 := fun k e he => by
    obtain ⟨f, hf, hu⟩ := n.bak (h k e he) he
    rw [hu]
    unfold turn
    split
    · exact ⟨tau_ge _ _ _, tau_le _ _ _⟩
    · next c =>
      have := n.long hf c
      subst this
      unfold tau
      simp only [Bool.false_eq_true, if_false]
      repeat' split
      all_goals omega
  refine ⟨fun k e hk he => ?_, fun k e he => ?_, fun k e he => (u k e he).2, fun k e he => (u k e he).1⟩
  · obtain ⟨f, hf, _⟩ := n.bak hk he
    exact (n.ends hf).2.2.2.1
  · obtain ⟨f, hf, _⟩ := n.bak (h k e he) he
    exact (n.ends hf).2.2.2.2
/-! ### from below -/
theorem Net.low (n : Net rd nb s N pc kn Sg) {a b L : Nat} {f : Nat → S} (h : Sg a b L f) (m : Nat) : ∀ (d i : Nat), 0 < i → i < L → L - i = d → tau rd 0 (s (kn b)) + cnt rd nb s m (kn b) ≤ cnt rd nb s (m + d) (f i)
  | 0, i, _, h2, h3 => by omega
  | d + 1, i, h1, h2, h3 => by
    have hb := n.step h h2
    have e := cnt_ub (rd := rd) n.sym n.tri hb (m + d)
    rw [n.zero h h1 h2] at e
    by_cases c : i + 1 = L
    · rw [c, (n.ends h).2.1] at e
      have := cnt_mono (rd := rd) (nb := nb) s (kn b) (Nat.le_add_right m d)
      rw [← Nat.add_assoc]
      omega
    · rw [n.zero h (by omega) (by omega), tau00] at e
      have := n.low h m d (i + 1) (by omega) (by omega) (by omega)
      rw [← Nat.add_assoc]
      omega
theorem Net.piece (n : Net rd nb s N pc kn Sg) {a : Nat} {e : Ed} (ha : a < N) (he : e ∈ pc a) (m : Nat) : e.u + cnt rd nb s m (kn e.o) ≤ cnt rd nb s (m + e.l) (kn a) := by
  obtain ⟨f, h, hu⟩ := n.bak ha he
  obtain ⟨e0, eL, _, _, hL⟩ := n.ends h
  have hb := n.step h hL
  rw [e0] at hb
  rw [hu]
  unfold turn
  by_cases c : e.l = 1
  · rw [if_pos c]
    have q := cnt_ub (rd := rd) n.sym n.tri hb m
    have : f (0 + 1) = kn e.o := by rw [← eL, c]
    rw [this] at q
    rw [c]
    exact q
  · rw [if_neg c]
    have q := cnt_ub (rd := rd) n.sym n.tri hb (m + (e.l - 1))
    rw [n.zero h (by omega) (by omega)] at q
    have l := n.low h m (e.l - 1) 1 (by omega) (by omega) rfl
    have e1 : m + (e.l - 1) + 1 = m + e.l := by omega
    rw [e1] at q
    simp only [Nat.zero_add] at q
    omega
theorem Net.walk (n : Net rd nb s N pc kn Sg) (m : Nat) : ∀ {r : List Ed} {k l : Nat}, k < N → Wk pc k r l → wu r + cnt rd nb s m (kn l) ≤ cnt rd nb s (m + wl r) (kn k)
  | [], _, _, _, .nil _ => by simp [wu, wl]
  | e :: r, k, l, hk, .cons hm t => by
    have a := n.walk m (n.gr.lt _ _ hk hm) t
    have b := n.piece hk hm (m + wl r)
    simp only [wu, wl]
    have : m + (e.l + wl r) = m + wl r + e.l := by omega
    rw [this]
    omega
theorem Net.fits (n : Net rd nb s N pc kn Sg) {k b m : Nat} (hk : k < N) (h : Fits N pc k b m) : (m : Int) ≤ cnt rd nb s b (kn k) := by
  obtain ⟨l, L, h, hL⟩ := h
  obtain ⟨r, h1, h2, h3⟩ := h.walk
  have a := n.walk 0 hk h1
  have c : cnt rd nb s 0 (kn l) = 0 := rfl
  have d := cnt_mono (rd := rd) (nb := nb) s (kn k) (show 0 + wl r ≤ b by omega)
  omega
/-! ### from above -/
def Via (pc : Nat → List Ed) (a d n : Nat) (z c : Int) : Prop := ∃ r l, Wk pc a r l ∧ d + wl r ≤ n ∧ c ≤ z + wu r
theorem Via.mono {a d n n' : Nat} {z c : Int} (h : n ≤ n') (v : Via pc a d n z c) : Via pc a d n' z c := let ⟨r, l, h1, h2, h3⟩ := v; ⟨r, l, h1, by omega, h3⟩
theorem Net.up (n : Net rd nb s N pc kn Sg) : ∀ b : Nat, (∀ a, a < N → Via pc a 0 b 0 (cnt rd nb s b (kn a))) ∧
    ∀ a k L f, Sg a k L f → ∀ i, 0 < i → i < L → cnt rd nb s b (f i) ≤ 0 ∨ Via pc a i b (tau rd 0 (s (kn a))) (cnt rd nb s b (f i)) ∨ Via pc k (L - i) b (tau rd 0 (s (kn k))) (cnt rd nb s b (f i))
  | 0 => ⟨fun a _ => ⟨[], a, .nil a, Nat.le_refl _, by simp [cnt, wu]⟩, fun a k L f h i h1 h2 => Or.inl (Int.le_refl _)⟩
  | b + 1 => by
    obtain ⟨K, I⟩ := n.up b
    constructor
    · intro a ha
      rcases cnt_from (rd := rd) n.sym n.tri (kn a) b with e | ⟨w, hw, e⟩
      · rw [e]
        exact (K a ha).mono (Nat.le_succ b)
      · rw [e]
        obtain ⟨k, L, f, h, rfl⟩ := n.out ha hw
        obtain ⟨e0, eL, _, hk, hL⟩ := n.ends h
        obtain ⟨ed, hm, g1, g2, g3⟩ := n.pie h
        by_cases c : L = 1
        · subst c
          rw [eL]
          obtain ⟨r, l, w1, w2, w3⟩ := K k hk
          refine ⟨ed :: r, l, .cons hm (g1 ▸ w1), ?_, ?_⟩
          · simp only [wl]; omega
          · simp only [wu]
            unfold turn at g3
            rw [if_pos rfl] at g3
            omega
        · have rdf := n.long h c
          have neg : tau rd (s (kn a)) 0 ≤ 0 := by
            subst rdf
            unfold tau
            simp only [Bool.false_eq_true, if_false]
            repeat' split
            all_goals omega
          have z1 := n.zero h (i := 1) (by omega) (by omega)
          rw [z1]
          rcases I a k L f h 1 (by omega) (by omega) with q | ⟨r, l, w1, w2, w3⟩ | ⟨r, l, w1, w2, w3⟩
          · exact ⟨[], a, .nil a, by simp [wl], by simp only [wu]; omega⟩
          · refine ⟨r, l, w1, by omega, ?_⟩
            have := tau_anti rd (s (kn a)) 0
            omega
          · refine ⟨ed :: r, l, .cons hm (g1 ▸ w1), ?_, ?_⟩
            · simp only [wl]; omega
            · simp only [wu]
              unfold turn at g3
              rw [if_neg c] at g3
              omega
    · intro a k L f h i h1 h2
      obtain ⟨e0, eL, ha, hk, hL⟩ := n.ends h
      have zi := n.zero h h1 h2
      rcases cnt_from (rd := rd) n.sym n.tri (f i) b with e | ⟨w, hw, e⟩
      · rw [e]
        rcases I a k L f h i h1 h2 with q | q | q
        · exact .inl q
        · exact .inr (.inl (q.mono (Nat.le_succ b)))
        · exact .inr (.inr (q.mono (Nat.le_succ b)))
      · rw [e, zi]
        rcases n.inn h h1 h2 hw with rfl | rfl
        · by_cases c : i = 1
          · subst c
            rw [show 1 - 1 = 0 by omega, e0]
            obtain ⟨r, l, w1, w2, w3⟩ := K a ha
            exact .inr (.inl ⟨r, l, w1, by omega, by omega⟩)
          · have z := n.zero h (i := i - 1) (by omega) (by omega)
            rw [z, tau00]
            rcases I a k L f h (i - 1) (by omega) (by omega) with q | ⟨r, l, w1, w2, w3⟩ | ⟨r, l, w1, w2, w3⟩
            · exact .inl (by omega)
            · exact .inr (.inl ⟨r, l, w1, by omega, by omega⟩)
            · exact .inr (.inr ⟨r, l, w1, by omega, by omega⟩)
        · by_cases c : i + 1 = L
          · rw [c, eL]
            obtain ⟨r, l, w1, w2, w3⟩ := K k hk
            exact .inr (.inr ⟨r, l, w1, by omega, by omega⟩)
          · have z := n.zero h (i := i + 1) (by omega) (by omega)
            rw [z, tau00]
            rcases I a k L f h (i + 1) (by omega) (by omega) with q | ⟨r, l, w1, w2, w3⟩ | ⟨r, l, w1, w2, w3⟩
            · exact .inl (by omega)
            · exact .inr (.inl ⟨r, l, w1, by omega, by omega⟩)
            · exact .inr (.inr ⟨r, l, w1, by omega, by omega⟩)
theorem Net.via (n : Net rd nb s N pc kn Sg) {a d b : Nat} {z c : Int} (ha : a < N) (v : Via pc a d b z c) (hc : 0 ≤ c - z) : d ≤ b ∧ c ≤ z + cnt rd nb s (b - d) (kn a) := by
  obtain ⟨r, l, h1, h2, h3⟩ := v
  have := complete n.gr r.length r a l (c - z).toNat (Nat.le_refl _) ha h1 (by omega)
  obtain ⟨x, L, g1, g2⟩ := this
  have := n.fits ha ⟨x, L, g1, (show L ≤ b - d by omega)⟩
  exact ⟨by omega, by omega⟩
/-- how often a knot is set -/
theorem Net.most (n : Net rd nb s N pc kn Sg) {a b m : Nat} (ha : a < N) (h : Most N pc a b m) : cnt rd nb s b (kn a) = m := by
  have l := n.fits ha h.yes
  obtain ⟨r, x, h1, h2, h3⟩ := (n.up b).1 a ha
  apply Int.le_antisymm _ l
  apply Classical.byContradiction
  intro c
  have f := complete n.gr r.length r a x (m + 1) (Nat.le_refl _) ha h1 (by omega)
  obtain ⟨y, L, g1, g2⟩ := f
  exact h.no ⟨y, L, g1, by omega⟩
def most2 (x y : Int) : Int := if y > x then y else x
/-- how often an untold hearer is set -/
theorem Net.amid (n : Net rd nb s N pc kn Sg) {a k L i b : Nat} {f : Nat → S} (h : Sg a k L f) (h1 : 0 < i) (h2 : i < L) : cnt rd nb s b (f i) =
    (if L - i ≤ b then most2 (if i ≤ b then most2 0 (tau rd 0 (s (kn a)) + cnt rd nb s (b - i) (kn a)) else 0) (tau rd 0 (s (kn k)) + cnt rd nb s (b - (L - i)) (kn k))
      else (if i ≤ b then most2 0 (tau rd 0 (s (kn a)) + cnt rd nb s (b - i) (kn a)) else 0)) := by
  obtain ⟨e0, eL, ha, hk, hL⟩ := n.ends h
  have rdf := n.long h (by omega)
  have p : ∀ y, 0 ≤ tau rd 0 y ∧ tau rd 0 y ≤ 1 := fun y => by
    subst rdf
    unfold tau
    simp only [Bool.false_eq_true, if_false]
    repeat' split
    all_goals omega
  have nn := cnt_nn (rd := rd) (nb := nb) s b (f i)
  have lb : L - i ≤ b → tau rd 0 (s (kn k)) + cnt rd nb s (b - (L - i)) (kn k) ≤ cnt rd nb s b (f i) := fun c => by
    have := n.low h (b - (L - i)) (L - i) i h1 h2 rfl
    rw [Nat.sub_add_cancel c] at this
    exact this
  have la : i ≤ b → tau rd 0 (s (kn a)) + cnt rd nb s (b - i) (kn a) ≤ cnt rd nb s b (f i) := fun c => by
    have := n.low (n.rev h) (b - i) i (L - i) (by omega) (by omega) (by omega)
    rw [Nat.sub_add_cancel c, show L - (L - i) = i by omega] at this
    exact this
  have p1 := p (s (kn a))
  have p2 := p (s (kn k))
  have ub := (n.up b).2 a k L f h i h1 h2
  have ub' : cnt rd nb s b (f i) ≤ 0 ∨ (i ≤ b ∧ cnt rd nb s b (f i) ≤ tau rd 0 (s (kn a)) + cnt rd nb s (b - i) (kn a)) ∨ (L - i ≤ b ∧ cnt rd nb s b (f i) ≤ tau rd 0 (s (kn k)) + cnt rd nb s (b - (L - i)) (kn k)) := by
    by_cases z : cnt rd nb s b (f i) ≤ 0
    · exact .inl z
    · rcases ub with q | q | q
      · exact .inl q
      · exact .inr (.inl (n.via ha q (by omega)))
      · exact .inr (.inr (n.via hk q (by omega)))
  unfold most2
  by_cases c1 : i ≤ b
  · have l1 := la c1
    rw [if_pos c1]
    by_cases c2 : L - i ≤ b
    · have l2 := lb c2
      rw [if_pos c2]
      repeat' split
      all_goals omega
    · rw [if_neg c2]
      repeat' split
      all_goals omega
  · rw [if_neg c1]
    by_cases c2 : L - i ≤ b
    · have l2 := lb c2
      rw [if_pos c2]
      repeat' split
      all_goals omega
    · rw [if_neg c2]
      omega
end
end K33


set_option Elab.async false
set_option linter.all false
set_option maxRecDepth 100000
set_option maxHeartbeats 4000000
namespace K33
open PySem PySem.Spec PyProof.Rows L2 K33M
def spotOf (t : Tie) (i : Int) : Spot := if i = 0 then .p t.one else if i = t.len then .p t.other else .h t.nm i
theorem spotOf_in {W : Web} (ok : WOk W) {t : Tie} (h : t ∈ W.ts) {i : Int} (h0 : 0 ≤ i) (h1 : i ≤ t.len) : SpotIn W (spotOf t i) := by
  unfold spotOf
  split
  · exact (ok.ts.ok t h).one
  · split
    · exact (ok.ts.ok t h).two
    · exact ⟨t, h, rfl, by omega, by omega⟩
theorem hsSt_tri {l : Int} : ∀ {hs : List (Int × Int)}, (∀ q ∈ hs, 0 < q.1 ∧ q.1 < l ∧ 1 ≤ q.2 ∧ q.2 ≤ 2) → ∀ i, 0 ≤ hsSt hs i ∧ hsSt hs i ≤ 2 := fun {hs} h i => by
  unfold hsSt
  split
  · next q e =>
    have := h q (List.mem_of_find?_eq_some e)
    omega
  · omega
theorem psSt_tri {ps : List (Str × Int)} (h : ∀ q ∈ ps, 0 ≤ q.2 ∧ q.2 ≤ 2) (x : Str) : 0 ≤ psSt ps x ∧ psSt ps x ≤ 2 := by
  unfold psSt
  split
  · next q e => exact h q (List.mem_of_find?_eq_some e)
  · omega
theorem stOf_tri {W : Web} (ok : WOk W) : Tri (stOf W)
  | .p x => psSt_tri ok.ps.st x
  | .h n i => by
    show 0 ≤ (match tieOf W.ts n with | some t => hsSt t.hs i | none => 0) ∧ (match tieOf W.ts n with | some t => hsSt t.hs i | none => 0) ≤ 2
    split
    · next t e =>
      unfold tieOf at e
      exact hsSt_tri (ok.ts.ok t (List.mem_of_find?_eq_some e)).hs.2 i
    · omega
def gapT (W : Web) (t : Tie) (a b : Int) : Int := turn W.rd (b - a).toNat (stOf W (spotOf t a)) (stOf W (spotOf t b))
def plc (t : Tie) : List Int := 0 :: (t.hs.map (·.1) ++ [t.len])
theorem eq_pair {K : PySem.W.Frag} {H : Hp} {x y a b : Int} {p q : Addr} {Q : VK} (hp : H p = some (.tup [.int x, .int y])) (hq : H q = some (.tup [.int a, .int b])) (k : Q (.bl (decide (x = a ∧ y = b))) H) : rEqD K (.ref p) (.ref q) H Q := by
  have sh : ∀ i j : Int, SeqAt.shaped (.tuple [.int i, .int j]) = true := fun i j => by simp [SeqAt.shaped, PyData.canLay0, PyData.canLayAll0, PyData.depth, PyData.depthAll]
  refine ⟨.tuple [.int x, .int y], .tuple [.int a, .int b], .tup (sqt hp) (.cons (.int _) (.cons (.int _) .nil)), .tup (sqt hq) (.cons (.int _) (.cons (.int _) .nil)), sh _ _, sh _ _, ?_⟩
  have e : PyData.eqv (.tuple [.int x, .int y]) (.tuple [.int a, .int b]) = decide (x = a ∧ y = b) := by
    simp only [PyData.eqv, PyData.eqvAll, Bool.and_true]
    by_cases c1 : x = a <;> by_cases c2 : y = b <;> simp [c1, c2]
  rw [e]
  exact k
theorem sum_one {α : Type} (f : α → Nat) {a : α} : ∀ {l : List α}, a ∈ l → f a ≤ (l.map f).sum
  | x :: l, h => by
    rw [List.map_cons, List.sum_cons]
    rcases List.mem_cons.mp h with e | h
    · rw [e]; omega
    · have := sum_one f h
      omega
def sp_want_place (K : PySem.W.Frag) : Sp := fun vs H Q _ => ∃ (p r : Addr) (W : Web) (t : Tie) (i : Int), vs = [.ref p, .str t.nm, .int i] ∧ WebAt (cW K) H p W r ∧ WOk W ∧ t ∈ W.ts ∧ 0 ≤ i ∧ i ≤ t.len ∧ ∀ H', Ex H H' → Q .non H'
def sp_spot_at (K : PySem.W.Frag) : Sp := fun vs H Q _ => ∃ (p r : Addr) (W : Web) (t : Tie) (i : Int), vs = [.ref p, .str t.nm, .int i] ∧ WebAt (cW K) H p W r ∧ WOk W ∧ t ∈ W.ts ∧ 0 ≤ i ∧ i ≤ t.len ∧ ∀ y H', Ex H H' → SpV H' y (spotOf t i) → Q y H'
def sp_step_turn : Sp := fun vs H Q _ => ∃ (rd : Bool) (x y : Int), vs = [.bl rd, .int x, .int y] ∧ 0 ≤ x ∧ x ≤ 2 ∧ 0 ≤ y ∧ y ≤ 2 ∧ ∀ H', Ex H H' → Q (.int (tau rd x y)) H'
def sp_gap_turn (K : PySem.W.Frag) : Sp := fun vs H Q _ => ∃ (p r : Addr) (W : Web) (t : Tie) (a b : Int), vs = [.ref p, .str t.nm, .int a, .int b] ∧ WebAt (cW K) H p W r ∧ WOk W ∧ t ∈ W.ts ∧ 0 ≤ a ∧ a < b ∧ b ≤ t.len ∧ ∀ H', Ex H H' → Q (.int (gapT W t a b)) H'
def sp_turn_along (K : PySem.W.Frag) : Sp := fun vs H Q _ => ∃ (p r : Addr) (W : Web) (t : Tie) (a b : Int), vs = [.ref p, .str t.nm, .int a, .int b] ∧ WebAt (cW K) H p W r ∧ WOk W ∧ t ∈ W.ts ∧ 0 ≤ a ∧ a < b ∧ b ≤ t.len ∧ (∀ q ∈ t.hs, ¬ (a < q.1 ∧ q.1 < b)) ∧ ∀ H', Ex H H' → Q (.int (gapT W t a b)) H'
def sp_places_of_knots (K : PySem.W.Frag) : Sp := fun vs H Q _ => ∃ (p r : Addr) (W : Web) (t : Tie), vs = [.ref p, .str t.nm] ∧ WebAt (cW K) H p W r ∧ WOk W ∧ t ∈ W.ts ∧ ∀ l H', H l = none → Ex H H' → H' l = some (.lst ((plc t).map V.int)) → Q (.ref l) H'
def sp_want_spot (K : PySem.W.Frag) : Sp := fun vs H Q _ => ∃ (p r : Addr) (W : Web) (y : V) (sp : Spot), vs = [.ref p, y] ∧ WebAt (cW K) H p W r ∧ WOk W ∧ SpV H y sp ∧ SpotIn W sp ∧ ∀ H', Ex H H' → Q .non H'
def sp_want_count : Sp := fun vs H Q _ => ∃ i : Int, vs = [.int i] ∧ 0 ≤ i ∧ ∀ H', Ex H H' → Q .non H'
section
variable {P : Program} {w : World} {K : PySem.W.Frag} {mg : Str → Option Value} {base : Heap}
theorem o_want_spot (T : Tx K mg) : FO P w K mg base 5 (He.ga K "want_spot") ["web", "spot"] (sp_want_spot K) := def_ok T.f_want_spot sc_want_spot (fun _ _ _ _ _ _ us hl => match us, hl with | [_, _], _ => rfl)
    (fun _ _ _ _ h => by obtain ⟨_, _, _, _, _, rfl, _⟩ := h; rfl) fun cdv A outer s H vs Q E hr h => by
  have hu := hu_of hr
  obtain ⟨p, r, W, y, sp, rfl, hw, ok, hy, hs, hQ⟩ := h
  obtain ⟨dx, ds, dt, tas, h1, h2, h3, h4⟩ := hw.ex
  refine ⟨_, (pss_one (ps_if (pt_not (pt_val (c_m (pv 0) T.c_Web T.m_Web_has_spot (o_Web_has_spot T) (hr.mono (by decide)) (pa_cons (pv 1) pa_nil)))) (pss_one ps_never) pss_nil)), ?_⟩
  dsimp only [tCKw, tM1, tVals, tVar, tC, tB, tAnd, tOr, tNot, tAndV, tOrV, tNotV, tIf, tNext, tSeq, tBreak, tCont, tDrop, tRet, tRetN, tIfS, tNever, gName, gNil, gCons, gTup, gSub, tAsg, tPar, tAug, tTest, tChain, tFld, sFld, tNil, tCons, tTup, tLst, tCall, tMeth, tCB, tBM, tNoPart, tPart, tSl, tOp, tUn, rI, rI0, rU, iList, iTup, iRng1, iRng2, iStr, iEnum, iZip, iItems, iVals, tDGet, tDIn, tDNotIn, sDPut, tDGet2, tDNewK, tDNewT, tYes, fin, List.cons_append, List.nil_append, bx, cxOf, Cx.nox]
  exact ⟨_, rfl, p, _, _, rfl, h1, rfl, _, rfl, p, r, W, y, sp, rfl, hw, ok, hy, hs, fun H1 e1 => ⟨_, rfl, hQ _ e1⟩⟩
theorem o_want_count (T : Tx K mg) : FO P w K mg base 2 (He.ga K "want_count") ["thing"] sp_want_count := def_ok T.f_want_count sc_want_count (fun _ _ _ _ _ _ us hl => match us, hl with | [_], _ => rfl)
    (fun _ _ _ _ h => by obtain ⟨_, rfl, _⟩ := h; rfl) fun cdv A outer s H vs Q E hr h => by
  have hu := hu_of hr
  obtain ⟨i, rfl, hi, hQ⟩ := h
  refine ⟨_, (pss_one (ps_if (pt_not (pt_val (c_fn (o_is_count T) T.g_is_count (hr.mono (by decide)) (pa_cons (pv 0) pa_nil)))) (pss_one ps_never) pss_nil)), ?_⟩
  dsimp only [tCKw, tM1, tVals, tVar, tC, tB, tAnd, tOr, tNot, tAndV, tOrV, tNotV, tIf, tNext, tSeq, tBreak, tCont, tDrop, tRet, tRetN, tIfS, tNever, gName, gNil, gCons, gTup, gSub, tAsg, tPar, tAug, tTest, tChain, tFld, sFld, tNil, tCons, tTup, tLst, tCall, tMeth, tCB, tBM, tNoPart, tPart, tSl, tOp, tUn, rI, rI0, rU, iList, iTup, iRng1, iRng2, iStr, iEnum, iZip, iItems, iVals, tDGet, tDIn, tDNotIn, sDPut, tDGet2, tDNewK, tDNewT, tYes, fin, List.cons_append, List.nil_append, bx, cxOf, Cx.nox]
  refine ⟨_, rfl, i, rfl, fun H1 e1 => ⟨_, rfl, ?_⟩⟩
  rw [decide_eq_true hi]
  exact hQ _ e1
theorem o_want_place (T : Tx K mg) : FO P w K mg base 4 (He.ga K "want_place") ["web", "tie", "place"] (sp_want_place K) := def_ok T.f_want_place sc_want_place (fun _ _ _ _ _ _ us hl => match us, hl with | [_, _, _], _ => rfl)
    (fun _ _ _ _ h => by obtain ⟨_, _, _, _, _, rfl, _⟩ := h; rfl) fun cdv A outer s H vs Q E hr h => by
  have hu := hu_of hr
  obtain ⟨p, r, W, t, i, rfl, hw, ok, ht, hi, hl, hQ⟩ := h
  obtain ⟨dx, ds, dt, tas, h1, h2, h3, h4⟩ := hw.ex
  refine ⟨_, (pss_cons (ps_set (i := 3) sc_want_place.nd rfl (.inl rfl) (c_m (pv 0) T.c_Web T.m_Web_length (o_Web_length T) (hr.mono (by decide)) (pa_cons (pv 1) pa_nil)))
      (pss_one (ps_if (PW.pt (pw_or (pt_not (pt_val (c_fn (o_is_count T) T.g_is_count (hr.mono (by decide)) (pa_cons (pv 2) pa_nil)))) (pw_or1 (pt_cmpR op_gt (pv 2) (pv 3) (nomark _))))) (pss_one ps_never) pss_nil))), ?_⟩
  dsimp only [tCKw, tM1, tVals, tVar, tC, tB, tAnd, tOr, tNot, tAndV, tOrV, tNotV, tIf, tNext, tSeq, tBreak, tCont, tDrop, tRet, tRetN, tIfS, tNever, gName, gNil, gCons, gTup, gSub, tAsg, tPar, tAug, tTest, tChain, tFld, sFld, tNil, tCons, tTup, tLst, tCall, tMeth, tCB, tBM, tNoPart, tPart, tSl, tOp, tUn, rI, rI0, rU, iList, iTup, iRng1, iRng2, iStr, iEnum, iZip, iItems, iVals, tDGet, tDIn, tDNotIn, sDPut, tDGet2, tDNewK, tDNewT, tYes, fin, List.cons_append, List.nil_append, bx, cxOf, Cx.nox]
  refine ⟨_, rfl, p, _, _, rfl, h1, rfl, _, rfl, p, r, W, t, rfl, hw, ok, ht, fun H1 e1 => ?_⟩
  refine ⟨_, rfl, i, rfl, fun H2 e2 => ⟨_, rfl, ?_⟩⟩
  rw [decide_eq_true hi]
  refine ⟨_, rfl, _, rfl, _, _, rfl, rfl, ⟨_, rfl, ?_⟩⟩
  rw [decide_eq_false (show ¬ t.len < i by omega)]
  exact hQ _ (e1.trans e2)
theorem o_spot_at (T : Tx K mg) : FO P w K mg base 5 (He.ga K "spot_at") ["web", "tie", "place"] (sp_spot_at K) := def_ok T.f_spot_at sc_spot_at (fun _ _ _ _ _ _ us hl => match us, hl with | [_, _, _], _ => rfl)
    (fun _ _ _ _ h => by obtain ⟨_, _, _, _, _, rfl, _⟩ := h; rfl) fun cdv A outer s H vs Q E hr h => by
  have hu := hu_of hr
  obtain ⟨p, r, W, t, i, rfl, hw, ok, ht, hi, hl, hQ⟩ := h
  obtain ⟨dx, ds, dt, tas, h1, h2, h3, h4⟩ := hw.ex
  refine ⟨_, (pss_cons (ps_expr (c_fn (o_want_place T) T.g_want_place (hr.mono (by decide)) (pa_cons (pv 0) (pa_cons (pv 1) (pa_cons (pv 2) pa_nil)))))
      (pss_cons (ps_asg (c_m (pv 0) T.c_Web T.m_Web_ends (o_Web_ends T) (hr.mono (by decide)) (pa_cons (pv 1) pa_nil)) (pg_tup rfl (pgs_cons (pg_name (i := 3) sc_spot_at.nd rfl (.inl rfl)) (pgs_cons (pg_name (i := 4) sc_spot_at.nd rfl (.inl rfl)) pgs_nil))))
      (pss_cons (ps_if (pt_cmpR op_eq (pv 2) pe_int (nomark _)) (pss_one (ps_ret (pv 3))) pss_nil)
      (pss_one (ps_ret (pe_ifExp (pt_cmpR op_eq (pv 2) (c_m (pv 0) T.c_Web T.m_Web_length (o_Web_length T) (hr.mono (by decide)) (pa_cons (pv 1) pa_nil)) (nomark _)) (pv 4) (pe_tup (pa_cons (pv 1) (pa_cons (pv 2) pa_nil))))))))), ?_⟩
  dsimp only [tCKw, tM1, tVals, tVar, tC, tB, tAnd, tOr, tNot, tAndV, tOrV, tNotV, tIf, tNext, tSeq, tBreak, tCont, tDrop, tRet, tRetN, tIfS, tNever, gName, gNil, gCons, gTup, gSub, tAsg, tPar, tAug, tTest, tChain, tFld, sFld, tNil, tCons, tTup, tLst, tCall, tMeth, tCB, tBM, tNoPart, tPart, tSl, tOp, tUn, rI, rI0, rU, iList, iTup, iRng1, iRng2, iStr, iEnum, iZip, iItems, iVals, tDGet, tDIn, tDNotIn, sDPut, tDGet2, tDNewK, tDNewT, tYes, fin, List.cons_append, List.nil_append, bx, cxOf, Cx.nox]
  refine ⟨_, rfl, _, rfl, _, rfl, p, r, W, t, i, rfl, hw, ok, ht, hi, hl, fun H1 e1 => ?_⟩
  refine ⟨_, rfl, p, _, _, rfl, e1 _ _ h1, rfl, _, rfl, p, r, W, t, rfl, hw.mono e1, ok, ht, fun a H2 e2 ha => ?_⟩
  refine ⟨_, _, rfl, sqt ha, rfl, _, _, rfl, _, _, rfl, rfl, ?_⟩
  refine ⟨_, rfl, rfl, ⟨_, rfl, ?_⟩⟩
  have e12 := e1.trans e2
  by_cases c : i = 0
  · rw [decide_eq_true (show V.int i = V.int 0 by rw [c])]
    refine ⟨_, rfl, hQ _ _ e12 ?_⟩
    unfold spotOf
    rw [if_pos c]
    rfl
  · rw [decide_eq_false (show ¬ V.int i = V.int 0 by intro z; injection z; omega)]
    refine ⟨_, rfl, _, rfl, p, _, _, rfl, e12 _ _ h1, rfl, _, rfl, p, r, W, t, rfl, hw.mono e12, ok, ht, fun H3 e3 => ⟨rfl, _, rfl, ?_⟩⟩
    by_cases c2 : i = t.len
    · rw [decide_eq_true (show V.int i = V.int t.len by rw [c2])]
      refine ⟨_, rfl, hQ _ _ (e12.trans e3) ?_⟩
      unfold spotOf
      rw [if_neg c, if_pos c2]
      rfl
    · rw [decide_eq_false (show ¬ V.int i = V.int t.len by intro z; injection z; omega)]
      refine ⟨_, rfl, _, rfl, Nat.le_of_ble_eq_true rfl, fun q hq => hQ _ _ ((e12.trans e3).trans (Evl.Ex.new hq)) ?_⟩
      unfold spotOf
      rw [if_neg c, if_neg c2]
      exact ⟨q, rfl, upd_same⟩
theorem o_step_turn (T : Tx K mg) : FO P w K mg base 1 (He.ga K "step_turn") ["rounds", "here", "there"] sp_step_turn := def_ok T.f_step_turn sc_step_turn (fun _ _ _ _ _ _ us hl => match us, hl with | [_, _, _], _ => rfl)
    (fun _ _ _ _ h => by obtain ⟨_, _, _, rfl, _⟩ := h; rfl) fun cdv A outer s H vs Q E hr h => by
  have hu := hu_of hr
  obtain ⟨_, hi_CRYING_walks, ri_CRYING_walks⟩ := T.i_CRYING_walks
  obtain ⟨_, hi_STILL, ri_STILL⟩ := T.i_STILL
  obtain ⟨rd, x, y, rfl, hx, hx2, hy, hy2, hQ⟩ := h
  refine ⟨_, (pss_cons (ps_if (pt_val (pv 0)) (pss_one (ps_ret (pe_ix ix_list (pe_lst (pa_cons pe_int (pa_cons pe_int (pa_cons (pe_un un_neg pe_int) pa_nil)))) (pe_op op_mod (pe_op op_sub (pv 2) (pv 1)) pe_int) (fun _ _ => rfl)))) pss_nil)
      (pss_one (ps_ret (pe_op op_sub (pe_callTy call_int1 (by rfl) T.z_int (by decide +kernel) (pa_cons (pe_cmpR (op_eqD hr.units) (pe_tup (pa_cons (pv 1) (pa_cons (pv 2) pa_nil))) (pe_tup (pa_cons (pe_glob rfl hi_STILL ri_STILL) (pa_cons (pe_glob rfl hi_CRYING_walks ri_CRYING_walks) pa_nil))) (nomark _)) pa_nil)) (pe_callTy call_int1 (by rfl) T.z_int (by decide +kernel) (pa_cons (pe_cmpR (op_eqD hr.units) (pe_tup (pa_cons (pv 1) (pa_cons (pv 2) pa_nil))) (pe_tup (pa_cons (pe_glob rfl hi_CRYING_walks ri_CRYING_walks) (pa_cons (pe_glob rfl hi_STILL ri_STILL) pa_nil))) (nomark _)) pa_nil)))))), ?_⟩
  dsimp only [tCKw, tM1, tVals, tVar, tC, tB, tAnd, tOr, tNot, tAndV, tOrV, tNotV, tIf, tNext, tSeq, tBreak, tCont, tDrop, tRet, tRetN, tIfS, tNever, gName, gNil, gCons, gTup, gSub, tAsg, tPar, tAug, tTest, tChain, tFld, sFld, tNil, tCons, tTup, tLst, tCall, tMeth, tCB, tBM, tNoPart, tPart, tSl, tOp, tUn, rI, rI0, rU, iList, iTup, iRng1, iRng2, iStr, iEnum, iZip, iItems, iVals, tDGet, tDIn, tDNotIn, sDPut, tDGet2, tDNewK, tDNewT, tYes, fin, List.cons_append, List.nil_append, bx, cxOf, Cx.nox]
  cases rd with
  | true =>
    refine ⟨_, rfl, _, rfl, _, rfl, Nat.le_of_ble_eq_true rfl, fun l hl => ⟨_, rfl, _, rfl, _, _, rfl, rfl, _, _, rfl, rfl, by decide, ?_⟩⟩
    have q := hQ _ (Evl.Ex.new (o := .lst [.int 0, .int 1, .int (-1)]) hl)
    unfold tau at q
    rw [if_pos rfl] at q
    have hm : (y - x) % 3 = 0 ∨ (y - x) % 3 = 1 ∨ (y - x) % 3 = 2 := by omega
    rcases hm with e | e | e
    · rw [if_pos e] at q
      exact ⟨l, _, _, _, rfl, rfl, sql upd_same, by rw [e]; rfl, q⟩
    · rw [if_neg (by omega), if_pos e] at q
      exact ⟨l, _, _, _, rfl, rfl, sql upd_same, by rw [e]; rfl, q⟩
    · rw [if_neg (by omega), if_neg (by omega)] at q
      exact ⟨l, _, _, _, rfl, rfl, sql upd_same, by rw [e]; rfl, q⟩
  | false =>
    refine ⟨_, rfl, _, rfl, _, rfl, _, rfl, Nat.le_of_ble_eq_true rfl, fun l1 hl1 => ⟨Nat.le_of_ble_eq_true rfl, fun l2 hl2 => ?_⟩⟩
    have n1 : l2 ≠ l1 := fun z => by rw [z, upd_same] at hl2; cases hl2
    refine eq_pair (x := x) (y := y) (a := 0) (b := 1) (by rw [upd_ne n1.symm, upd_same]) upd_same (.inr ⟨_, rfl, _, rfl, _, rfl, Nat.le_of_ble_eq_true rfl, fun l3 hl3 => ⟨Nat.le_of_ble_eq_true rfl, fun l4 hl4 => ?_⟩⟩)
    have n2 : l4 ≠ l3 := fun z => by rw [z, upd_same] at hl4; cases hl4
    refine eq_pair (x := x) (y := y) (a := 1) (b := 0) (by rw [upd_ne n2.symm, upd_same]) upd_same (.inr ⟨_, rfl, _, _, rfl, rfl, ?_⟩)
    have q := hQ _ ((((Evl.Ex.new (o := .tup [.int x, .int y]) hl1).trans (Evl.Ex.new (o := .tup [.int 0, .int 1]) hl2)).trans (Evl.Ex.new (o := .tup [.int x, .int y]) hl3)).trans (Evl.Ex.new (o := .tup [.int 1, .int 0]) hl4))
    unfold tau at q
    simp only [Bool.false_eq_true, if_false] at q
    simp only [decide_eq_true_eq]
    exact q
theorem o_gap_turn (T : Tx K mg) : FO P w K mg base 6 (He.ga K "gap_turn") ["web", "tie", "start", "goal"] (sp_gap_turn K) := def_ok T.f_gap_turn sc_gap_turn (fun _ _ _ _ _ _ us hl => match us, hl with | [_, _, _, _], _ => rfl)
    (fun _ _ _ _ h => by obtain ⟨_, _, _, _, _, _, rfl, _⟩ := h; rfl) fun cdv A outer s H vs Q E hr h => by
  have hu := hu_of hr
  obtain ⟨_, hi_STILL, ri_STILL⟩ := T.i_STILL
  obtain ⟨p, r, W, t, a, b, rfl, hw, ok, ht, ha, hab, hb, hQ⟩ := h
  obtain ⟨dx, ds, dt, tas, h1, h2, h3, h4⟩ := hw.ex
  refine ⟨_, (pss_cons (ps_asg (pe_lc (own := [("place", 6)]) rfl sc_gap_turn.nd (pi_tup (pe_tup (pa_cons (pv 2) (pa_cons (pv 3) pa_nil)))) (blkOk_by (by rfl)) (fun _ _ _ _ _ => (pg_name (i := 6) sc_gap_turn.nd rfl (.inl rfl))) (fun _ _ _ _ _ => pts_nil) (fun _ _ _ _ _ => (c_m (pv 0) T.c_Web T.m_Web_state (o_Web_state T) (hr.mono (by decide)) (pa_cons (c_fn (o_spot_at T) T.g_spot_at (hr.mono (by decide)) (pa_cons (pv 0) (pa_cons (pv 1) (pa_cons (pv 6) pa_nil)))) pa_nil)))) (pg_unl rfl (pgs_cons (pg_name (i := 4) sc_gap_turn.nd rfl (.inl rfl)) (pgs_cons (pg_name (i := 5) sc_gap_turn.nd rfl (.inl rfl)) pgs_nil))))
      (pss_cons (ps_if (pt_cmpR op_eq (pe_op op_sub (pv 3) (pv 2)) pe_int (nomark _)) (pss_one (ps_ret (c_fn (o_step_turn T) T.g_step_turn (hr.mono (by decide)) (pa_cons (c_m0 (pv 0) T.c_Web T.m_Web_rounds (o_Web_rounds T) (hr.mono (by decide))) (pa_cons (pv 4) (pa_cons (pv 5) pa_nil)))))) pss_nil)
      (pss_one (ps_ret (pe_op op_add (c_fn (o_step_turn T) T.g_step_turn (hr.mono (by decide)) (pa_cons (c_m0 (pv 0) T.c_Web T.m_Web_rounds (o_Web_rounds T) (hr.mono (by decide))) (pa_cons (pv 4) (pa_cons (pe_glob rfl hi_STILL ri_STILL) pa_nil)))) (c_fn (o_step_turn T) T.g_step_turn (hr.mono (by decide)) (pa_cons (c_m0 (pv 0) T.c_Web T.m_Web_rounds (o_Web_rounds T) (hr.mono (by decide))) (pa_cons (pe_glob rfl hi_STILL ri_STILL) (pa_cons (pv 5) pa_nil))))))))), ?_⟩
  dsimp only [tCKw, tM1, tVals, tVar, tC, tB, tAnd, tOr, tNot, tAndV, tOrV, tNotV, tIf, tNext, tSeq, tBreak, tCont, tDrop, tRet, tRetN, tIfS, tNever, gName, gNil, gCons, gTup, gSub, tAsg, tPar, tAug, tTest, tChain, tFld, sFld, tNil, tCons, tTup, tLst, tCall, tMeth, tCB, tBM, tNoPart, tPart, tSl, tOp, tUn, rI, rI0, rU, iList, iTup, iRng1, iRng2, iStr, iEnum, iZip, iItems, iVals, tDGet, tDIn, tDNotIn, sDPut, tDGet2, tDNewK, tDNewT, tYes, fin, List.cons_append, List.nil_append, bx, cxOf, Cx.nox]
  refine ⟨_, rfl, _, rfl, Nat.le_of_ble_eq_true rfl, fun l0 hl0 => ⟨_, rfl, ⟨_, sqt upd_same⟩, ?_⟩⟩
  have e0 : Ex H (upd H l0 (.tup [.int a, .int b])) := Evl.Ex.new hl0
  have cut : ∀ (i : Nat) (y : V), i < 2 → [V.int a, V.int b][i]? = some y → y = .int (if i = 0 then a else b) := fun i y hi hy => by
    match i, hi, hy with
    | 0, _, hy => cases hy; rfl
    | 1, _, hy => cases hy; rfl
  refine lc_pick (walk_tup (xs := [V.int a, V.int b])) (fun _ => true) (fun i _ y => y = .int (stOf W (spotOf t (if i = 0 then a else b)))) (Nat.le_of_ble_eq_true rfl) (fun H e => sqt (e _ _ upd_same)) (fun _ _ _ _ _ r => r) gm_name (fun i y Ha Hb hi e2 Y => ?_) fun L Ha ys hL e2 hys pk => ?_
  · obtain ⟨rfl, hy⟩ := Y
    have hi : i < 2 := hi
    have hc := cut i y hi hy
    have c1 : 0 ≤ (if i = 0 then a else b) ∧ (if i = 0 then a else b) ≤ t.len := by split <;> omega
    generalize (if i = 0 then a else b) = c at hc c1
    subst hc
    have e02 := e0.trans e2
    refine ⟨rfl, fun Qy Qn k _ => ?_⟩
    dsimp only [tCKw, tM1, tVals, tVar, tC, tB, tAnd, tOr, tNot, tAndV, tOrV, tNotV, tIf, tNext, tSeq, tBreak, tCont, tDrop, tRet, tRetN, tIfS, tNever, gName, gNil, gCons, gTup, gSub, tAsg, tPar, tAug, tTest, tChain, tFld, sFld, tNil, tCons, tTup, tLst, tCall, tMeth, tCB, tBM, tNoPart, tPart, tSl, tOp, tUn, rI, rI0, rU, iList, iTup, iRng1, iRng2, iStr, iEnum, iZip, iItems, iVals, tDGet, tDIn, tDNotIn, sDPut, tDGet2, tDNewK, tDNewT, tYes, fin, List.cons_append, List.nil_append, bx, cxOf, Cx.nox]
    refine ⟨_, rfl, p, _, _, rfl, e02 _ _ h1, rfl, _, rfl, _, rfl, _, rfl, p, r, W, t, c, rfl, hw.mono e02, ok, ht, c1.1, c1.2, fun y H3 e3 hy => ?_⟩
    exact ⟨p, r, W, y, spotOf t c, rfl, hw.mono (e02.trans e3), ok, hy, spotOf_in ok ht c1.1 c1.2, fun H4 e4 => k rfl _ _ (e3.trans e4) rfl⟩
  · have hys2 : ys = [.int (stOf W (spotOf t a)), .int (stOf W (spotOf t b))] := pk.eq
    subst hys2
    have t1 := stOf_tri ok (spotOf t a)
    have t2 := stOf_tri ok (spotOf t b)
    have e02 := e0.trans e2
    refine ⟨L, _, rfl, sql hys, rfl, _, _, rfl, _, _, rfl, rfl, ?_⟩
    refine ⟨_, rfl, _, rfl, _, _, rfl, rfl, rfl, _, rfl, ?_⟩
    by_cases c : b - a = 1
    · rw [decide_eq_true (show V.int (b - a) = V.int 1 by rw [c])]
      refine ⟨_, rfl, p, _, _, rfl, e02 _ _ h1, rfl, p, r, W, rfl, hw.mono e02, fun H3 e3 => ⟨_, rfl, _, rfl, _, _, _, rfl, t1.1, t1.2, t2.1, t2.2, fun H4 e4 => ?_⟩⟩
      have q := hQ _ ((e02.trans e3).trans e4)
      unfold gapT turn at q
      rw [if_pos (by omega)] at q
      exact q
    · rw [decide_eq_false (show ¬ V.int (b - a) = V.int 1 by intro z; injection z; omega)]
      refine ⟨_, rfl, p, _, _, rfl, e02 _ _ h1, rfl, p, r, W, rfl, hw.mono e02, fun H3 e3 => ⟨_, rfl, _, _, _, rfl, t1.1, t1.2, by decide, by decide, fun H4 e4 => ?_⟩⟩
      have e5 := (e02.trans e3).trans e4
      refine ⟨_, rfl, p, _, _, rfl, e5 _ _ h1, rfl, p, r, W, rfl, hw.mono e5, fun H6 e6 => ⟨_, rfl, _, _, _, rfl, by decide, by decide, t2.1, t2.2, fun H7 e7 => ?_⟩⟩
      have q := hQ _ ((e5.trans e6).trans e7)
      unfold gapT turn at q
      rw [if_neg (by omega)] at q
      exact ⟨_, _, rfl, rfl, q⟩
theorem o_places_of_knots (T : Tx K mg) : FO P w K mg base 4 (He.ga K "places_of_knots") ["web", "tie"] (sp_places_of_knots K) := def_ok T.f_places_of_knots sc_places_of_knots (fun _ _ _ _ _ _ us hl => match us, hl with | [_, _], _ => rfl)
    (fun _ _ _ _ h => by obtain ⟨_, _, _, _, rfl, _⟩ := h; rfl) fun cdv A outer s H vs Q E hr h => by
  have hu := hu_of hr
  obtain ⟨p, r, W, t, rfl, hw, ok, ht, hQ⟩ := h
  obtain ⟨dx, ds, dt, tas, h1, h2, h3, h4⟩ := hw.ex
  have hhs : t.hs.length ≤ 12 := by
    have := ok.ts.hh
    have := sum_one (fun t : Tie => t.hs.length) ht
    omega
  refine ⟨_, (pss_one (ps_ret (pe_op op_cat (pe_op op_cat (pe_lst (pa_cons pe_int pa_nil)) (pe_lc (own := [("place", 2), ("state", 3)]) rfl sc_places_of_knots.nd (pi_tup (c_m (pv 0) T.c_Web T.m_Web_hearers (o_Web_hearers T) (hr.mono (by decide)) (pa_cons (pv 1) pa_nil))) (blkOk_by (by rfl)) (fun _ _ _ _ _ => (pg_tupK (K := K) 2 rfl rfl (pgs_cons (pg_name (i := 2) sc_places_of_knots.nd rfl (.inl rfl)) (pgs_cons (pg_name (i := 3) sc_places_of_knots.nd rfl (.inl rfl)) pgs_nil)))) (fun _ _ _ _ _ => pts_nil) (fun _ _ _ _ _ => (pv 2)))) (pe_lst (pa_cons (c_m (pv 0) T.c_Web T.m_Web_length (o_Web_length T) (hr.mono (by decide)) (pa_cons (pv 1) pa_nil)) pa_nil))))), ?_⟩
  dsimp only [tCKw, tM1, tVals, tVar, tC, tB, tAnd, tOr, tNot, tAndV, tOrV, tNotV, tIf, tNext, tSeq, tBreak, tCont, tDrop, tRet, tRetN, tIfS, tNever, gName, gNil, gCons, gTup, gSub, tAsg, tPar, tAug, tTest, tChain, tFld, sFld, tNil, tCons, tTup, tLst, tCall, tMeth, tCB, tBM, tNoPart, tPart, tSl, tOp, tUn, rI, rI0, rU, iList, iTup, iRng1, iRng2, iStr, iEnum, iZip, iItems, iVals, tDGet, tDIn, tDNotIn, sDPut, tDGet2, tDNewK, tDNewT, tYes, fin, List.cons_append, List.nil_append, bx, cxOf, Cx.nox]
  refine ⟨Nat.le_of_ble_eq_true rfl, fun l0 hl0 => ?_⟩
  have e0 : Ex H (upd H l0 (.lst [.int 0])) := Evl.Ex.new hl0
  refine ⟨_, rfl, p, _, _, rfl, e0 _ _ h1, rfl, _, rfl, p, r, W, t, rfl, hw.mono e0, ok, ht, fun v H2 e2 ⟨a, zs, ev, hz, hp⟩ => ⟨a, ev, ⟨_, hz.sq⟩, ?_⟩⟩
  have hlz := pr_len hp
  refine lc_pick (walk_tup (xs := zs.map V.ref)) (fun _ => true) (fun i _ y => ∃ q, t.hs[i]? = some q ∧ y = .int q.1) (by rw [List.length_map, hlz]; omega) (fun H e => (hz.mono e).sq) (fun _ _ _ _ _ r => r) gm_tup2 (fun i y Ha Hb hi e3 Y => ?_) fun L Ha ys hL e3 hys pk => ?_
  · obtain ⟨rfl, hy⟩ := Y
    rw [List.length_map] at hi
    rw [List.getElem?_map, List.getElem?_eq_getElem hi] at hy
    have hy : some (V.ref zs[i]) = some y := hy
    cases hy
    obtain ⟨q, hq, hq1⟩ := pr_at hp (List.getElem?_eq_getElem hi)
    dsimp only [tCKw, tM1, tVals, tVar, tC, tB, tAnd, tOr, tNot, tAndV, tOrV, tNotV, tIf, tNext, tSeq, tBreak, tCont, tDrop, tRet, tRetN, tIfS, tNever, gName, gNil, gCons, gTup, gSub, tAsg, tPar, tAug, tTest, tChain, tFld, sFld, tNil, tCons, tTup, tLst, tCall, tMeth, tCB, tBM, tNoPart, tPart, tSl, tOp, tUn, rI, rI0, rU, iList, iTup, iRng1, iRng2, iStr, iEnum, iZip, iItems, iVals, tDGet, tDIn, tDNotIn, sDPut, tDGet2, tDNewK, tDNewT, tYes, fin, List.cons_append, List.nil_append, bx, cxOf, Cx.nox]
    exact ⟨_, _, rfl, sqt (e3 _ _ hq1), rfl, _, _, rfl, _, _, rfl, rfl, rfl, fun Qy Qn k _ => ⟨_, rfl, k rfl _ _ (Evl.Ex.refl _) ⟨q, hq, rfl⟩⟩⟩
  · have pk2 := pk.all
    rw [List.length_map, hlz] at pk2
    have e5 : ys = (t.hs.map (·.1)).map V.int := by
      rw [paired_eq (f := fun q : Int × Int => V.int q.1) (pr_range (S := fun (q : Int × Int) (y : V) => y = V.int q.1) pk2 fun i t y h1 ⟨t', h2, h3⟩ => by
        rw [h1] at h2
        cases h2
        exact h3), List.map_map]
      rfl
    subst e5
    have hl03 := (e2.trans e3) _ _ (upd_same (H := H) (a := l0) (o := .lst [.int 0]))
    refine ⟨l0, L, _, _, rfl, rfl, hl03, hys, Evl.sz_of (by simp only [List.length_map, List.length_cons, List.length_nil]; omega), fun m hm => ?_⟩
    have e6 := ((e0.trans e2).trans e3).trans (Evl.Ex.new (o := .lst ([V.int 0] ++ (t.hs.map (·.1)).map V.int)) hm)
    refine ⟨_, rfl, p, _, _, rfl, e6 _ _ h1, rfl, _, rfl, p, r, W, t, rfl, hw.mono e6, ok, ht, fun H5 e7 => ⟨Nat.le_of_ble_eq_true rfl, fun n hn => ?_⟩⟩
    have e8 : Ex H5 (upd H5 n (.lst [.int t.len])) := Evl.Ex.new hn
    refine ⟨m, n, _, _, rfl, rfl, e8 _ _ (e7 _ _ upd_same), upd_same, Evl.sz_of (by simp only [List.length_append, List.length_map, List.length_cons, List.length_nil]; omega), fun u hu => hQ u _ ?_ (((e6.trans e7).trans e8).trans (Evl.Ex.new hu)) ?_⟩
    · exact Evl.fresh_back ((e6.trans e7).trans e8) hu
    · rw [upd_same]
      simp [plc]
theorem o_turn_along (T : Tx K mg) : FO P w K mg base 7 (He.ga K "turn_along") ["web", "tie", "start", "goal"] (sp_turn_along K) := def_ok T.f_turn_along sc_turn_along (fun _ _ _ _ _ _ us hl => match us, hl with | [_, _, _, _], _ => rfl)
    (fun _ _ _ _ h => by obtain ⟨_, _, _, _, _, _, rfl, _⟩ := h; rfl) fun cdv A outer s H vs Q E hr h => by
  have hu := hu_of hr
  obtain ⟨p, r, W, t, a, b, rfl, hw, ok, ht, ha, hab, hb, hno, hQ⟩ := h
  obtain ⟨dx, ds, dt, tas, h1, h2, h3, h4⟩ := hw.ex
  have hhs : t.hs.length ≤ 12 := by
    have := ok.ts.hh
    have := sum_one (fun t : Tie => t.hs.length) ht
    omega
  refine ⟨_, (pss_cons (ps_expr (c_fn (o_want_place T) T.g_want_place (hr.mono (by decide)) (pa_cons (pv 0) (pa_cons (pv 1) (pa_cons (pv 2) pa_nil)))))
      (pss_cons (ps_expr (c_fn (o_want_place T) T.g_want_place (hr.mono (by decide)) (pa_cons (pv 0) (pa_cons (pv 1) (pa_cons (pv 3) pa_nil)))))
      (pss_cons (ps_if (pt_cmpR op_eq (pv 2) (pv 3) (nomark _)) (pss_one (ps_ret pe_int)) pss_nil)
      (pss_cons (ps_asg (pe_tup (pa_cons (pe_callB (call_min2 rfl) (by rfl) T.z_min (by decide +kernel) (pa_cons (pv 2) (pa_cons (pv 3) pa_nil))) (pa_cons (pe_callB (call_max2 rfl) (by rfl) T.z_max (by decide +kernel) (pa_cons (pv 2) (pa_cons (pv 3) pa_nil))) pa_nil))) (pg_tup rfl (pgs_cons (pg_name (i := 4) sc_turn_along.nd rfl (.inr rfl)) (pgs_cons (pg_name (i := 5) sc_turn_along.nd rfl (.inr rfl)) pgs_nil))))
      (pss_cons (ps_set (i := 6) sc_turn_along.nd rfl (.inl rfl) (pe_op op_cat (pe_op op_cat (pe_lst (pa_cons (pv 4) pa_nil)) (pe_lc (own := [("place", 8), ("state", 9)]) rfl sc_turn_along.nd (pi_tup (c_m (pv 0) T.c_Web T.m_Web_hearers (o_Web_hearers T) (hr.mono (by decide)) (pa_cons (pv 1) pa_nil))) (blkOk_by (by rfl)) (fun _ _ _ _ _ => (pg_tupK (K := K) 2 rfl rfl (pgs_cons (pg_name (i := 8) sc_turn_along.nd rfl (.inl rfl)) (pgs_cons (pg_name (i := 9) sc_turn_along.nd rfl (.inl rfl)) pgs_nil)))) (fun _ _ _ _ _ => (pts_one (pt_chain op_lt op_lt (pv 4) (pv 8) (pv 5)))) (fun _ _ _ _ _ => (pv 8)))) (pe_lst (pa_cons (pv 5) pa_nil))))
      (pss_cons (ps_set (i := 7) sc_turn_along.nd rfl (.inl rfl) (pe_callB (cr_sum rfl) (by rfl) T.z_sum (by decide +kernel) (pa_cons (pe_lc (own := [("one", 10), ("other", 11)]) rfl sc_turn_along.nd (pi_zip (by rfl) T.z_zip (pa_cons (pv 6) (pa_cons (pe_slice sl_list (pv 6) (po_some pe_int) po_none) pa_nil))) (blkOk_by (by rfl)) (fun _ _ _ _ _ => (pg_tupK (K := K) 2 rfl rfl (pgs_cons (pg_name (i := 10) sc_turn_along.nd rfl (.inl rfl)) (pgs_cons (pg_name (i := 11) sc_turn_along.nd rfl (.inl rfl)) pgs_nil)))) (fun _ _ _ _ _ => pts_nil) (fun _ _ _ _ _ => (c_fn (o_gap_turn T) T.g_gap_turn (hr.mono (by decide)) (pa_cons (pv 0) (pa_cons (pv 1) (pa_cons (pv 10) (pa_cons (pv 11) pa_nil))))))) pa_nil)))
      (pss_one (ps_ret (pe_ifExp (pt_cmpR op_eq (pv 2) (pv 4) (nomark _)) (pv 7) (pe_un un_neg (pv 7))))))))))), ?_⟩
  dsimp only [tCKw, tM1, tVals, tVar, tC, tB, tAnd, tOr, tNot, tAndV, tOrV, tNotV, tIf, tNext, tSeq, tBreak, tCont, tDrop, tRet, tRetN, tIfS, tNever, gName, gNil, gCons, gTup, gSub, tAsg, tPar, tAug, tTest, tChain, tFld, sFld, tNil, tCons, tTup, tLst, tCall, tMeth, tCB, tBM, tNoPart, tPart, tSl, tOp, tUn, rI, rI0, rU, iList, iTup, iRng1, iRng2, iStr, iEnum, iZip, iItems, iVals, tDGet, tDIn, tDNotIn, sDPut, tDGet2, tDNewK, tDNewT, tYes, fin, List.cons_append, List.nil_append, bx, cxOf, Cx.nox]
  refine ⟨_, rfl, _, rfl, _, rfl, p, r, W, t, a, rfl, hw, ok, ht, ha, by omega, fun H1 e1 => ?_⟩
  refine ⟨_, rfl, _, rfl, _, rfl, p, r, W, t, b, rfl, hw.mono e1, ok, ht, by omega, hb, fun H2 e2 => ?_⟩
  refine ⟨_, rfl, _, rfl, rfl, _, rfl, ?_⟩
  rw [decide_eq_false (show ¬ V.int a = V.int b by intro z; injection z; omega)]
  refine ⟨_, rfl, _, rfl, _, _, rfl, _, rfl, _, rfl, _, _, rfl, Nat.le_of_ble_eq_true rfl, fun l0 hl0 => ?_⟩
  rw [if_neg (show ¬ b < a by omega), if_pos (show b > a by omega)] at *
  have e02 : Ex H (upd H2 l0 (.tup [.int a, .int b])) := (e1.trans e2).trans (Evl.Ex.new hl0)
  refine ⟨_, _, rfl, sqt upd_same, rfl, _, _, rfl, _, _, rfl, rfl, _, rfl, Nat.le_of_ble_eq_true rfl, fun l1 hl1 => ?_⟩
  have e3 := e02.trans (Evl.Ex.new (o := .lst [.int a]) hl1)
  refine ⟨_, rfl, p, _, _, rfl, e3 _ _ h1, rfl, _, rfl, p, r, W, t, rfl, hw.mono e3, ok, ht, fun v H3 e4 ⟨z0, zs, ev, hz, hp⟩ => ⟨z0, ev, ⟨_, hz.sq⟩, ?_⟩⟩
  have hlz := pr_len hp
  refine lc_pick (walk_tup (xs := zs.map V.ref)) (fun _ => false) (fun i _ y => y = .int 0) (by rw [List.length_map, hlz]; omega) (fun H e => (hz.mono e).sq) (fun _ _ _ _ _ r => r) gm_tup2 (fun i y Ha Hb hi e5 Y => ?_) fun L Ha ys hL e5 hys pk => ?_
  · obtain ⟨rfl, hy⟩ := Y
    rw [List.length_map] at hi
    rw [List.getElem?_map, List.getElem?_eq_getElem hi] at hy
    have hy : some (V.ref zs[i]) = some y := hy
    cases hy
    obtain ⟨q, hq, hq1⟩ := pr_at hp (List.getElem?_eq_getElem hi)
    have hn := hno q (List.mem_of_getElem? hq)
    dsimp only [tCKw, tM1, tVals, tVar, tC, tB, tAnd, tOr, tNot, tAndV, tOrV, tNotV, tIf, tNext, tSeq, tBreak, tCont, tDrop, tRet, tRetN, tIfS, tNever, gName, gNil, gCons, gTup, gSub, tAsg, tPar, tAug, tTest, tChain, tFld, sFld, tNil, tCons, tTup, tLst, tCall, tMeth, tCB, tBM, tNoPart, tPart, tSl, tOp, tUn, rI, rI0, rU, iList, iTup, iRng1, iRng2, iStr, iEnum, iZip, iItems, iVals, tDGet, tDIn, tDNotIn, sDPut, tDGet2, tDNewK, tDNewT, tYes, fin, List.cons_append, List.nil_append, bx, cxOf, Cx.nox]
    refine ⟨_, _, rfl, sqt (e5 _ _ hq1), rfl, _, _, rfl, _, _, rfl, rfl, rfl, fun Qy Qn _ k => ⟨_, rfl, _, rfl, _, _, rfl, rfl, _, rfl, ?_⟩⟩
    by_cases c : a < q.1
    · rw [decide_eq_true c]
      refine ⟨_, rfl, _, _, rfl, rfl, _, rfl, ?_⟩
      rw [decide_eq_false (fun z => hn ⟨c, z⟩)]
      exact k rfl _ (Evl.Ex.refl _)
    · rw [decide_eq_false c]
      exact ⟨_, rfl, k rfl _ (Evl.Ex.refl _)⟩
  · have hys0 : ys = [] := by
      rw [pk.eq]
      simp
    subst hys0
    have e45 := e4.trans e5
    have hl1' := e45 _ _ (upd_same (H := upd H2 l0 (.tup [.int a, .int b])) (a := l1) (o := .lst [.int a]))
    refine ⟨l1, L, _, _, rfl, rfl, hl1', hys, Nat.le_of_ble_eq_true rfl, fun m hm => ⟨_, rfl, Nat.le_of_ble_eq_true rfl, fun n hn => ?_⟩⟩
    have e6 : Ex Ha (upd Ha m (.lst ([.int a] ++ []))) := Evl.Ex.new hm
    have hnm : n ≠ m := fun z => by rw [z, upd_same] at hn; cases hn
    refine ⟨m, n, _, _, rfl, rfl, by rw [upd_ne hnm.symm, upd_same], upd_same, Nat.le_of_ble_eq_true rfl, fun u hu => ?_⟩
    have e7 : Ex Ha (upd (upd (upd Ha m (.lst ([.int a] ++ []))) n (.lst [.int b])) u (.lst ([.int a] ++ [] ++ [.int b]))) := (e6.trans (Evl.Ex.new hn)).trans (Evl.Ex.new hu)
    refine ⟨_, rfl, _, rfl, _, rfl, _, _, rfl, sql upd_same, fun q hq => ?_⟩
    have e8 := e7.trans (Evl.Ex.new (o := .lst (cutV [.int a, .int b] (some 1) none)) hq)
    have huq : u ≠ q := fun z => by rw [← z, upd_same] at hq; cases hq
    refine ⟨u, q, [.int a, .int b], [.int b], rfl, sql (by rw [upd_ne huq, upd_same]; rfl), sql (by rw [upd_same]; rfl), ?_⟩
    refine lc_pick (walk_zip (xs := [.int a, .int b]) (ys := [.int b]) (n := 1) rfl) (fun _ => true) (fun i _ y => y = .int (gapT W t a b)) (Nat.le_of_ble_eq_true rfl) (fun H e => ⟨sql (e _ _ (by rw [upd_ne huq, upd_same]; rfl)), sql (e _ _ (by rw [upd_same]; rfl))⟩) (fun _ _ _ _ _ r => r) gm_tup2 (fun i y Hc Hd hi e9 Y => ?_) fun L2 Hc ys2 hL2 e9 hys2 pk2 => ?_
    · obtain ⟨T0, x1, x2, rfl, hT, rfl, hx1, hx2⟩ := Y
      have hi0 : i = 0 := by omega
      subst hi0
      cases hx1
      cases hx2
      have e10 := ((e3.trans e45).trans (e8.trans e9)).trans (Evl.Ex.new (o := .tup [.int a, .int b]) hT)
      dsimp only [tCKw, tM1, tVals, tVar, tC, tB, tAnd, tOr, tNot, tAndV, tOrV, tNotV, tIf, tNext, tSeq, tBreak, tCont, tDrop, tRet, tRetN, tIfS, tNever, gName, gNil, gCons, gTup, gSub, tAsg, tPar, tAug, tTest, tChain, tFld, sFld, tNil, tCons, tTup, tLst, tCall, tMeth, tCB, tBM, tNoPart, tPart, tSl, tOp, tUn, rI, rI0, rU, iList, iTup, iRng1, iRng2, iStr, iEnum, iZip, iItems, iVals, tDGet, tDIn, tDNotIn, sDPut, tDGet2, tDNewK, tDNewT, tYes, fin, List.cons_append, List.nil_append, bx, cxOf, Cx.nox]
      exact ⟨_, _, rfl, sqt upd_same, rfl, _, _, rfl, _, _, rfl, rfl, rfl, fun Qy Qn k _ => ⟨_, rfl, _, rfl, _, rfl, _, rfl, p, r, W, t, a, b, rfl, hw.mono e10, ok, ht, ha, hab, hb, fun H11 e11 => k rfl _ _ ((Evl.Ex.new hT).trans e11) rfl⟩⟩
    · have hys3 : ys2 = [.int (gapT W t a b)] := pk2.eq
      subst hys3
      refine ⟨L2, [gapT W t a b], rfl, sql hys2, ?_⟩
      have q := hQ _ ((e3.trans e45).trans (e8.trans e9))
      refine ⟨_, rfl, _, rfl, rfl, _, rfl, ?_⟩
      rw [decide_eq_true (show V.int a = V.int a from rfl)]
      refine ⟨_, rfl, ?_⟩
      rw [show [gapT W t a b].sum = gapT W t a b by simp]
      exact q
end
end K33


set_option Elab.async false
set_option linter.all false
set_option maxRecDepth 100000
set_option maxHeartbeats 4000000
/-! Dicts that keep the least number told for each key. -/
namespace K33
open PySem PySem.Spec PyProof.Rows L2 K33M
section
variable {κ : Type} [DecidableEq κ]
structure LD (C : κ → Int → Prop) (kvs : List (κ × V)) : Prop where
  nd : (kvs.map (·.1)).Nodup
  sound : ∀ k v, (k, v) ∈ kvs → ∃ L, v = .int L ∧ C k L
  least : ∀ k L, C k L → ∃ m, valV kvs k = some (.int m) ∧ m ≤ L
theorem LD.at {C : κ → Int → Prop} {kvs : List (κ × V)} (h : LD C kvs) {k : κ} {v : V} (e : valV kvs k = some v) : ∃ m, v = .int m ∧ C k m ∧ ∀ L, C k L → m ≤ L := by
  obtain ⟨m, rfl, hc⟩ := h.sound k v (valV_in e)
  refine ⟨m, rfl, hc, fun L hL => ?_⟩
  obtain ⟨m', e', hl⟩ := h.least k L hL
  rw [e] at e'
  cases e'
  exact hl
theorem LD.iff {C C' : κ → Int → Prop} {kvs : List (κ × V)} (h : LD C kvs) (e : ∀ k L, C k L ↔ C' k L) : LD C' kvs :=
  ⟨h.nd, fun k v m => let ⟨L, a, b⟩ := h.sound k v m; ⟨L, a, (e k L).mp b⟩, fun k L c => h.least k L ((e k L).mpr c)⟩
theorem LD.nil : LD (fun (_ : κ) _ => False) [] := ⟨List.nodup_nil, (fun _ _ m => nomatch m), (fun _ _ c => c.elim)⟩
theorem putK_keys (kvs : List (κ × V)) (k : κ) (v : V) : (putK kvs k v).map (·.1) = if (valV kvs k).isSome then kvs.map (·.1) else kvs.map (·.1) ++ [k] := by
  unfold putK
  rw [valV_any]
  split
  · rw [List.map_map]
    apply List.map_congr_left
    intro x hx
    simp only [Function.comp]
    split <;> rfl
  · rw [List.map_append]
    rfl
theorem nodup_putK {kvs : List (κ × V)} (k : κ) (v : V) (h : (kvs.map (·.1)).Nodup) : ((putK kvs k v).map (·.1)).Nodup := by
  rw [putK_keys]
  cases e : valV kvs k with
  | some w =>
    simp only [Option.isSome_some, if_true]
    exact h
  | none =>
    simp only [Option.isSome_none, Bool.false_eq_true, if_false]
    rw [List.nodup_append]
    refine ⟨h, by simp, fun a ha b hb => ?_⟩
    have hb : b = k := by simpa using hb
    subst hb
    exact fun z => valV_not e (z ▸ ha)
theorem mem_putK {kvs : List (κ × V)} {k : κ} {v : V} (h : (kvs.map (·.1)).Nodup) {j : κ} {w : V} (m : (j, w) ∈ putK kvs k v) : (j = k ∧ w = v) ∨ (j, w) ∈ kvs := by
  have e := valV_nd (nodup_putK k v h) m
  rw [valV_put] at e
  split at e
  · next q =>
    cases e
    exact .inl ⟨q, rfl⟩
  · exact .inr (valV_in e)
def lePut (kvs : List (κ × V)) (k : κ) (L : Int) : Bool := match valV kvs k with | some (.int m) => decide (m ≤ L) | _ => false
theorem lePut_yes {kvs : List (κ × V)} {k : κ} {L : Int} (h : lePut kvs k L = true) : ∃ m, valV kvs k = some (.int m) ∧ m ≤ L := by
  unfold lePut at h
  split at h
  · next m e => exact ⟨m, e, of_decide_eq_true h⟩
  · cases h
theorem LD.keep {C : κ → Int → Prop} {kvs : List (κ × V)} (h : LD C kvs) {k : κ} {L : Int} (e : lePut kvs k L = true) : ∀ k' L', (C k' L' ∨ (k' = k ∧ L' = L)) → ∃ m, valV kvs k' = some (.int m) ∧ m ≤ L' := by
  rintro k' L' (c | ⟨rfl, rfl⟩)
  · exact h.least k' L' c
  · exact lePut_yes e
/-- as put_least leaves it -/
def leastPut (kvs : List (κ × V)) (k : κ) (L : Int) : List (κ × V) := if lePut kvs k L = true then kvs else putK kvs k (.int L)
theorem LD.put {C : κ → Int → Prop} {kvs : List (κ × V)} (h : LD C kvs) (k : κ) (L : Int) (hC : C k L) (hD : ∀ k' L', C k' L' → (k' = k ∧ L ≤ L') ∨ ∃ m, valV kvs k' = some (.int m) ∧ m ≤ L') : LD C (leastPut kvs k L) := by
  unfold leastPut
  split
  · exact h
  · next c =>
    refine ⟨nodup_putK k _ h.nd, fun j w m => ?_, fun j L' c' => ?_⟩
    · rcases mem_putK h.nd m with ⟨rfl, rfl⟩ | m
      · exact ⟨L, rfl, hC⟩
      · exact h.sound j w m
    · rw [valV_put]
      split
      · next e =>
        refine ⟨L, rfl, ?_⟩
        obtain ⟨m, em, hm⟩ := h.least j L' c'
        subst e
        have : ¬ m ≤ L := fun z => c (by unfold lePut; rw [em]; exact decide_eq_true z)
        omega
      · exact h.least j L' c'
/-- entries told so far -/
structure LS (C : κ → Int → Prop) (D : κ → Int → Prop) (kvs : List (κ × V)) : Prop where
  nd : (kvs.map (·.1)).Nodup
  sound : ∀ k v, (k, v) ∈ kvs → ∃ L, v = .int L ∧ C k L
  least : ∀ k L, D k L → ∃ m, valV kvs k = some (.int m) ∧ m ≤ L
theorem LS.put {C D : κ → Int → Prop} {kvs : List (κ × V)} (h : LS C D kvs) (k : κ) (L : Int) (hC : C k L) : LS C (fun k' L' => D k' L' ∨ (k' = k ∧ L' = L)) (leastPut kvs k L) := by
  unfold leastPut
  split
  · next c =>
    refine ⟨h.nd, h.sound, ?_⟩
    rintro k' L' (d | ⟨rfl, rfl⟩)
    · exact h.least k' L' d
    · exact lePut_yes c
  · next c =>
    refine ⟨nodup_putK k _ h.nd, fun j w m => ?_, fun j L' d => ?_⟩
    · rcases mem_putK h.nd m with ⟨rfl, rfl⟩ | m
      · exact ⟨L, rfl, hC⟩
      · exact h.sound j w m
    · rw [valV_put]
      split
      · next e =>
        subst e
        rcases d with d | ⟨_, rfl⟩
        · obtain ⟨m, em, hm⟩ := h.least j L' d
          have : ¬ m ≤ L := fun z => c (by unfold lePut; rw [em]; exact decide_eq_true z)
          exact ⟨L, rfl, by omega⟩
        · exact ⟨L', rfl, Int.le_refl _⟩
      · next e =>
        rcases d with d | ⟨rfl, _⟩
        · exact h.least j L' d
        · exact absurd rfl e
theorem LS.ld {C D : κ → Int → Prop} {kvs : List (κ × V)} (h : LS C D kvs) (hd : ∀ k L, C k L → ∃ L', D k L' ∧ L' ≤ L) : LD C kvs :=
  ⟨h.nd, h.sound, fun k L c => let ⟨L', d, l⟩ := hd k L c; let ⟨m, e, hm⟩ := h.least k L' d; ⟨m, e, by omega⟩⟩
theorem LS.mono {C D D' : κ → Int → Prop} {kvs : List (κ × V)} (h : LS C D kvs) (hd : ∀ k L, D' k L → D k L) : LS C D' kvs := ⟨h.nd, h.sound, fun k L c => h.least k L (hd k L c)⟩
theorem leastPut_len (kvs : List (κ × V)) (k : κ) (L : Int) : (leastPut kvs k L).length ≤ kvs.length + 1 := by
  unfold leastPut
  split
  · omega
  · exact length_putK _ _ _
end
/-- rows of lengths to knots below N -/
theorem len_of_keys {kvs : List (Key × V)} {N : Nat} (nd : (kvs.map (·.1)).Nodup) (h : ∀ k v, (k, v) ∈ kvs → ∃ l : Nat, l < N ∧ k = .inl (l : Int)) : kvs.length ≤ N := by
  have f : Key → Nat := fun k => match k with | .inl i => i.toNat | .inr _ => 0
  have := pigeon N (kvs.map fun kv => match kv.1 with | .inl i => i.toNat | .inr _ => 0) ?_ ?_
  · rw [List.length_map] at this
    exact this
  · refine List.pairwise_map.mpr ?_
    refine (List.pairwise_map.mp nd).imp_of_mem ?_
    intro a b ha hb hne e
    obtain ⟨l, _, e1⟩ := h a.1 a.2 ha
    obtain ⟨l', _, e2⟩ := h b.1 b.2 hb
    rw [e1, e2] at e
    apply hne
    rw [e1, e2]
    congr 1
    have e : ((l : Int)).toNat = ((l' : Int)).toNat := e
    omega
  · intro x hx
    obtain ⟨kv, hkv, rfl⟩ := List.mem_map.mp hx
    obtain ⟨l, hl, e1⟩ := h kv.1 kv.2 hkv
    rw [e1]
    show ((l : Int)).toNat < N
    omega
end K33


set_option Elab.async false
set_option linter.all false
set_option maxRecDepth 100000
set_option maxHeartbeats 4000000
namespace K33
open PySem PySem.Spec PyProof.Rows L2 K33M
section
variable {X : Cx}
/-- locked here, or locked before -/
theorem ps_lockOr {st : Stmt} {t : TS} (h : PS X st t) : PS X st (fun D σ H => tLock t D σ H ∨ t D σ H) :=
  ⟨fun pins s σ H D I hw => hw.elim (fun q => (ps_lock h).run pins s σ H D I q) fun q => h.run pins s σ H D I q⟩
end
theorem tFor_items {te : TE} {g : TG} {tb : TS} {D : Ends} {σ : L2.St} {H : Hp} {d : Addr} {o : Obj} {kvs : List (Key × V)} (hte : ∀ R : VK, R (.ref d) H → te σ H R) (hd : H d = some (.frz o (.dK kvs))) (Pv : Nat → L2.St → Hp → Prop) (h0 : Pv 0 σ H)
    (hG : ∀ i σ H, i ≤ kvs.length → Pv i σ H → H d = some (.frz o (.dK kvs)))
    (hs : ∀ i x σ H H', i < kvs.length → Pv i σ H → YPair (fun i => kvs[i]?.map fun kv => kV kv.1) (fun i => kvs[i]?.map Prod.snd) i H x H' → g x σ H' fun σ2 H2 => tb { D with nx := Pv (i + 1), ct := Pv (i + 1), bk := D.nx } σ2 H2) (hn : ∀ σ H, Pv kvs.length σ H → D.nx σ H) :
    tFor (iItems te) g tb D σ H := hte _ ⟨d, o, kvs, rfl, hd, for_it walk_items Pv h0 hG hs hn⟩
/-! ### Knots -/
def sp_put_least : Sp := fun vs H Q _ => ∃ (d : Addr) (y : V) (L : Int), vs = [.ref d, y, .int L] ∧
  ((∃ (kvs : List (Key × V)) (k : Key), y = kV k ∧ H d = some (.dK kvs) ∧ (∀ v, valV kvs k = some v → ∃ m, v = .int m) ∧ kvs.length < 100000 ∧ Q (.bl (!lePut kvs k L)) (upd H d (.dK (leastPut kvs k L)))) ∨
   ∃ (kvs : List (List Key × V)) (k : List Key) (b : Addr), y = .ref b ∧ H b = some (.tup (k.map kV)) ∧ H d = some (.dT kvs) ∧ (∀ v, valV kvs k = some v → ∃ m, v = .int m) ∧ kvs.length < 100000 ∧ Q (.bl (!lePut kvs k L)) (upd H d (.dT (leastPut kvs k L))))
theorem upd_id {H : Hp} {a : Addr} {o : HO} (h : H a = some o) : upd H a o = H := by
  funext x
  by_cases e : x = a
  · rw [e, upd_same, h]
  · rw [upd_ne e]
def LeastOf {κ : Type} (C : κ → Int → Prop) (v : V) : Prop := (v = .non ∧ ∀ k L, ¬ C k L) ∨ ∃ m k, v = .int m ∧ C k m ∧ ∀ k' L', C k' L' → m ≤ L'
theorem ints_of : ∀ {l : List V}, (∀ v ∈ l, ∃ i, v = .int i) → ∃ ns : List Int, l = ns.map V.int
  | [], _ => ⟨[], rfl⟩
  | v :: l, h => by
    obtain ⟨i, rfl⟩ := h v List.mem_cons_self
    obtain ⟨ns, e⟩ := ints_of (l := l) fun v hv => h v (List.mem_cons_of_mem _ hv)
    exact ⟨i :: ns, by rw [e]; rfl⟩
def sp_least_of : Sp := fun vs H Q _ => ∃ (d : Addr) (kvs : List (Key × V)) (C : Key → Int → Prop), vs = [.ref d] ∧ H d = some (.dK kvs) ∧ LD C kvs ∧ ∀ v H', Ex H H' → LeastOf C v → Q v H'
def sp_Knots_does_fit : Sp := fun vs H Q _ => ∃ (p d : Addr) (n : Int) (kvs : List (Key × V)) (C : Key → Int → Prop), vs = [.ref p, .ref d, .int n] ∧ H d = some (.dK kvs) ∧ LD C kvs ∧ ∀ b H', Ex H H' → (b = true ↔ ∃ k L, C k L ∧ L ≤ n) → Q (.bl b) H'
/-- from a row and rows: one leg behind another -/
def Leg (C : Key → Int → Prop) (D : Nat → Key → Int → Prop) : Key → Int → Prop := fun k L => ∃ (m : Nat) (L1 L2 : Int), C (.inl (m : Int)) L1 ∧ D m k L2 ∧ L = L1 + L2
def Knot (N : Nat) (C : Key → Int → Prop) : Prop := ∀ k L, C k L → ∃ l : Nat, l < N ∧ k = .inl (l : Int)
/-- rows as they stand -/
def RowsAt (H : Hp) (as : List Addr) (D : Nat → Key → Int → Prop) : Prop := ∀ (i : Nat) (a : Addr), as[i]? = some a → ∃ kvs, H a = some (.dK kvs) ∧ LD (D i) kvs
theorem RowsAt.mono {H H' : Hp} (e : Ex H H') {as : List Addr} {D : Nat → Key → Int → Prop} (h : RowsAt H as D) : RowsAt H' as D := fun i a ha => let ⟨kvs, h1, h2⟩ := h i a ha; ⟨kvs, e _ _ h1, h2⟩
def sp_led_on : Sp := fun vs H Q _ => ∃ (d rs : Addr) (kvs : List (Key × V)) (as : List Addr) (C : Key → Int → Prop) (D : Nat → Key → Int → Prop) (N : Nat), vs = [.ref d, .ref rs] ∧ H d = some (.dK kvs) ∧ LD C kvs ∧ Knot N C ∧ N ≤ 1000 ∧
  H rs = some (.lst (as.map V.ref)) ∧ as.length = N ∧ RowsAt H as D ∧ (∀ i, Knot N (D i)) ∧ ∀ f kvs' H', H f = none → Ex H H' → H' f = some (.dK kvs') → LD (Leg C D) kvs' → Q (.ref f) H'
section
variable {P : Program} {w : World} {K : PySem.W.Frag} {mg : Str → Option Value} {base : Heap}
theorem o_put_least (T : Tx K mg) : FO P w K mg base 1 (He.ga K "put_least") ["lengths", "key", "length"] sp_put_least := def_ok T.f_put_least sc_put_least (fun _ _ _ _ _ _ us hl => match us, hl with | [_, _, _], _ => rfl)
    (fun _ _ _ _ h => by obtain ⟨_, _, _, rfl, _⟩ := h; rfl) fun cdv A outer s H vs Q E hr h => by
  have hu := hu_of hr
  obtain ⟨d, y, L, rfl, h⟩ := h
  refine ⟨_, (pss_cons (ps_if (PW.pt (pw_and (pt_cmp (pc_din hu (pv 1) (pv 0))) (pw_and1 (pt_cmpR op_le (pe_dget hu (pv 0) (pv 1) (fun _ _ => rfl)) (pv 2) (nomark _))))) (pss_one (ps_ret pe_bl)) pss_nil)
      (pss_cons (ps_dput hu (pv 0) (pv 1) (pv 2) rfl)
      (pss_one (ps_ret pe_bl)))), ?_⟩
  dsimp only [tCKw, tM1, tVals, tVar, tC, tB, tAnd, tOr, tNot, tAndV, tOrV, tNotV, tIf, tNext, tSeq, tBreak, tCont, tDrop, tRet, tRetN, tIfS, tNever, gName, gNil, gCons, gTup, gSub, tAsg, tPar, tAug, tTest, tChain, tFld, sFld, tNil, tCons, tTup, tLst, tCall, tMeth, tCB, tBM, tNoPart, tPart, tSl, tOp, tUn, rI, rI0, rU, iList, iTup, iRng1, iRng2, iStr, iEnum, iZip, iItems, iVals, tDGet, tDIn, tDNotIn, sDPut, tDGet2, tDNewK, tDNewT, tYes, fin, List.cons_append, List.nil_append, bx, cxOf, Cx.nox]
  rcases h with ⟨kvs, k, rfl, hd, hi, hl, hQ⟩ | ⟨kvs, k, b, rfl, hb, hd, hi, hl, hQ⟩
  · refine ⟨_, rfl, _, rfl, d, _, rfl, DGet.k hd, _, rfl, ?_⟩
    unfold lePut leastPut at hQ
    cases e : valV kvs k with
    | none =>
      unfold lePut at hQ
      rw [e] at hQ
      exact ⟨_, rfl, _, rfl, _, rfl, d, _, rfl, DPut.k hd (Evl.sz_lt hl), hQ⟩
    | some v =>
      obtain ⟨m, rfl⟩ := hi v e
      unfold lePut at hQ
      rw [e] at hQ
      refine ⟨_, rfl, _, rfl, d, _, rfl, .inl ⟨_, k, .inl hd, rfl, e.symm⟩, _, rfl, _, _, rfl, rfl, ⟨_, rfl, ?_⟩⟩
      by_cases c : m ≤ L
      · simp only [c, decide_true, Bool.not_true, if_true] at hQ ⊢
        rw [upd_id hd] at hQ
        exact hQ
      · simp only [c, decide_false, Bool.not_false, Bool.false_eq_true, if_false] at hQ ⊢
        exact ⟨_, rfl, _, rfl, _, rfl, d, _, rfl, DPut.k hd (Evl.sz_lt hl), hQ⟩
  · refine ⟨_, rfl, _, rfl, d, _, rfl, DGet.t hd hb, _, rfl, ?_⟩
    unfold lePut leastPut at hQ
    cases e : valV kvs k with
    | none =>
      unfold lePut at hQ
      rw [e] at hQ
      exact ⟨_, rfl, _, rfl, _, rfl, d, _, rfl, DPut.t hd hb (Evl.sz_lt hl), hQ⟩
    | some v =>
      obtain ⟨m, rfl⟩ := hi v e
      unfold lePut at hQ
      rw [e] at hQ
      refine ⟨_, rfl, _, rfl, d, _, rfl, .inr ⟨_, k, b, .inl hd, rfl, hb, e.symm⟩, _, rfl, _, _, rfl, rfl, ⟨_, rfl, ?_⟩⟩
      by_cases c : m ≤ L
      · simp only [c, decide_true, Bool.not_true, if_true] at hQ ⊢
        rw [upd_id hd] at hQ
        exact hQ
      · simp only [c, decide_false, Bool.not_false, Bool.false_eq_true, if_false] at hQ ⊢
        exact ⟨_, rfl, _, rfl, _, rfl, d, _, rfl, DPut.t hd hb (Evl.sz_lt hl), hQ⟩
theorem o_least_of (T : Tx K mg) : FO P w K mg base 1 (He.ga K "least_of") ["row"] sp_least_of := def_ok T.f_least_of sc_least_of (fun _ _ _ _ _ _ us hl => match us, hl with | [_], _ => rfl)
    (fun _ _ _ _ h => by obtain ⟨_, _, _, rfl, _⟩ := h; rfl) fun cdv A outer s H vs Q E hr h => by
  have hu := hu_of hr
  obtain ⟨d, kvs, C, rfl, hd, ld, hQ⟩ := h
  refine ⟨_, (pss_one (ps_ret (pe_callBK (cr_minD rfl) (by rfl) T.z_min (by decide +kernel) (pa_cons (pe_vals (pv 0)) pa_nil) (pk_cons pe_non pk_nil)))), ?_⟩
  dsimp only [tCKw, tM1, tVals, tVar, tC, tB, tAnd, tOr, tNot, tAndV, tOrV, tNotV, tIf, tNext, tSeq, tBreak, tCont, tDrop, tRet, tRetN, tIfS, tNever, gName, gNil, gCons, gTup, gSub, tAsg, tPar, tAug, tTest, tChain, tFld, sFld, tNil, tCons, tTup, tLst, tCall, tMeth, tCB, tBM, tNoPart, tPart, tSl, tOp, tUn, rI, rI0, rU, iList, iTup, iRng1, iRng2, iStr, iEnum, iZip, iItems, iVals, tDGet, tDIn, tDNotIn, sDPut, tDGet2, tDNewK, tDNewT, tYes, fin, List.cons_append, List.nil_append, bx, cxOf, Cx.nox]
  obtain ⟨ns, hns⟩ := ints_of (l := kvs.map (·.2)) fun v hv => by
    obtain ⟨kv, hkv, rfl⟩ := List.mem_map.mp hv
    obtain ⟨L, e, _⟩ := ld.sound kv.1 kv.2 hkv
    exact ⟨L, e⟩
  refine ⟨_, rfl, d, kvs, rfl, .inl hd, fun v hv => ?_⟩
  have e0 := Evl.Ex.new (o := .ext (viewH "dict_values" v d)) hv
  refine ⟨v, d, kvs, ns, rfl, rfl, upd_same, .inl (e0 _ _ hd), hns, fun hn => hQ _ _ e0 (.inl ⟨rfl, fun k L c => ?_⟩), fun m hm hl => hQ _ _ e0 (.inr ?_)⟩
  · obtain ⟨m, e, _⟩ := ld.least k L c
    subst hn
    have := List.mem_map_of_mem (f := (·.2)) (valV_in e)
    rw [hns] at this
    cases this
  · have hm2 := List.mem_map_of_mem (f := V.int) hm
    rw [← hns] at hm2
    obtain ⟨kv, hkv, e⟩ := List.mem_map.mp hm2
    obtain ⟨L, e2, hc⟩ := ld.sound kv.1 kv.2 hkv
    rw [e2] at e
    injection e with e
    subst e
    refine ⟨L, kv.1, rfl, hc, fun k' L' c => ?_⟩
    obtain ⟨m', e3, h3⟩ := ld.least k' L' c
    have h4 := List.mem_map_of_mem (f := (·.2)) (valV_in e3)
    rw [hns] at h4
    obtain ⟨x, hx, ex⟩ := List.mem_map.mp h4
    injection ex with ex
    subst ex
    have := hl x hx
    omega
theorem o_Knots_does_fit (T : Tx K mg) : FO P w K mg base 2 (He.ma K (He.ga K "Knots") "does_fit") ["self", "row", "beats"] sp_Knots_does_fit := def_ok T.f_Knots_does_fit sc_Knots_does_fit (fun _ _ _ _ _ _ us hl => match us, hl with | [_, _, _], _ => rfl)
    (fun _ _ _ _ h => by obtain ⟨_, _, _, _, _, rfl, _⟩ := h; rfl) fun cdv A outer s H vs Q E hr h => by
  have hu := hu_of hr
  obtain ⟨p, d, n, kvs, C, rfl, hd, ld, hQ⟩ := h
  refine ⟨_, (pss_cons (ps_set (i := 3) sc_Knots_does_fit.nd rfl (.inl rfl) (c_fn (o_least_of T) T.g_least_of (hr.mono (by decide)) (pa_cons (pv 1) pa_nil)))
      (pss_one (ps_ret (pe_and (pe_cmpR op_notN (pv 3) pe_non (nomark _)) (pe_one (pe_cmpR op_le (pv 3) (pv 2) (nomark _))))))), ?_⟩
  dsimp only [tCKw, tM1, tVals, tVar, tC, tB, tAnd, tOr, tNot, tAndV, tOrV, tNotV, tIf, tNext, tSeq, tBreak, tCont, tDrop, tRet, tRetN, tIfS, tNever, gName, gNil, gCons, gTup, gSub, tAsg, tPar, tAug, tTest, tChain, tFld, sFld, tNil, tCons, tTup, tLst, tCall, tMeth, tCB, tBM, tNoPart, tPart, tSl, tOp, tUn, rI, rI0, rU, iList, iTup, iRng1, iRng2, iStr, iEnum, iZip, iItems, iVals, tDGet, tDIn, tDNotIn, sDPut, tDGet2, tDNewK, tDNewT, tYes, fin, List.cons_append, List.nil_append, bx, cxOf, Cx.nox]
  refine ⟨_, rfl, d, kvs, C, rfl, hd, ld, fun v H1 e1 hv => ?_⟩
  rcases hv with ⟨rfl, hn⟩ | ⟨m, k, rfl, hc, hm⟩
  · exact ⟨_, rfl, rfl, _, rfl, hQ false _ e1 ⟨(fun z => nomatch z), (fun ⟨k, L, c, _⟩ => absurd c (hn k L))⟩⟩
  · refine ⟨_, rfl, rfl, _, rfl, _, rfl, _, rfl, _, _, rfl, rfl, hQ _ _ e1 ?_⟩
    rw [decide_eq_true_iff]
    exact ⟨fun h => ⟨k, m, hc, h⟩, fun ⟨k', L', c, h⟩ => Int.le_trans (hm k' L' c) h⟩
theorem o_led_on (T : Tx K mg) : FO P w K mg base 2 (He.ga K "led_on") ["row", "rows"] sp_led_on := def_ok T.f_led_on sc_led_on (fun _ _ _ _ _ _ us hl => match us, hl with | [_, _], _ => rfl)
    (fun _ _ _ _ h => by obtain ⟨_, _, _, _, _, _, _, rfl, _⟩ := h; rfl) fun cdv A outer s H vs Q E hr h => by
  have hu := hu_of hr
  obtain ⟨d, rs, kvs, as, C, D, N, rfl, hd, ld, kn, hN, hrs, hl, hrows, knD, hQ⟩ := h
  have knL : Knot N (Leg C D) := fun k L ⟨m, L1, L2, _, h2, _⟩ => knD m k L2 h2
  refine ⟨_, (pss_cons (ps_set (i := 2) sc_led_on.nd rfl (.inl rfl) pe_dnewK)
      (pss_cons (ps_lockOr (ps_for PassesOwn.never rfl (pi_items (pv 0)) (pg_tup rfl (pgs_cons (pg_name (i := 3) sc_led_on.nd rfl (.inl rfl)) (pgs_cons (pg_name (i := 4) sc_led_on.nd rfl (.inl rfl)) pgs_nil)))
        (pss_one (ps_lockOr (ps_for PassesOwn.never rfl (pi_items (pe_ix ix_list (pv 1) (pv 3) (fun _ _ => rfl))) (pg_tup rfl (pgs_cons (pg_name (i := 5) sc_led_on.nd rfl (.inl rfl)) (pgs_cons (pg_name (i := 6) sc_led_on.nd rfl (.inl rfl)) pgs_nil)))
          (pss_one (ps_expr (c_fn (o_put_least T) T.g_put_least (hr.mono (by decide)) (pa_cons (pv 2) (pa_cons (pv 5) (pa_cons (pe_op op_add (pv 4) (pv 6)) pa_nil)))))))))))
      (pss_one (ps_ret (pv 2))))), ?_⟩
  dsimp only [tCKw, tM1, tVals, tVar, tC, tB, tAnd, tOr, tNot, tAndV, tOrV, tNotV, tIf, tNext, tSeq, tBreak, tCont, tDrop, tRet, tRetN, tIfS, tNever, gName, gNil, gCons, gTup, gSub, tAsg, tPar, tAug, tTest, tChain, tFld, sFld, tNil, tCons, tTup, tLst, tCall, tMeth, tCB, tBM, tNoPart, tPart, tSl, tOp, tUn, rI, rI0, rU, iList, iTup, iRng1, iRng2, iStr, iEnum, iZip, iItems, iVals, tDGet, tDIn, tDNotIn, sDPut, tDGet2, tDNewK, tDNewT, tYes, fin, List.cons_append, List.nil_append, bx, cxOf, Cx.nox]
  intro D0 hD0
  have e0 : Ex H (upd H D0 (.dK [])) := Evl.Ex.new hD0
  have hdD : d ≠ D0 := fun z => by rw [z, hD0] at hd; cases hd
  refine .inl ⟨d, _, e0 _ _ hd, True.intro, fun od => ?_⟩
  have hV0 : Ex (hid d H) (hid D0 (upd (upd H D0 (.dK [])) d (.frz od (.dK kvs)))) := ex_hid ((hid_ex.trans e0).mut hid_same) (by
    cases e : hid d H D0 with
    | none => rfl
    | some o =>
      rw [hid_ex _ _ e] at hD0
      cases hD0)
  generalize hVw : hid D0 (upd (upd H D0 (.dK [])) d (.frz od (.dK kvs))) = Vw at hV0
  have hVD : Vw D0 = none := by rw [← hVw]; exact hid_same
  have hVd : Vw d = some (.frz od (.dK kvs)) := by rw [← hVw, hid_ne hdD, upd_same]
  have hrsd : rs ≠ d := fun z => by rw [z, hd] at hrs; cases hrs
  have hVrs : Vw rs = some (.lst (as.map V.ref)) := hV0 _ _ (by rw [hid_ne hrsd]; exact hrs)
  let Dn : Nat → Key → Int → Prop := fun i k L => ∃ (j m : Nat) (L1 L2 : Int), j < i ∧ kvs[j]? = some (.inl (m : Int), .int L1) ∧ D m k L2 ∧ L = L1 + L2
  refine tFor_items (d := d) (o := od) (kvs := kvs) (fun R r => ⟨_, rfl, r⟩) upd_same (fun i σ H' => Ex Vw H' ∧ ∃ x3 x4 x5 x6 f, σ = [some (.ref d), some (.ref rs), some (.ref D0), x3, x4, x5, x6] ∧ H' D0 = some (.dK f) ∧ LS (Leg C D) (Dn i) f) ?_ (fun i σ H' _ p => p.1 _ _ hVd) (fun i x σ H2 H' hi p y => ?_) fun σ H' p => ?_
  · refine ⟨by rw [← hVw]; exact hid_ex, _, _, _, _, [], rfl, by rw [upd_ne hdD.symm, upd_same], List.nodup_nil, (fun _ _ m => nomatch m), ?_⟩
    rintro k L ⟨j, m, L1, L2, hj, _⟩
    exact absurd hj (Nat.not_lt_zero _)
  · obtain ⟨e, x3, x4, x5, x6, f, rfl, hf, ls⟩ := p
    obtain ⟨T0, y1, y2, rfl, hT, rfl, hy1, hy2⟩ := y
    have hk : kvs[i]? = some kvs[i] := List.getElem?_eq_getElem hi
    generalize kvs[i] = kv at hk
    simp only [hk, Option.map_some, Option.some.injEq] at hy1 hy2
    obtain ⟨L1, hL1, hC⟩ := ld.sound kv.1 kv.2 (List.mem_of_getElem? hk)
    obtain ⟨m, hm, hkm⟩ := kn _ _ hC
    rw [hkm] at hy1
    rw [hL1] at hy2
    subst hy1 hy2
    have hk' : kvs[i]? = some (.inl (m : Int), .int L1) := by rw [hk]; exact congrArg some (Prod.ext hkm hL1)
    have ha : as[m]? = some as[m] := List.getElem?_eq_getElem (by omega)
    generalize as[m] = a at ha
    obtain ⟨kv2, hkv2, ld2⟩ := hrows m a ha
    have e1 : Ex H2 (upd H2 T0 (.tup [kV (.inl (m : Int)), .int L1])) := Evl.Ex.new hT
    have haD : a ≠ D0 := fun z => by rw [z, hD0] at hkv2; cases hkv2
    have hf1 := e1 _ _ hf
    have eV := e.trans e1
    generalize hHs : upd H2 T0 (.tup [kV (.inl (m : Int)), .int L1]) = Hs at e1 hf1 eV
    have htup : Hs T0 = some (.tup [kV (.inl (m : Int)), .int L1]) := by rw [← hHs]; exact upd_same
    let Dij : Nat → Key → Int → Prop := fun j k L => Dn i k L ∨ ∃ (j' : Nat) (x : Int), j' < j ∧ kv2[j']? = some (k, .int x) ∧ L = L1 + x
    have endD : ∀ f', LS (Leg C D) (Dij kv2.length) f' → LS (Leg C D) (Dn (i + 1)) f' := fun f' l => ⟨l.nd, l.sound, fun k L ⟨j, m', L1', L2, hj, hkj, hD, eL⟩ => by
      by_cases hji : j < i
      · exact l.least k L (.inl ⟨j, m', L1', L2, hji, hkj, hD, eL⟩)
      · have : j = i := by omega
        subst this
        rw [hk'] at hkj
        have hkj := Option.some.inj hkj
        have c1 : ((m : Nat) : Int) = (m' : Int) := Sum.inl.inj (congrArg Prod.fst hkj)
        have c2 : L1 = L1' := by have := congrArg Prod.snd hkj; injection this
        have c3 : m = m' := by omega
        subst c2 c3
        obtain ⟨x, hx, hxl⟩ := ld2.least k L2 hD
        obtain ⟨j', hj'⟩ := List.getElem?_of_mem (valV_in hx)
        obtain ⟨z, hz, hzl⟩ := l.least k (L1 + x) (.inr ⟨j', x, (List.getElem?_eq_some_iff.mp hj').1, hj', rfl⟩)
        exact ⟨z, hz, by omega⟩⟩
    -- the inner loop, its dict locked
    have inner : ∀ (Hi : Hp) (o : Obj) (E2 : Ends), Ex (hid a (hid D0 Vw)) Hi → Hi a = some (.frz o (.dK kv2)) → Hi D0 = some (.dK f) → Hi rs = some (.lst (as.map V.ref)) →
        (∀ σ' H' f', Ex (hid D0 Hi) H' → (∃ x5 x6, σ' = [some (.ref d), some (.ref rs), some (.ref D0), some (.int (m : Int)), some (.int L1), x5, x6]) → H' D0 = some (.dK f') → LS (Leg C D) (Dn (i + 1)) f' → E2.nx σ' H') →
        tFor (iItems (tOp (rIxL K) (tVar 1) (tVar 3))) (gTup K 2 (gCons (gName 5) (gCons (gName 6) gNil))) (tDrop (tCall sp_put_least [] E0 (tCons (tVar 2) (tCons (tVar 5) (tCons (tOp (rI0 fun i j => .int (i + j)) (tVar 4) (tVar 6)) tNil))))) E2 [some (.ref d), some (.ref rs), some (.ref D0), some (.int (m : Int)), some (.int L1), x5, x6] Hi := fun Hi o E2 eHi hia hiD hirs post => by
      refine tFor_items (d := a) (o := o) (kvs := kv2) (fun R r => ⟨_, rfl, _, rfl, rs, _, (m : Int), .ref a, rfl, rfl, sql hirs, atI_nat (by rw [List.getElem?_map, ha]; rfl), r⟩) hia (fun j σ H' => Ex (hid D0 Hi) H' ∧ ∃ x5 x6 f', σ = [some (.ref d), some (.ref rs), some (.ref D0), some (.int (m : Int)), some (.int L1), x5, x6] ∧ H' D0 = some (.dK f') ∧ LS (Leg C D) (Dij j) f') ?_ (fun j σ H' _ p => p.1 _ _ (by rw [hid_ne haD]; exact hia)) (fun j x σ H3 H' hj p y => ?_) fun σ H' p => ?_
      · refine ⟨hid_ex, _, _, f, rfl, hiD, ls.nd, ls.sound, ?_⟩
        rintro k L (h | ⟨j', x, hj', _⟩)
        · exact ls.least k L h
        · exact absurd hj' (Nat.not_lt_zero _)
      · obtain ⟨e3, x5, x6, f', rfl, hf', ls'⟩ := p
        obtain ⟨T1, z1, z2, rfl, hT1, rfl, hz1, hz2⟩ := y
        have hk2 : kv2[j]? = some kv2[j] := List.getElem?_eq_getElem hj
        generalize kv2[j] = kw at hk2
        simp only [hk2, Option.map_some, Option.some.injEq] at hz1 hz2
        obtain ⟨x, hx, hDx⟩ := ld2.sound kw.1 kw.2 (List.mem_of_getElem? hk2)
        rw [hx] at hz2
        subst hz1 hz2
        have hk2' : kv2[j]? = some (kw.1, .int x) := by rw [hk2, ← hx]
        have e4 : Ex H3 (upd H3 T1 (.tup [kV kw.1, .int x])) := Evl.Ex.new hT1
        have lenf : f'.length < 100000 := by
          have := len_of_keys (N := N) ls'.nd fun k v hkv => by
            obtain ⟨L, _, hc⟩ := ls'.sound k v hkv
            exact knL k L hc
          omega
        refine ⟨_, _, rfl, sqt upd_same, rfl, _, _, rfl, _, _, rfl, rfl, ?_⟩
        refine ⟨_, rfl, _, rfl, _, rfl, _, rfl, _, _, rfl, rfl, D0, kV kw.1, L1 + x, rfl, .inl ⟨f', kw.1, rfl, e4 _ _ hf', fun v hv => ?_, lenf, ?_⟩⟩
        · obtain ⟨L, e5, _⟩ := ls'.sound _ _ (valV_in hv)
          exact ⟨L, e5⟩
        · refine ⟨(e3.trans e4).mut hid_same, _, _, _, rfl, upd_same, (ls'.put kw.1 (L1 + x) ⟨m, L1, x, hkm ▸ hC, hDx, rfl⟩).mono ?_⟩
          rintro k L (h | ⟨j', x', hj', hkj', eL⟩)
          · exact .inl (.inl h)
          · by_cases c : j' < j
            · exact .inl (.inr ⟨j', x', c, hkj', eL⟩)
            · have : j' = j := by omega
              subst this
              rw [hk2'] at hkj'
              have q := Option.some.inj hkj'
              have q1 : kw.1 = k := congrArg Prod.fst q
              have q2 : x = x' := by have := congrArg Prod.snd q; injection this
              subst q1 q2
              exact .inr ⟨rfl, eL⟩
      · obtain ⟨e3, x5, x6, f', rfl, hf', ls'⟩ := p
        exact post _ _ f' e3 ⟨_, _, rfl⟩ hf' (endD f' ls')
    refine ⟨T0, _, rfl, sqt htup, rfl, _, _, rfl, _, _, rfl, rfl, ?_⟩
    by_cases c : a = d
    · subst c
      have hkk : kv2 = kvs := by
        rw [hd] at hkv2
        cases hkv2
        rfl
      refine .inr (inner Hs od _ (hid_ex.trans (hid_ex.trans eV)) (by rw [hkk]; exact eV _ _ hVd) hf1 (eV _ _ hVrs) fun σ' H' f' e3 ⟨x5', x6', es⟩ hf' ls' => ?_)
      exact ⟨(ex_hid eV hVD).trans e3, _, _, _, _, f', es, hf', ls'⟩
    · have hVa : Vw a = some (.dK kv2) := hV0 _ _ (by rw [hid_ne c]; exact hkv2)
      have hrsa : rs ≠ a := fun z => by rw [z, hkv2] at hrs; cases hrs
      refine .inl ⟨a, _, eV _ _ hVa, True.intro, fun o2 => ?_⟩
      refine inner (upd Hs a (.frz o2 (.dK kv2))) o2 _ ?_ upd_same (by rw [upd_ne haD.symm]; exact hf1) (by rw [upd_ne hrsa]; exact eV _ _ hVrs) fun σ' H' f' e3 ⟨x5', x6', es⟩ hf' ls' => ?_
      · exact (hid_ex.trans (hid_ex.trans eV)).mut hid_same
      · refine ⟨e3 _ _ (by rw [hid_ne haD, upd_same]), ?_, _, _, _, _, f', es, by rw [upd_ne haD.symm]; exact hf', ls'⟩
        intro x o hx
        by_cases hxa : x = a
        · rw [hxa, upd_same, ← hVa, ← hxa, hx]
        · rw [upd_ne hxa]
          refine e3 _ _ ?_
          have hxD : x ≠ D0 := fun z => by rw [z, hVD] at hx; cases hx
          rw [hid_ne hxD, upd_ne hxa]
          exact eV _ _ hx
  · obtain ⟨e, x3, x4, x5, x6, f, rfl, hf, ls⟩ := p
    refine ⟨e _ _ hVd, _, rfl, hQ D0 f _ hD0 ?_ (by rw [upd_ne hdD.symm]; exact hf) (ls.ld ?_)⟩
    · intro x o hx
      by_cases hxd : x = d
      · rw [hxd, upd_same, ← hd, ← hxd, hx]
      · rw [upd_ne hxd]
        exact e _ _ (hV0 _ _ (by rw [hid_ne hxd]; exact hx))
    · rintro k L ⟨m, L1, L2, h1, h2, rfl⟩
      obtain ⟨x, hx, hxl⟩ := ld.least _ _ h1
      obtain ⟨j, hj⟩ := List.getElem?_of_mem (valV_in hx)
      exact ⟨x + L2, ⟨j, m, x, L2, (List.getElem?_eq_some_iff.mp hj).1, hj, h2, rfl⟩, by omega⟩
end
end K33


set_option Elab.async false
set_option linter.all false
set_option maxRecDepth 100000
set_option maxHeartbeats 4000000
/-! The search of first rises: what it keeps. -/
namespace K33
open PySem PySem.Spec PyProof.Rows L2 K33M
abbrev DT := List (List Key × V)
def stK (k : Nat) (s : Int) : List Key := [.inl (k : Int), .inl s]
theorem stK_inj {k k' : Nat} {s s' : Int} (h : stK k s = stK k' s') : k = k' ∧ s = s' := by
  unfold stK at h
  injection h with h1 h2
  injection h2 with h2 _
  have h1 := Sum.inl.inj h1
  exact ⟨by omega, Sum.inl.inj h2⟩
def SWC (N : Nat) (pc : Nat → List Ed) (a : Nat) : List Key → Int → Prop := fun ks L => ∃ (k : Nat) (s : Int) (Ln : Nat), ks = stK k s ∧ L = (Ln : Int) ∧ SW N pc a k s Ln
def Rlx (N : Nat) (f : DT) (s m : Int) (es : List Ed) : Prop := ∀ e ∈ es, -(N : Int) ≤ s + e.u → s + e.u ≤ N → ∃ m', valV f (stK e.o (s + e.u)) = some (.int m') ∧ m' ≤ m + e.l
def labN (kv : List Key × V) : Nat := match kv.2 with | .int i => i.toNat | _ => 0
def sumL (f : DT) : Nat := (f.map labN).sum
/-- what is kept; here: the place whose pieces are gone through, the first n of them done -/
structure SInv (N : Nat) (pc : Nat → List Ed) (a : Nat) (f : DT) (qs : List (Nat × Int)) (here : Option (Nat × Int × Nat)) : Prop where
  nd : (f.map (·.1)).Nodup
  sound : ∀ k v, (k, v) ∈ f → ∃ L, v = .int L ∧ SWC N pc a k L
  start : ∃ m, valV f (stK a 0) = some (.int m) ∧ m ≤ 0
  clo : ∀ k s m, valV f (stK k s) = some (.int m) → s ≤ 0 → (k, s) ∈ qs ∨ (∃ n, here = some (k, s, n) ∧ Rlx N f s m ((pc k).take n)) ∨ Rlx N f s m (pc k)
  bd : ∀ k L, (k, V.int L) ∈ f → L + 12 ≤ 12 * (f.length : Int)
  qin : ∀ q ∈ qs, q.2 ≤ 0 ∧ ∃ m, valV f (stK q.1 q.2) = some (.int m)
  hin : ∀ k s n, here = some (k, s, n) → s ≤ 0 ∧ ∃ m, valV f (stK k s) = some (.int m)
theorem SInv.lab {N : Nat} {pc : Nat → List Ed} {a : Nat} {f : DT} {qs : List (Nat × Int)} {here : Option (Nat × Int × Nat)} (h : SInv N pc a f qs here) {k : Nat} {s : Int} {v : V} (e : valV f (stK k s) = some v) : ∃ m : Nat, v = .int (m : Int) ∧ SW N pc a k s m ∧ (m : Int) + 12 ≤ 12 * (f.length : Int) := by
  obtain ⟨L, rfl, k', s', Ln, e1, rfl, sw⟩ := h.sound _ _ (valV_in e)
  obtain ⟨rfl, rfl⟩ := stK_inj e1
  exact ⟨Ln, rfl, sw, h.bd _ _ (valV_in e)⟩
theorem SInv.init {N : Nat} {pc : Nat → List Ed} {a : Nat} : SInv N pc a [(stK a 0, .int 0)] [(a, 0)] none where
  nd := by simp
  sound := fun k v m => by
    have m : (k, v) = (stK a 0, V.int 0) := by simpa using m
    cases m
    exact ⟨0, rfl, a, 0, 0, rfl, rfl, .start⟩
  start := ⟨0, valV_pos rfl, Int.le_refl _⟩
  clo := fun k s m e _ => by
    have := valV_in e
    have this : (stK k s, V.int m) = (stK a 0, V.int 0) := by simpa using this
    obtain ⟨rfl, rfl⟩ := stK_inj (congrArg Prod.fst this)
    exact .inl List.mem_cons_self
  bd := fun k L m => by
    have m : (k, V.int L) = (stK a 0, V.int 0) := by simpa using m
    cases m
    show (0 : Int) + 12 ≤ 12 * ((1 : Nat) : Int)
    omega
  qin := fun q hq => by
    have hq : q = (a, 0) := by simpa using hq
    subst hq
    exact ⟨Int.le_refl _, 0, valV_pos rfl⟩
  hin := fun _ _ _ h => nomatch h
/-- the first of the queue is taken -/
theorem SInv.pop {N : Nat} {pc : Nat → List Ed} {a : Nat} {f : DT} {q : Nat × Int} {qs : List (Nat × Int)} (h : SInv N pc a f (q :: qs) none) : SInv N pc a f qs (some (q.1, q.2, 0)) where
  nd := h.nd
  sound := h.sound
  start := h.start
  clo := fun k s m e hs => by
    rcases h.clo k s m e hs with c | ⟨n, c, _⟩ | c
    · rcases List.mem_cons.mp c with c | c
      · exact .inr (.inl ⟨0, by rw [← c], by rw [List.take_zero]; intro e he; cases he⟩)
      · exact .inl c
    · cases c
    · exact .inr (.inr c)
  bd := h.bd
  qin := fun x hx => h.qin x (List.mem_cons_of_mem _ hx)
  hin := fun k s n e => by
    cases e
    exact h.qin q List.mem_cons_self
/-- all its pieces are done -/
theorem SInv.done {N : Nat} {pc : Nat → List Ed} {a : Nat} {f : DT} {qs : List (Nat × Int)} {k : Nat} {s : Int} (h : SInv N pc a f qs (some (k, s, (pc k).length))) : SInv N pc a f qs none where
  nd := h.nd
  sound := h.sound
  start := h.start
  clo := fun k' s' m e hs => by
    rcases h.clo k' s' m e hs with c | ⟨n, c, r⟩ | c
    · exact .inl c
    · cases c
      rw [List.take_length] at r
      exact .inr (.inr r)
    · exact .inr (.inr c)
  bd := h.bd
  qin := h.qin
  hin := fun _ _ _ e => nomatch e
theorem rlx_snoc {N : Nat} {f : DT} {s m : Int} {es : List Ed} {n : Nat} {e : Ed} (he : es[n]? = some e) (h : Rlx N f s m (es.take n)) (g : -(N : Int) ≤ s + e.u → s + e.u ≤ N → ∃ m', valV f (stK e.o (s + e.u)) = some (.int m') ∧ m' ≤ m + e.l) : Rlx N f s m (es.take (n + 1)) := by
  rw [List.take_add_one, he]
  intro x hx h1 h2
  rcases List.mem_append.mp hx with hx | hx
  · exact h x hx h1 h2
  · have hx : x = e := by simpa using hx
    subst hx
    exact g h1 h2
/-- a piece that brings nothing -/
theorem SInv.skip {N : Nat} {pc : Nat → List Ed} {a : Nat} {f : DT} {qs : List (Nat × Int)} {k n : Nat} {s m : Int} {e : Ed} (h : SInv N pc a f qs (some (k, s, n))) (hm : valV f (stK k s) = some (.int m)) (he : (pc k)[n]? = some e)
    (g : -(N : Int) ≤ s + e.u → s + e.u ≤ N → lePut f (stK e.o (s + e.u)) (m + e.l) = true) : SInv N pc a f qs (some (k, s, n + 1)) where
  nd := h.nd
  sound := h.sound
  start := h.start
  clo := fun k' s' m' e' hs => by
    rcases h.clo k' s' m' e' hs with c | ⟨n', c, r⟩ | c
    · exact .inl c
    · cases c
      rw [hm] at e'
      cases e'
      exact .inr (.inl ⟨n + 1, rfl, rlx_snoc he r fun h1 h2 => lePut_yes (g h1 h2)⟩)
    · exact .inr (.inr c)
  bd := h.bd
  qin := h.qin
  hin := fun k' s' n' e' => by
    cases e'
    exact h.hin k s n rfl
theorem valV_drop {f : DT} {k : List Key} {L : Int} (hp : lePut f k L = false) (hi : ∀ v, valV f k = some v → ∃ m, v = .int m) {j : List Key} {m : Int} (e : valV f j = some (.int m)) : ∃ m', valV (putK f k (.int L)) j = some (.int m') ∧ m' ≤ m := by
  rw [valV_put]
  split
  · next q =>
    subst q
    unfold lePut at hp
    rw [e] at hp
    have := of_decide_eq_false hp
    exact ⟨L, rfl, by omega⟩
  · exact ⟨m, e, Int.le_refl _⟩
theorem Rlx.drop {N : Nat} {f : DT} {k : List Key} {L : Int} (hp : lePut f k L = false) (hi : ∀ v, valV f k = some v → ∃ m, v = .int m) {s m : Int} {es : List Ed} (h : Rlx N f s m es) : Rlx N (putK f k (.int L)) s m es := fun e he h1 h2 => by
  obtain ⟨m1, e1, l1⟩ := h e he h1 h2
  obtain ⟨m2, e2, l2⟩ := valV_drop hp hi e1
  exact ⟨m2, e2, by omega⟩
theorem length_put {κ : Type} [DecidableEq κ] (kvs : List (κ × V)) (k : κ) (v : V) : (putK kvs k v).length = if (valV kvs k).isSome then kvs.length else kvs.length + 1 := by
  have := congrArg List.length (putK_keys kvs k v)
  rw [List.length_map] at this
  rw [this]
  split <;> simp
theorem lePut_self {κ : Type} [DecidableEq κ] {f : List (κ × V)} {k : κ} {m L : Int} (e : valV f k = some (.int m)) (h : m ≤ L) : lePut f k L = true := by
  unfold lePut
  rw [e]
  exact decide_eq_true h
/-- a piece that brings something -/
theorem SInv.put {N : Nat} {pc : Nat → List Ed} (G : Gr N pc) {a : Nat} {f : DT} {qs : List (Nat × Int)} {k n : Nat} {s : Int} {m : Nat} {e : Ed} (h : SInv N pc a f qs (some (k, s, n))) (hm : valV f (stK k s) = some (.int (m : Int))) (he : (pc k)[n]? = some e)
    (h12 : e.l ≤ 12) (h1 : -(N : Int) ≤ s + e.u) (h2 : s + e.u ≤ N) (hp : lePut f (stK e.o (s + e.u)) ((m : Int) + e.l) = false) :
    SInv N pc a (putK f (stK e.o (s + e.u)) (.int ((m : Int) + e.l))) (if s + e.u < 1 then qs ++ [(e.o, s + e.u)] else qs) (some (k, s, n + 1)) := by
  have hem := List.mem_of_getElem? he
  have hs := (h.hin k s n rfl).1
  obtain ⟨m', e1, sw, b0⟩ := h.lab hm
  have e2 : m' = m := by injection e1 with e1; omega
  rw [e2] at sw b0
  have hi : ∀ v, valV f (stK e.o (s + e.u)) = some v → ∃ m, v = .int m := fun v hv => by
    obtain ⟨x, ex, _⟩ := h.lab hv
    exact ⟨x, ex⟩
  have ne : ¬ stK k s = stK e.o (s + e.u) := fun z => by
    rw [← z] at hp
    rw [lePut_self hm (by have := G.pos _ _ hem; omega)] at hp
    cases hp
  have hm' : valV (putK f (stK e.o (s + e.u)) (.int ((m : Int) + e.l))) (stK k s) = some (.int (m : Int)) := by
    rw [valV_put, if_neg ne]
    exact hm
  have hln := length_put f (stK e.o (s + e.u)) (.int ((m : Int) + e.l))
  refine ⟨nodup_putK _ _ h.nd, fun j w mj => ?_, ?_, fun k' s' m2 e' hs' => ?_, fun j L mj => ?_, fun q hq => ?_, fun k' s' n' e' => ?_⟩
  · rcases mem_putK h.nd mj with ⟨rfl, rfl⟩ | mj
    · exact ⟨_, rfl, e.o, s + e.u, m + e.l, rfl, by omega, .step sw hs hem h1 h2⟩
    · exact h.sound j w mj
  · obtain ⟨m0, e0, l0⟩ := h.start
    obtain ⟨m2, e2, l2⟩ := valV_drop hp hi e0
    exact ⟨m2, e2, by omega⟩
  · by_cases c : stK k' s' = stK e.o (s + e.u)
    · obtain ⟨rfl, rfl⟩ := stK_inj c
      rw [if_pos (by omega)]
      exact .inl (List.mem_append_right _ List.mem_cons_self)
    · rw [valV_put, if_neg c] at e'
      have sub : ∀ x, x ∈ qs → x ∈ (if s + e.u < 1 then qs ++ [(e.o, s + e.u)] else qs) := fun x hx => by
        split
        · exact List.mem_append_left _ hx
        · exact hx
      rcases h.clo k' s' m2 e' hs' with d | ⟨n', d, r⟩ | d
      · exact .inl (sub _ d)
      · cases d
        rw [hm] at e'
        cases e'
        exact .inr (.inl ⟨n + 1, rfl, rlx_snoc he (r.drop hp hi) fun _ _ => ⟨(m : Int) + e.l, by rw [valV_put, if_pos rfl], Int.le_refl _⟩⟩)
      · exact .inr (.inr (d.drop hp hi))
  · rw [hln]
    rcases mem_putK h.nd mj with ⟨rfl, eL⟩ | mj
    · injection eL with eL
      cases ev : valV f (stK e.o (s + e.u)) with
      | none =>
        simp only [Option.isSome_none, Bool.false_eq_true, if_false]
        omega
      | some v =>
        obtain ⟨x, rfl, _, bx⟩ := h.lab ev
        have : ¬ (x : Int) ≤ (m : Int) + e.l := fun z => by rw [lePut_self ev z] at hp; cases hp
        simp only [Option.isSome_some, if_true]
        omega
    · have := h.bd j L mj
      split <;> omega
  · have old : q ∈ qs → q.2 ≤ 0 ∧ ∃ m', valV (putK f (stK e.o (s + e.u)) (.int ((m : Int) + e.l))) (stK q.1 q.2) = some (.int m') := fun hq => by
      obtain ⟨z, x, hx⟩ := h.qin q hq
      obtain ⟨y, hy, _⟩ := valV_drop hp hi hx
      exact ⟨z, y, hy⟩
    split at hq
    · rcases List.mem_append.mp hq with hq | hq
      · exact old hq
      · have hq : q = (e.o, s + e.u) := by simpa using hq
        subst hq
        exact ⟨by omega, _, by rw [valV_put, if_pos rfl]⟩
    · exact old hq
  · cases e'
    exact ⟨hs, _, hm'⟩
/-- nothing is left: all are told -/
theorem SInv.end {N : Nat} {pc : Nat → List Ed} {a : Nat} {f : DT} (h : SInv N pc a f [] none) : LD (SWC N pc a) f := by
  refine ⟨h.nd, h.sound, ?_⟩
  rintro ks L ⟨k, s, Ln, rfl, rfl, sw⟩
  induction sw with
  | start =>
    obtain ⟨m, e, l⟩ := h.start
    exact ⟨m, e, by omega⟩
  | @step k s L e sw hs hm h1 h2 ih =>
    obtain ⟨m, em, lm⟩ := ih
    rcases h.clo k s m em hs with c | ⟨_, c, _⟩ | c
    · cases c
    · cases c
    · obtain ⟨m', e', l'⟩ := c e hm h1 h2
      exact ⟨m', e', by omega⟩
/-! ### the search ends -/
theorem sum_le {α : Type} {g g' : α → Nat} : ∀ {l : List α}, (∀ x ∈ l, g' x ≤ g x) → (l.map g').sum ≤ (l.map g).sum
  | [], _ => Nat.le_refl _
  | x :: l, h => by
    simp only [List.map_cons, List.sum_cons]
    have := h x List.mem_cons_self
    have := sum_le (l := l) fun y hy => h y (List.mem_cons_of_mem _ hy)
    omega
theorem sum_lt {α : Type} {g g' : α → Nat} {a : α} : ∀ {l : List α}, (∀ x ∈ l, g' x ≤ g x) → a ∈ l → g' a < g a → (l.map g').sum < (l.map g).sum
  | x :: l, h, m, d => by
    simp only [List.map_cons, List.sum_cons]
    have h1 := h x List.mem_cons_self
    rcases List.mem_cons.mp m with e | m
    · subst e
      have := sum_le (l := l) fun y hy => h y (List.mem_cons_of_mem _ hy)
      omega
    · have := sum_lt (l := l) (fun y hy => h y (List.mem_cons_of_mem _ hy)) m d
      omega
theorem sumL_old {f : DT} {k : List Key} {m L : Nat} (n : (f.map (·.1)).Nodup) (e : valV f k = some (.int (m : Int))) (h : L < m) : sumL (putK f k (.int (L : Int))) < sumL f := by
  unfold sumL putK
  rw [valV_any, e]
  simp only [Option.isSome_some, if_true]
  rw [List.map_map]
  refine sum_lt (a := (k, V.int (m : Int))) (fun x hx => ?_) (valV_in e) ?_
  · simp only [Function.comp]
    split
    · next q =>
      have : valV f x.1 = some x.2 := valV_nd n hx
      rw [q, e] at this
      have e2 : x.2 = .int (m : Int) := (Option.some.inj this).symm
      unfold labN
      rw [e2]
      show ((L : Int)).toNat ≤ ((m : Int)).toNat
      omega
    · exact Nat.le_refl _
  · simp only [Function.comp, if_true]
    unfold labN
    show ((L : Int)).toNat < ((m : Int)).toNat
    omega
theorem sumL_new {f : DT} {k : List Key} {L : Nat} (e : valV f k = none) : sumL (putK f k (.int (L : Int))) = sumL f + L := by
  rw [putK_new _ e]
  unfold sumL
  rw [List.map_append, List.sum_append]
  simp [labN]
def cells (N : Nat) : Nat := N * (2 * N + 1)
theorem few_keys {N : Nat} {f : DT} (nd : (f.map (·.1)).Nodup) (key : ∀ kv ∈ f, ∃ (k : Nat) (s : Int), kv.1 = stK k s ∧ k < N ∧ -(N : Int) ≤ s ∧ s ≤ N) : f.length ≤ cells N := by
  have code : ∀ kv ∈ f, ∀ k s, kv.1 = stK k s → (match kv.1 with | [.inl i, .inl j] => i.toNat * (2 * N + 1) + (j + N).toNat | _ => 0) = k * (2 * N + 1) + (s + N).toNat := fun kv _ k s e => by
    rw [e]
    show ((k : Int)).toNat * (2 * N + 1) + (s + N).toNat = _
    rw [Int.toNat_natCast]
  have := pigeon (cells N) (f.map fun kv => match kv.1 with | [.inl i, .inl j] => i.toNat * (2 * N + 1) + (j + N).toNat | _ => 0) ?_ ?_
  · rw [List.length_map] at this
    exact this
  · refine List.pairwise_map.mpr ((List.pairwise_map.mp nd).imp_of_mem ?_)
    intro x y hx hy hne e
    obtain ⟨k, s, e1, k1, s1, s2⟩ := key x hx
    obtain ⟨k', s', e2, k2, s3, s4⟩ := key y hy
    rw [code x hx k s e1, code y hy k' s' e2] at e
    apply hne
    rw [e1, e2]
    have b1 : (s + N).toNat < 2 * N + 1 := by omega
    have b2 : (s' + N).toNat < 2 * N + 1 := by omega
    have q1 : (k * (2 * N + 1) + (s + N).toNat) / (2 * N + 1) = k := by
      rw [Nat.add_comm, Nat.add_mul_div_right _ _ (by omega), Nat.div_eq_of_lt b1, Nat.zero_add]
    have q2 : (k' * (2 * N + 1) + (s' + N).toNat) / (2 * N + 1) = k' := by
      rw [Nat.add_comm, Nat.add_mul_div_right _ _ (by omega), Nat.div_eq_of_lt b2, Nat.zero_add]
    have kk : k = k' := by rw [← q1, ← q2, e]
    subst kk
    have ss : s = s' := by omega
    rw [ss]
  · intro x hx
    obtain ⟨kv, hkv, rfl⟩ := List.mem_map.mp hx
    obtain ⟨k, s, e1, k1, s1, s2⟩ := key kv hkv
    rw [code kv hkv k s e1]
    have b1 : (s + N).toNat < 2 * N + 1 := by omega
    unfold cells
    calc k * (2 * N + 1) + (s + N).toNat < k * (2 * N + 1) + (2 * N + 1) := by omega
      _ = (k + 1) * (2 * N + 1) := by rw [Nat.add_mul, Nat.one_mul]
      _ ≤ N * (2 * N + 1) := Nat.mul_le_mul_right _ k1
theorem SInv.few {N : Nat} {pc : Nat → List Ed} (G : Gr N pc) {a : Nat} (ha : a < N) {f : DT} {qs : List (Nat × Int)} {here : Option (Nat × Int × Nat)} (h : SInv N pc a f qs here) : f.length ≤ cells N :=
  few_keys h.nd fun kv hkv => by
    obtain ⟨L, _, k, s, Ln, e, _, sw⟩ := h.sound kv.1 kv.2 hkv
    exact ⟨k, s, e, sw.lt G ha, sw.bd⟩
def phi (N : Nat) (f : DT) : Nat := (cells N - f.length) * (12 * cells N + 1) + sumL f
theorem SInv.falls {N : Nat} {pc : Nat → List Ed} (G : Gr N pc) {a : Nat} (ha : a < N) {f : DT} {qs : List (Nat × Int)} {k n : Nat} {s : Int} {m : Nat} {e : Ed} (h : SInv N pc a f qs (some (k, s, n))) (hm : valV f (stK k s) = some (.int (m : Int))) (he : (pc k)[n]? = some e)
    (h12 : e.l ≤ 12) (h1 : -(N : Int) ≤ s + e.u) (h2 : s + e.u ≤ N) (hp : lePut f (stK e.o (s + e.u)) ((m : Int) + e.l) = false) : phi N (putK f (stK e.o (s + e.u)) (.int ((m : Int) + e.l))) < phi N f := by
  have few' := (h.put G hm he h12 h1 h2 hp).few G ha
  have hln := length_put f (stK e.o (s + e.u)) (.int ((m : Int) + e.l))
  have e3 : ((m : Int) + e.l) = ((m + e.l : Nat) : Int) := by omega
  unfold phi
  cases ev : valV f (stK e.o (s + e.u)) with
  | none =>
    rw [ev] at hln
    simp only [Option.isSome_none, Bool.false_eq_true, if_false] at hln
    have sn := sumL_new (L := m + e.l) ev
    obtain ⟨x, ex, _, bx⟩ := h.lab hm
    have ex : m = x := by injection ex with ex; omega
    rw [e3] at hln few' ⊢
    rw [sn, hln]
    rw [hln] at few'
    have t : cells N - f.length = (cells N - (f.length + 1)) + 1 := by omega
    rw [t, Nat.add_mul, Nat.one_mul]
    omega
  | some v =>
    obtain ⟨x, rfl, _, bx⟩ := h.lab ev
    have : ¬ (x : Int) ≤ (m : Int) + e.l := fun z => by rw [lePut_self ev z] at hp; cases hp
    rw [ev] at hln
    simp only [Option.isSome_some, if_true] at hln
    rw [hln, e3]
    have := sumL_old (L := m + e.l) h.nd ev (by omega)
    omega
end K33


set_option Elab.async false
set_option linter.all false
set_option maxRecDepth 100000
set_option maxHeartbeats 1000000
/-! {t: v}, the key a tuple. -/
namespace K33M
open PySem PySem.Spec PyProof.Rows L2 K33
def tDisT (tk tv : TE) : TE := fun σ H Q => ∀ p, H p = none → tk σ (upd H p (.dT [])) fun x H1 => tv σ H1 fun y H2 => H2 p = some (.dT []) ∧ ∃ b ks, x = .ref b ∧ H2 b = some (.tup (ks.map kV)) ∧ Q (.ref p) (upd H2 p (.dT [(ks, y)]))
section
variable {X : Cx} {k v : Expr} {pos : Pos} {tk tv : TE}
theorem pe_disT (hu : X.A.units + 1 < cLine) (hk : PE X k tk) (hv : PE X v tv) : PE X (.Dict [some k] [v] pos) (tDisT tk tv) := by
  refine ⟨fun pins s σ H Q I q => ?_⟩
  have hn := I.hok.fresh (Nat.le_refl s.heap.objs.size)
  have I1 := I.laid (a := s.heap.objs.size) (o := .dT []) (h' := s.heap.push { cls := .type "dict", data := .dict #[] }) (t' := s.toks) (fun _ _ q => Heap.get?_push_of_some _ q) (Nat.le_refl _) (dt_empty s.heap I.big)
  rw [arm_eval_Dict, zip_pairTrees [some k] [v] X.env pos rfl rfl, dictDisplay_pairs _ (by simp [pairTrees]) (by simp [pairTrees])]
  refine wpAny_bind (wpAny_standAt (wpAny_bind (wpAny_subDictH (knd := tupleKind (mixKind X.prog X.w)) (show X.A.units < cLine by omega) (by simp [pairTrees]) (thn ((pps_cons (pos := pos) hk hv pps_nil).run pins _ σ _ (fun ps H2 => match ps with | [(x, y)] => H2 s.heap.objs.size = some (.dT []) ∧ ∃ b ks, x = .ref b ∧ H2 b = some (.tup (ks.map kV)) ∧ Q (.ref s.heap.objs.size) (upd H2 s.heap.objs.size (.dT [(ks, y)])) | _ => False) I1 ?_) fun ws s2 ⟨ps, H2, I2, rel, hq0⟩ => ?_))))
  · exact q _ hn
  · match ps, hq0, rel with
    | [(x, y)], ⟨e, b, ks, ex, hb, q2⟩, rel =>
    subst ex
    cases rel with
    | @cons a c as bs h t =>
      cases t
      obtain ⟨c1, c2⟩ := c
      obtain ⟨h1, h2⟩ := h
      have h1 : c1 = Value.ref b := h1
      subst h1
      obtain ⟨z, hd, xs0, r0, dd⟩ := dt_of I2.hok e
      cases r0
      refine ⟨[(ks, b, c2)], ⟨rfl, rfl, key_of I2.hok hb, trivial⟩, dd, fun h' tk dd' hs => wpAny_pure ⟨.ref s.heap.objs.size, _, ?_, rfl, q2⟩⟩
      have he : ∃ q, h'.get? s.heap.objs.size = some q := let ⟨q, _, _, hq, _⟩ := dd'; ⟨q, hq⟩
      obtain ⟨qo, es, ep, hq, g2, g3, g4, _, g5⟩ := dd'
      refine d_write I2 (by rw [e]; exact True.intro) hs he ⟨Nat.le_of_ble_eq_true rfl, hd, [(ks, b, c2)], .cons ⟨rfl, ?_, h2⟩ .nil, qo, es, ep, hq, g2, g3, g4, g5⟩
      show upd H2 s.heap.objs.size (.dT [(ks, y)]) b = some (.tup (ks.map kV))
      rw [upd_ne (fun z => by rw [z, e] at hb; cases hb)]
      exact hb
end
end K33M


set_option Elab.async false
set_option linter.all false
set_option maxRecDepth 100000
set_option maxHeartbeats 8000000
namespace K33
open PySem PySem.Spec PyProof.Rows L2 K33M
theorem tFor_list {K : PySem.W.Frag} {te : TE} {g : TG} {tb : TS} {D : Ends} {σ : L2.St} {H : Hp} {a : Addr} {xs : List V} (hte : ∀ R : VK, R (.ref a) H → te σ H R) (hx : SqL K H a xs) (Pv : Nat → L2.St → Hp → Prop) (h0 : Pv 0 σ H)
    (hG : ∀ i σ H, i ≤ xs.length → Pv i σ H → SqL K H a xs)
    (hs : ∀ i x σ H H', i < xs.length → Pv i σ H → YAt xs i H x H' → g x σ H' fun σ2 H2 => tb { D with nx := Pv (i + 1), ct := Pv (i + 1), bk := D.nx } σ2 H2) (hn : ∀ σ H, Pv xs.length σ H → D.nx σ H) :
    tFor (iList K te) g tb D σ H := hte _ ⟨a, rfl, ⟨xs, hx⟩, for_it walk_list Pv h0 hG hs hn⟩
theorem up_keep {H : Hp} {a x : Addr} {o o' o2 : HO} (ha : H a = some o) (hx : H x = some o2) (n : o2 ≠ o) : upd H a o' x = some o2 := by
  rw [upd_ne fun z => by rw [z, ha] at hx; cases hx; exact n rfl]
  exact hx
theorem at_lt {α : Type} {l : List α} {i : Nat} (h : i < l.length) : ∃ x, l[i]? = some x := ⟨l[i], List.getElem?_eq_getElem h⟩
theorem ix0 (n : Nat) : seqIndex? 0 (n + 1) = some 0 := by
  simp [seqIndex?]
  try omega
/-! ### pieces as they stand -/
structure Pc where
  o : Nat
  tie : Str
  a : Int
  b : Int
  u : Int
def Pc.ed (q : Pc) : Ed := ⟨q.o, (q.b - q.a).natAbs, q.u⟩
def PcAt (H : Hp) (x : Addr) (q : Pc) : Prop := H x = some (.tup [.int (q.o : Int), .str q.tie, .int q.a, .int q.b, .int q.u])
def PcsAt (H : Hp) (pcs : Addr) (pl : List (List Pc)) : Prop := ∃ ls : List Addr, H pcs = some (.lst (ls.map V.ref)) ∧ Paired (fun l qs => ∃ xs : List Addr, H l = some (.lst (xs.map V.ref)) ∧ Paired (PcAt H) xs qs) ls pl
theorem PcsAt.mono {H H' : Hp} (e : Ex H H') {pcs : Addr} {pl : List (List Pc)} (h : PcsAt H pcs pl) : PcsAt H' pcs pl :=
  let ⟨ls, h1, h2⟩ := h; ⟨ls, e _ _ h1, pr_mono h2 fun _ _ ⟨xs, q1, q2⟩ => ⟨xs, e _ _ q1, pr_mono q2 fun _ _ q => e _ _ q⟩⟩
def pcOf (pl : List (List Pc)) (k : Nat) : List Ed := (pl.getD k []).map Pc.ed
structure PlOk (N : Nat) (pl : List (List Pc)) : Prop where
  gr : Gr N (pcOf pl)
  len : pl.length = N
  n20 : N ≤ 20
  l12 : ∀ k e, e ∈ pcOf pl k → e.l ≤ 12
def knF (sp n pcs pw kr : Addr) : List (Str × V) := [("all_spots", .ref sp), ("numbers", .ref n), ("pieces", .ref pcs), ("powers", .ref pw), ("known_rises", .ref kr)]
def sp_Knots_search (K : PySem.W.Frag) : Sp := fun vs H Q _ => ∃ (p dx sp n pcs pw kr : Addr) (k N : Nat) (pl : List (List Pc)), vs = [.ref p, .int (k : Int)] ∧ H p = some (.ins (cN K) dx (knF sp n pcs pw kr)) ∧ PcsAt H pcs pl ∧ PlOk N pl ∧ k < N ∧
  ∀ r f l H' kvs, Ex H H' → H' r = some (.tup [.ref f, .ref l]) → H' f = some (.dT kvs) → LD (SWC N (pcOf pl) k) kvs → kvs.length ≤ cells N → Q (.ref r) H'
def QAt (H : Hp) (b : Addr) (q : Nat × Int) : Prop := H b = some (.tup [.int (q.1 : Int), .int q.2])
def pyQ (qs : List (Nat × Int)) : PyData := .list (qs.map fun q => .tuple [.int (q.1 : Int), .int q.2])
theorem ne_nil {K : PySem.W.Frag} {H : Hp} {l e : Addr} {bs : List Addr} {qs : List (Nat × Int)} {Q : VK} (hl : H l = some (.lst (bs.map V.ref))) (hq : Paired (QAt H) bs qs) (he : H e = some (.lst [])) (k : Q (.bl (!qs.isEmpty)) H) : rNeD K (.ref l) (.ref e) H Q := by
  refine ⟨pyQ qs, .list [], .lst (sql hl) (dp_all (f := fun q : Nat × Int => PyData.tuple [.int (q.1 : Int), .int q.2]) (fun a q r => .tup (sqt r) (.cons (.int _) (.cons (.int _) .nil))) hq), .lst (sql he) .nil, ?_, ?_, ?_⟩
  · unfold SeqAt.shaped pyQ
    rw [Bool.and_eq_true]
    constructor
    · simp only [PyData.canLay0]
      exact lay_all fun x _ => by simp [PyData.canLay0, PyData.canLayAll0]
    · refine decide_eq_true ?_
      simp only [PyData.depth]
      have := depth_all (f := fun q : Nat × Int => PyData.tuple [.int (q.1 : Int), .int q.2]) (n := 1) (xs := qs) fun x _ => by simp [PyData.depth, PyData.depthAll]
      omega
  · simp [SeqAt.shaped, PyData.canLay0, PyData.canLayAll0, PyData.depth, PyData.depthAll]
  · have e : (!PyData.eqv (pyQ qs) (.list [])) = !qs.isEmpty := by
      cases qs with
      | nil => simp [pyQ, PyData.eqv, PyData.eqvAll]
      | cons q qs => simp [pyQ, PyData.eqv, PyData.eqvAll]
    rw [e]
    exact k
/-- the search's things -/
structure S8 (N : Nat) (H : Hp) (F La Wq : Addr) (f lt : DT) (qs : List (Nat × Int)) (H' : Hp) : Prop where
  ex : Ex H H'
  hF : H' F = some (.dT f)
  hL : H' La = some (.dT lt)
  hW : ∃ bs : List Addr, H' Wq = some (.lst (bs.map V.ref)) ∧ Paired (QAt H') bs qs
  nl : (lt.map (·.1)).Nodup
  kl : ∀ kv ∈ lt, ∃ (k : Nat) (s : Int), kv.1 = stK k s ∧ k < N ∧ -(N : Int) ≤ s ∧ s ≤ N
theorem S8.mono {N : Nat} {H : Hp} {F La Wq : Addr} {f lt : DT} {qs : List (Nat × Int)} {H1 H2 : Hp} (h : S8 N H F La Wq f lt qs H1) (e : Ex H1 H2) : S8 N H F La Wq f lt qs H2 :=
  ⟨h.ex.trans e, e _ _ h.hF, e _ _ h.hL, let ⟨bs, a, b⟩ := h.hW; ⟨bs, e _ _ a, pr_mono b fun _ _ q => e _ _ q⟩, h.nl, h.kl⟩
section
variable {P : Program} {w : World} {K : PySem.W.Frag} {mg : Str → Option Value} {base : Heap}
theorem o_Knots_search (T : Tx K mg) : FO P w K mg base 2 (He.ma K (He.ga K "Knots") "search") ["self", "number"] (sp_Knots_search K) := def_ok T.f_Knots_search sc_Knots_search (fun _ _ _ _ _ _ us hl => match us, hl with | [_, _], _ => rfl)
    (fun _ _ _ _ h => by obtain ⟨_, _, _, _, _, _, _, _, _, _, rfl, _⟩ := h; rfl) fun cdv A outer s H vs Q E hr h => by
  have hu := hu_of hr
  obtain ⟨p, dx, sp, nu, pcs, pw, kr, k, N, pl, rfl, hp, hpc, ok, hk, hQ⟩ := h
  have G := ok.gr
  have n20 := ok.n20
  have hcl : cells N ≤ 820 := by
    unfold cells
    calc N * (2 * N + 1) ≤ 20 * (2 * 20 + 1) := Nat.mul_le_mul n20 (by omega)
      _ = 820 := rfl
  refine ⟨_, (pss_cons (ps_set (i := 2) sc_Knots_search.nd rfl (.inl rfl) (pe_disT hu (pe_tup (pa_cons (pv 1) (pa_cons pe_int pa_nil))) pe_int))
      (pss_cons (ps_set (i := 3) sc_Knots_search.nd rfl (.inl rfl) pe_dnewT)
      (pss_cons (ps_set (i := 4) sc_Knots_search.nd rfl (.inl rfl) (pe_lst (pa_cons (pe_tup (pa_cons (pv 1) (pa_cons pe_int pa_nil))) pa_nil)))
      (pss_cons (ps_while PassesOwn.never (pt_cmpR (op_neD hr.units) (pv 4) (pe_lst pa_nil) (nomark _)) (pss_cons (ps_set (i := 5) sc_Knots_search.nd rfl (.inl rfl) (pe_bm PySem.F.plainAttrs_list PySem.F.slot_list_pop PySem.F.type_list_pop mt_popAt (pv 4) (pa_cons pe_int pa_nil)))
        (pss_one (ps_for PassesOwn.never rfl (pi_list (pe_ix ix_list (pe_fld (pv 0) rfl) (pe_ix ix_tup (pv 5) pe_int (fun _ _ => rfl)) (fun _ _ => rfl))) (pg_name (i := 6) sc_Knots_search.nd rfl (.inl rfl))
          (pss_cons (ps_asg (pv 6) (pg_tup rfl (pgs_cons (pg_name (i := 7) sc_Knots_search.nd rfl (.inl rfl)) (pgs_cons (pg_name (i := 8) sc_Knots_search.nd rfl (.inl rfl)) (pgs_cons (pg_name (i := 9) sc_Knots_search.nd rfl (.inl rfl)) (pgs_cons (pg_name (i := 10) sc_Knots_search.nd rfl (.inl rfl)) (pgs_cons (pg_name (i := 11) sc_Knots_search.nd rfl (.inl rfl)) pgs_nil)))))))
          (pss_cons (ps_set (i := 12) sc_Knots_search.nd rfl (.inl rfl) (pe_tup (pa_cons (pv 7) (pa_cons (pe_op op_add (pe_ix ix_tup (pv 5) pe_int (fun _ _ => rfl)) (pv 11)) pa_nil))))
          (pss_cons (ps_set (i := 13) sc_Knots_search.nd rfl (.inl rfl) (pe_cmpR op_le (pe_callB call_abs (by rfl) T.z_abs (by decide +kernel) (pa_cons (pe_ix ix_tup (pv 12) pe_int (fun _ _ => rfl)) pa_nil)) (pe_callB call_len_seq (by rfl) T.z_len (by decide +kernel) (pa_cons (pe_fld (pv 0) rfl) pa_nil)) (nomark _)))
          (pss_one (ps_if (PW.pt (pw_and (pt_val (pv 13)) (pw_and1 (pt_val (c_fn (o_put_least T) T.g_put_least (hr.mono (by decide)) (pa_cons (pv 2) (pa_cons (pv 12) (pa_cons (pe_op op_add (pe_dget hu (pv 2) (pv 5) (fun _ _ => rfl)) (pe_callB call_abs (by rfl) T.z_abs (by decide +kernel) (pa_cons (pe_op op_sub (pv 10) (pv 9)) pa_nil))) pa_nil)))))))) (pss_cons (ps_dput hu (pv 3) (pv 12) (pe_tup (pa_cons (pv 5) (pa_cons (pv 6) pa_nil))) rfl)
            (pss_one (ps_if (pt_cmpR op_lt (pe_ix ix_tup (pv 12) pe_int (fun _ _ => rfl)) pe_int (nomark _)) (pss_one (ps_expr (pe_bm PySem.F.plainAttrs_list PySem.F.slot_list_append PySem.F.type_list_append mt_append (pv 4) (pa_cons (pv 12) pa_nil)))) pss_nil))) pss_nil)))))))))
      (pss_one (ps_ret (pe_tup (pa_cons (pv 2) (pa_cons (pv 3) pa_nil))))))))), ?_⟩
  dsimp only [tCKw, tM1, tVals, tVar, tC, tB, tAnd, tOr, tNot, tAndV, tOrV, tNotV, tIf, tNext, tSeq, tBreak, tCont, tDrop, tRet, tRetN, tIfS, tNever, gName, gNil, gCons, gTup, gSub, tAsg, tPar, tAug, tTest, tChain, tFld, sFld, tNil, tCons, tTup, tLst, tCall, tMeth, tCB, tBM, tNoPart, tPart, tSl, tOp, tUn, rI, rI0, rU, iList, iTup, iRng1, iRng2, iStr, iEnum, iZip, iItems, iVals, tDGet, tDIn, tDNotIn, sDPut, tDGet2, tDNewK, tDNewT, tYes, fin, List.cons_append, List.nil_append, bx, cxOf, Cx.nox]
  intro F hF
  refine ⟨_, rfl, Nat.le_of_ble_eq_true rfl, fun t0 ht0 => ⟨?_, t0, stK k 0, rfl, upd_same, fun La hLa => ⟨_, rfl, Nat.le_of_ble_eq_true rfl, fun t1 ht1 => ⟨Nat.le_of_ble_eq_true rfl, fun Wq hW => ?_⟩⟩⟩⟩
  · rw [upd_ne (fun z => by rw [← z, upd_same] at ht0; cases ht0)]
    exact upd_same
  have eA : Ex H (upd (upd (upd H F (.dT [])) t0 (.tup [.int (k : Int), .int 0])) F (.dT [(stK k 0, .int 0)])) := ((Evl.Ex.new (o := .dT []) hF).trans (Evl.Ex.new ht0)).mut hF
  have fA : upd (upd (upd H F (.dT [])) t0 (.tup [.int (k : Int), .int 0])) F (.dT [(stK k 0, .int 0)]) F = some (.dT [(stK k 0, .int 0)]) := upd_same
  generalize upd (upd (upd H F (.dT [])) t0 (.tup [.int (k : Int), .int 0])) F (.dT [(stK k 0, .int 0)]) = HA at eA fA hLa ht1 hW ⊢
  have eB : Ex HA (upd HA La (.dT [])) := Evl.Ex.new hLa
  have nLF : La ≠ F := fun z => by rw [z, fA] at hLa; cases hLa
  have hLn := Evl.fresh_back eA hLa
  have lB : upd HA La (.dT []) La = some (.dT []) := upd_same
  generalize upd HA La (.dT []) = HB at eB lB ht1 hW ⊢
  have eC : Ex HB (upd HB t1 (.tup [.int (k : Int), .int 0])) := Evl.Ex.new ht1
  have tC1 : upd HB t1 (.tup [.int (k : Int), .int 0]) t1 = some (.tup [.int (k : Int), .int 0]) := upd_same
  generalize upd HB t1 (.tup [.int (k : Int), .int 0]) = HC at eC tC1 hW ⊢
  have eD : Ex HC (upd HC Wq (.lst [.ref t1])) := Evl.Ex.new hW
  have hWn := Evl.fresh_back ((eA.trans eB).trans eC) hW
  have nWF : Wq ≠ F := fun z => by rw [z, eC _ _ (eB _ _ fA)] at hW; cases hW
  have nWL : Wq ≠ La := fun z => by rw [z, eC _ _ lB] at hW; cases hW
  have s0 : S8 N H F La Wq [(stK k 0, .int 0)] [] [(k, 0)] (upd HC Wq (.lst [.ref t1])) := by
    refine ⟨((eA.trans eB).trans eC).trans eD, eD _ _ (eC _ _ (eB _ _ fA)), eD _ _ (eC _ _ lB), ⟨[t1], upd_same, .cons (eD _ _ tC1) .nil⟩, List.nodup_nil, fun kv hkv => by cases hkv⟩
  have b0 : 2 * phi N [(stK k 0, V.int 0)] + [(k, (0 : Int))].length ≤ 16500000 := by
    have e1 : phi N [(stK k 0, V.int 0)] = (cells N - 1) * (12 * cells N + 1) := rfl
    rw [e1, List.length_singleton]
    have : (cells N - 1) * (12 * cells N + 1) ≤ 819 * 9841 := Nat.mul_le_mul (by omega) (by omega)
    omega
  refine ⟨fun m σ H' => ∃ f lt qs x5 x6 x7 x8 x9 x10 x11 x12 x13, σ = [some (.ref p), some (.int (k : Int)), some (.ref F), some (.ref La), some (.ref Wq), x5, x6, x7, x8, x9, x10, x11, x12, x13] ∧ S8 N H F La Wq f lt qs H' ∧ SInv N (pcOf pl) k f qs none ∧ m = 2 * phi N f + qs.length ∧ m ≤ 16500000,
    ⟨_, _, _, _, _, _, _, _, _, _, _, _, _, rfl, s0, SInv.init, rfl, b0⟩, fun m σ H1 hw => ?_⟩
  obtain ⟨f, lt, qs, x5, x6, x7, x8, x9, x10, x11, x12, x13, rfl, st, si, rfl, bm⟩ := hw
  obtain ⟨bs, hbs, hqs⟩ := st.hW
  refine ⟨_, rfl, Nat.zero_le _, fun ne hne => ne_nil ((Evl.Ex.new hne) _ _ hbs) (pr_mono hqs fun _ _ q => (Evl.Ex.new hne) _ _ q) upd_same ⟨_, rfl, ?_⟩⟩
  have eE : Ex H1 (upd H1 ne (.lst [])) := Evl.Ex.new hne
  replace st := st.mono eE
  generalize upd H1 ne (.lst []) = H2 at st eE
  obtain ⟨bs, hbs, hqs⟩ := st.hW
  cases qs with
  | nil =>
    refine ⟨_, rfl, _, rfl, Nat.le_of_ble_eq_true rfl, fun r hr => hQ r F La _ f (st.ex.trans (Evl.Ex.new hr)) upd_same ((Evl.Ex.new hr) _ _ st.hF) si.end (si.few G hk)⟩
  | cons q qs =>
    cases hqs with
    | @cons hb _ brest _ hq hqs =>
    refine ⟨_, fun _ _ h => h, ?_⟩
    dsimp only
    have sk : SInv N (pcOf pl) k f qs (some (q.1, q.2, 0)) := si.pop
    obtain ⟨hq2, m0, hm0⟩ := sk.hin _ _ _ rfl
    obtain ⟨M0, eM, swq, _⟩ := sk.lab hm0
    have hqN := swq.lt G hk
    have hm0 : valV f (stK q.1 q.2) = some (.int (M0 : Int)) := by rw [hm0, eM]
    obtain ⟨ls, hls, hlp⟩ := hpc
    have hll := pr_len hlp
    obtain ⟨row, hrow⟩ := at_lt (l := pl) (i := q.1) (by rw [ok.len]; exact hqN)
    obtain ⟨la, hlq⟩ := at_lt (l := ls) (i := q.1) (by rw [hll, ok.len]; exact hqN)
    obtain ⟨row', hr', xs, hxs, hpx⟩ := pr_at hlp hlq
    rw [hrow] at hr'
    cases hr'
    have hpq : pcOf pl q.1 = row.map Pc.ed := by
      unfold pcOf
      rw [List.getD_eq_getElem?_getD, hrow]
      rfl
    have e12 : ∀ {a : Addr} {o : HO}, H a = some o → upd H2 Wq (.lst (brest.map V.ref)) a = some o := fun h => (st.ex.mut hWn) _ _ h
    have hqt : upd H2 Wq (.lst (brest.map V.ref)) hb = some (.tup [.int (q.1 : Int), .int q.2]) := up_keep hbs hq (fun z => nomatch z)
    have s1 : S8 N H F La Wq f lt qs (upd H2 Wq (.lst (brest.map V.ref))) := ⟨st.ex.mut hWn, up_keep hbs st.hF (fun z => nomatch z), up_keep hbs st.hL (fun z => nomatch z), ⟨brest, upd_same, pr_mono hqs fun _ _ h => up_keep hbs h (fun z => nomatch z)⟩, st.nl, st.kl⟩
    refine ⟨_, rfl, .inl ⟨rfl, _, sql hbs⟩, Wq, _, 0, 0, _, rfl, rfl, hbs, by decide, by decide, ix0 _, rfl, ?_⟩
    dsimp only [gName]
    rw [show upd H2 Wq (.lst (((hb :: brest).map V.ref).eraseIdx 0)) = upd H2 Wq (.lst (brest.map V.ref)) from rfl]
    generalize upd H2 Wq (.lst (brest.map V.ref)) = H3 at e12 hqt s1 ⊢
    refine tFor_list (a := la) (xs := xs.map V.ref) (fun R r => ⟨_, rfl, p, _, _, _, _, rfl, e12 hp, T.c_Knots, T.n_Knots_pieces, rfl, _, rfl, hb, _, _, _, rfl, rfl, sqt hqt, rfl, pcs, _, _, _, rfl, rfl, sql (e12 hls), atI_nat (by rw [List.getElem?_map, hlq]; rfl), r⟩) (sql (e12 hxs))
      (fun n σ H' => ∃ f' lt' qs' x6 x7 x8 x9 x10 x11 x12 x13, σ = [some (.ref p), some (.int (k : Int)), some (.ref F), some (.ref La), some (.ref Wq), some (.ref hb), x6, x7, x8, x9, x10, x11, x12, x13] ∧ H' hb = some (.tup [.int (q.1 : Int), .int q.2]) ∧
        S8 N H F La Wq f' lt' qs' H' ∧ SInv N (pcOf pl) k f' qs' (some (q.1, q.2, n)) ∧ valV f' (stK q.1 q.2) = some (.int (M0 : Int)) ∧ 2 * phi N f' + qs'.length < 2 * phi N f + (q :: qs).length) ?_ (fun n σ H' _ p => ?_) (fun n x σ H' H4 hn w y => ?_) fun σ H' w => ?_
    · exact ⟨f, lt, qs, _, _, _, _, _, _, _, _, rfl, hqt, s1, sk, hm0, by rw [List.length_cons]; omega⟩
    · obtain ⟨f', lt', qs', _, _, _, _, _, _, _, _, _, _, s2, _⟩ := p
      exact sql (s2.ex _ _ hxs)
    · obtain ⟨f', lt', qs', y6, y7, y8, y9, y10, y11, y12, y13, rfl, hqt4, s2, si2, hm2, lt2⟩ := w
      obtain ⟨rfl, hx⟩ := y
      rw [List.length_map] at hn
      rw [List.getElem?_map, List.getElem?_eq_getElem hn] at hx
      have hx : some (V.ref xs[n]) = some x := hx
      cases hx
      obtain ⟨z, hz, hzt⟩ := pr_at hpx (List.getElem?_eq_getElem hn)
      have hzt := s2.ex _ _ hzt
      have hed : (pcOf pl q.1)[n]? = some z.ed := by rw [hpq, List.getElem?_map, hz]; rfl
      have hem := List.mem_of_getElem? hed
      dsimp only [tCKw, tM1, tVals, tVar, tC, tB, tAnd, tOr, tNot, tAndV, tOrV, tNotV, tIf, tNext, tSeq, tBreak, tCont, tDrop, tRet, tRetN, tIfS, tNever, gName, gNil, gCons, gTup, gSub, tAsg, tPar, tAug, tTest, tChain, tFld, sFld, tNil, tCons, tTup, tLst, tCall, tMeth, tCB, tBM, tNoPart, tPart, tSl, tOp, tUn, rI, rI0, rU, iList, iTup, iRng1, iRng2, iStr, iEnum, iZip, iItems, iVals, tDGet, tDIn, tDNotIn, sDPut, tDGet2, tDNewK, tDNewT, tYes, fin, List.cons_append, List.nil_append, bx, cxOf, Cx.nox]
      refine ⟨_, rfl, _, _, rfl, sqt hzt, rfl, _, _, rfl, _, _, rfl, _, _, rfl, _, _, rfl, _, _, rfl, rfl, ?_⟩
      refine ⟨_, rfl, _, rfl, hb, _, _, _, rfl, rfl, sqt hqt4, rfl, _, rfl, _, _, rfl, rfl, Nat.le_of_ble_eq_true rfl, fun t2 ht2 => ?_⟩
      have eT : Ex H4 (upd H4 t2 (.tup [.int (z.o : Int), .int (q.2 + z.u)])) := Evl.Ex.new ht2
      have hT2 : upd H4 t2 (.tup [.int (z.o : Int), .int (q.2 + z.u)]) t2 = some (.tup [.int (z.o : Int), .int (q.2 + z.u)]) := upd_same
      replace s2 := s2.mono eT
      replace hqt4 := eT _ _ hqt4
      replace hzt := eT _ _ hzt
      generalize upd H4 t2 (.tup [.int (z.o : Int), .int (q.2 + z.u)]) = H5 at s2 hT2 hqt4 hzt ⊢
      refine ⟨_, rfl, t2, _, _, _, rfl, rfl, sqt hT2, rfl, _, rfl, _, rfl, p, _, _, _, _, rfl, s2.ex _ _ hp, T.c_Knots, T.n_Knots_pieces, rfl, pcs, _, rfl, .inl (sql (s2.ex _ _ hls)), _, _, rfl, rfl, _, rfl, _, rfl, ?_⟩
      rw [List.length_map, hll, ok.len]
      by_cases near : -(N : Int) ≤ q.2 + z.u ∧ q.2 + z.u ≤ N
      · rw [decide_eq_true (show (if q.2 + z.u < 0 then -(q.2 + z.u) else q.2 + z.u) ≤ (N : Int) by split <;> omega)]
        have hab : (if z.b - z.a < 0 then -(z.b - z.a) else z.b - z.a) = ((z.ed.l : Nat) : Int) := by
          show _ = (((z.b - z.a).natAbs : Nat) : Int)
          split <;> omega
        have hfew := si2.few G hk
        refine ⟨_, rfl, _, rfl, _, rfl, _, rfl, F, _, rfl, .inr ⟨_, stK q.1 q.2, hb, .inl s2.hF, rfl, hqt4, hm2.symm⟩, _, rfl, _, rfl, _, _, rfl, rfl, _, rfl, _, _, rfl, rfl, F, _, _, rfl, .inr ⟨f', stK z.o (q.2 + z.u), t2, rfl, hT2, s2.hF, fun v hv => ?_, by omega, _, rfl, ?_⟩⟩
        · obtain ⟨x, ex, _⟩ := si2.lab hv
          exact ⟨x, ex⟩
        rw [hab]
        cases hp : lePut f' (stK z.o (q.2 + z.u)) ((M0 : Int) + (z.ed.l : Nat)) with
        | true =>
          rw [show leastPut f' (stK z.o (q.2 + z.u)) ((M0 : Int) + (z.ed.l : Nat)) = f' by unfold leastPut; rw [hp]; rfl, upd_id s2.hF]
          exact ⟨f', lt', qs', _, _, _, _, _, _, _, _, rfl, hqt4, s2, si2.skip hm2 hed fun _ _ => hp, hm2, lt2⟩
        | false =>
          rw [show leastPut f' (stK z.o (q.2 + z.u)) ((M0 : Int) + (z.ed.l : Nat)) = putK f' (stK z.o (q.2 + z.u)) (.int ((M0 : Int) + (z.ed.l : Nat))) by unfold leastPut; rw [hp]; rfl]
          have l12 := ok.l12 _ _ hem
          have si3 : SInv N (pcOf pl) k (putK f' (stK z.o (q.2 + z.u)) (.int ((M0 : Int) + (z.ed.l : Nat)))) (if q.2 + z.u < 1 then qs' ++ [(z.o, q.2 + z.u)] else qs') (some (q.1, q.2, n + 1)) := si2.put G hm2 hed l12 near.1 near.2 hp
          have fl : phi N (putK f' (stK z.o (q.2 + z.u)) (.int ((M0 : Int) + (z.ed.l : Nat)))) < phi N f' := si2.falls G hk hm2 hed l12 near.1 near.2 hp
          have ne : ¬ stK q.1 q.2 = stK z.o (q.2 + z.u) := fun e => by
            rw [← e, lePut_self hm2 (by omega)] at hp
            cases hp
          have hm3 : valV (putK f' (stK z.o (q.2 + z.u)) (.int ((M0 : Int) + (z.ed.l : Nat)))) (stK q.1 q.2) = some (.int (M0 : Int)) := by
            rw [valV_put, if_neg ne]
            exact hm2
          have hFa := s2.hF
          have sF : S8 N H F La Wq (putK f' (stK z.o (q.2 + z.u)) (.int ((M0 : Int) + (z.ed.l : Nat)))) lt' qs' (upd H5 F (.dT (putK f' (stK z.o (q.2 + z.u)) (.int ((M0 : Int) + (z.ed.l : Nat)))))) := by
            obtain ⟨bs2, hb1, hb2⟩ := s2.hW
            exact ⟨s2.ex.mut hF, upd_same, by rw [upd_ne nLF]; exact s2.hL, ⟨bs2, up_keep hFa hb1 (fun z => nomatch z), pr_mono hb2 fun _ _ h => up_keep hFa h (fun z => nomatch z)⟩, s2.nl, s2.kl⟩
          have hT3 := up_keep (o' := .dT (putK f' (stK z.o (q.2 + z.u)) (.int ((M0 : Int) + (z.ed.l : Nat))))) hFa hT2 (fun z => nomatch z)
          have hqt5 := up_keep (o' := .dT (putK f' (stK z.o (q.2 + z.u)) (.int ((M0 : Int) + (z.ed.l : Nat))))) hFa hqt4 (fun z => nomatch z)
          generalize upd H5 F (.dT (putK f' (stK z.o (q.2 + z.u)) (.int ((M0 : Int) + (z.ed.l : Nat))))) = H6 at sF hT3 hqt5 ⊢
          refine ⟨_, rfl, _, rfl, Nat.le_of_ble_eq_true rfl, fun t3 ht3 => ?_⟩
          have e6 : Ex H6 (upd H6 t3 (.tup [.ref hb, .ref xs[n]])) := Evl.Ex.new ht3
          replace sF := sF.mono e6
          replace hT3 := e6 _ _ hT3
          replace hqt5 := e6 _ _ hqt5
          generalize upd H6 t3 (.tup [.ref hb, .ref xs[n]]) = H7 at sF hT3 hqt5 ⊢
          have fewl := few_keys sF.nl sF.kl
          refine ⟨_, rfl, _, rfl, La, _, rfl, DPut.t (k := stK z.o (q.2 + z.u)) sF.hL hT3 (Evl.sz_lt (by omega)), ?_⟩
          have kT : S8 N H F La Wq (putK f' (stK z.o (q.2 + z.u)) (.int ((M0 : Int) + (z.ed.l : Nat)))) (putK lt' (stK z.o (q.2 + z.u)) (.ref t3)) qs' (upd H7 La (.dT (putK lt' (stK z.o (q.2 + z.u)) (.ref t3)))) := by
            have hLa7 := sF.hL
            obtain ⟨bs2, hb1, hb2⟩ := sF.hW
            refine ⟨sF.ex.mut hLn, by rw [upd_ne nLF.symm]; exact sF.hF, upd_same, ⟨bs2, up_keep hLa7 hb1 (fun z => nomatch z), pr_mono hb2 fun _ _ h => up_keep hLa7 h (fun z => nomatch z)⟩, nodup_putK _ _ sF.nl, fun kv hkv => ?_⟩
            rcases mem_putK sF.nl (j := kv.1) (w := kv.2) hkv with ⟨e, _⟩ | hkv
            · exact ⟨z.o, q.2 + z.u, e, G.lt _ _ hqN hem, near⟩
            · exact sF.kl kv hkv
          have hT4 := up_keep (o' := .dT (putK lt' (stK z.o (q.2 + z.u)) (.ref t3))) sF.hL hT3 (fun z => nomatch z)
          have hqt6 := up_keep (o' := .dT (putK lt' (stK z.o (q.2 + z.u)) (.ref t3))) sF.hL hqt5 (fun z => nomatch z)
          generalize upd H7 La (.dT (putK lt' (stK z.o (q.2 + z.u)) (.ref t3))) = H8 at kT hT4 hqt6 ⊢
          refine ⟨_, rfl, t2, _, _, _, rfl, rfl, sqt hT4, rfl, _, _, rfl, rfl, _, rfl, ?_⟩
          by_cases c1 : q.2 + z.u < 1
          · rw [decide_eq_true c1]
            rw [if_pos c1] at si3
            obtain ⟨bs2, hb1, hb2⟩ := kT.hW
            have hlen : bs2.length ≤ 2 * phi N f + (q :: qs).length := by
              have := pr_len hb2
              omega
            refine ⟨_, rfl, .inl ⟨rfl, _, sql hb1⟩, _, rfl, Wq, _, _, rfl, rfl, hb1, ?_, ?_⟩
            · refine Nat.lt_of_le_of_lt (m := 16500000) (by rw [List.length_map]; omega) ?_
              decide
            · refine ⟨_, _, qs' ++ [(z.o, q.2 + z.u)], _, _, _, _, _, _, _, _, rfl, up_keep hb1 hqt6 (fun z => nomatch z), ⟨kT.ex.mut hWn, by rw [upd_ne nWF.symm]; exact kT.hF, by rw [upd_ne nWL.symm]; exact kT.hL, ⟨bs2 ++ [t2], ?_, ?_⟩, kT.nl, kT.kl⟩, si3, hm3, by rw [List.length_append, List.length_singleton]; omega⟩
              · rw [upd_same, List.map_append]
                rfl
              · exact Paired.snoc (pr_mono hb2 fun _ _ h => up_keep hb1 h (fun z => nomatch z)) (up_keep hb1 hT4 (fun z => nomatch z))
          · rw [decide_eq_false c1]
            rw [if_neg c1] at si3
            exact ⟨_, _, qs', _, _, _, _, _, _, _, _, rfl, hqt6, kT, si3, hm3, by omega⟩
      · rw [decide_eq_false (show ¬ (if q.2 + z.u < 0 then -(q.2 + z.u) else q.2 + z.u) ≤ (N : Int) by split <;> omega)]
        exact ⟨f', lt', qs', _, _, _, _, _, _, _, _, rfl, hqt4, s2, si2.skip hm2 hed fun h1 h2 => absurd ⟨h1, h2⟩ near, hm2, lt2⟩
    · obtain ⟨f', lt', qs', _, _, _, _, _, _, _, _, rfl, _, s2, si2, _, lt2⟩ := w
      rw [List.length_map] at si2
      have en : xs.length = (pcOf pl q.1).length := by rw [hpq, List.length_map, pr_len hpx]
      rw [en] at si2
      exact ⟨_, lt2, f', lt', qs', _, _, _, _, _, _, _, _, _, rfl, s2, si2.done, rfl, by omega⟩
end
end K33


set_option Elab.async false
set_option linter.all false
set_option maxRecDepth 100000
set_option maxHeartbeats 8000000
namespace K33
open PySem PySem.Spec PyProof.Rows L2 K33M
theorem dc_it {J : It} {n : Nat} {G : Hp → Prop} {Y : Nat → Hp → V → Hp → Prop} (w : Walk J n G Y) {g : TG} {tt : TT} {tk tv : TE} {vs : List Nat} {σ : L2.St} {H1 : Hp} {D : Addr} {Qd : Hp → Prop} (Pv : Nat → Hp → Prop) (h0 : Pv 0 (upd H1 D (.dK []))) (hG : ∀ i H, i ≤ n → Pv i H → G H)
    (hs : ∀ i x H H', i < n → Pv i H → Y i H x H' → g x (wipe σ vs) H' fun σ2 H2 => wipe σ2 vs = wipe σ vs ∧ tt σ2 H2 fun b H3 =>
      if b = true then tk σ2 H3 fun y H4 => tv σ2 H4 fun z H5 => ∃ kvs k, y = kV k ∧ H5 D = some (.dK kvs) ∧ kvs.length < sizeLine ∧ Pv (i + 1) (upd H5 D (.dK (putK kvs k z))) else Pv (i + 1) H3) (hd : ∀ H, Pv n H → Qd H) :
    ∃ W : Nat → Nat → Hp → Prop, (∃ m, W 0 m (upd H1 D (.dK []))) ∧ ∀ i m H, W i m H →
      (J.stop i H ∧ Qd H) ∨ (J.go i H ∧ ∃ Nx : Hp → Prop, (∀ H', Nx H' → ∃ m', m' < m ∧ W (i + 1) m' H') ∧ ∀ x H', J.yld i H x H' → g x (wipe σ vs) H' fun σ2 H2 => wipe σ2 vs = wipe σ vs ∧ tt σ2 H2 fun b H3 =>
        if b = true then tk σ2 H3 fun y H4 => tv σ2 H4 fun z H5 => ∃ kvs k, y = kV k ∧ H5 D = some (.dK kvs) ∧ kvs.length < sizeLine ∧ Nx (upd H5 D (.dK (putK kvs k z))) else Nx H3) := by
  refine ⟨fun i m H => m = n - i ∧ i ≤ n ∧ Pv i H, ⟨n, by simp, Nat.zero_le _, h0⟩, ?_⟩
  rintro i m H ⟨rfl, hi, p⟩
  have q := hG i H hi p
  by_cases hlt : i < n
  · refine .inr ⟨w.goes i H hlt q, Pv (i + 1), fun H' p' => ⟨n - (i + 1), by omega, rfl, hlt, p'⟩, fun x H' y => hs i x H H' hlt p (w.yields i H x H' hlt q y)⟩
  · have e : i = n := by omega
    subst e
    exact .inl ⟨w.stops H q, hd H p⟩
theorem walk_itemsT {d : Addr} {o : Obj} {kvs : List (List Key × V)} : Walk (Itit d o kvs) kvs.length (fun H => H d = some (.frz o (.dT kvs))) (fun i H x H' => ∃ T k v q, kvs[i]? = some (k, v) ∧ H q = some (.tup (k.map kV)) ∧ x = .ref T ∧ H T = none ∧ H' = upd H T (.tup [.ref q, v])) :=
  ⟨fun _ _ hi q => ⟨q, hi⟩, fun _ q => ⟨q, Nat.le_refl _⟩, fun _ _ _ _ _ _ y => y⟩
theorem LS.putl {κ : Type} [DecidableEq κ] {C D : κ → Int → Prop} {kvs : List (κ × V)} (h : LS C D kvs) {k : κ} {L : Int} (hC : C k L) (hl : ∀ L', C k L' → L ≤ L') : LS C (fun k' L' => D k' L' ∨ (k' = k ∧ L' = L)) (putK kvs k (.int L)) := by
  refine ⟨nodup_putK k _ h.nd, fun j w m => ?_, fun j L' d => ?_⟩
  · rcases mem_putK h.nd m with ⟨rfl, rfl⟩ | m
    · exact ⟨L, rfl, hC⟩
    · exact h.sound j w m
  · rw [valV_put]
    split
    · next e =>
      subst e
      rcases d with d | ⟨_, rfl⟩
      · obtain ⟨m, em, hm⟩ := h.least j L' d
        obtain ⟨m', e', hc⟩ := h.sound j _ (valV_in em)
        injection e' with e'
        subst e'
        exact ⟨L, rfl, by have := hl _ hc; omega⟩
      · exact ⟨L', rfl, Int.le_refl _⟩
    · next e =>
      rcases d with d | ⟨rfl, _⟩
      · exact h.least j L' d
      · exact absurd rfl e
/-- the m-fold rises from the knot k -/
def RowC (N : Nat) (pc : Nat → List Ed) (m k : Nat) : Key → Int → Prop := fun key L => ∃ l Ln : Nat, key = .inl (l : Int) ∧ L = (Ln : Int) ∧ Ris N pc m k l Ln
theorem rowC_one {N : Nat} {pc : Nat → List Ed} {a : Nat} {key : Key} {L : Int} : RowC N pc 1 a key L ↔ ∃ l Ln : Nat, key = .inl (l : Int) ∧ L = (Ln : Int) ∧ SW N pc a l 1 Ln := by
  unfold RowC
  constructor
  · rintro ⟨l, Ln, e1, e2, h⟩
    exact ⟨l, Ln, e1, e2, Ris.one.mp h⟩
  · rintro ⟨l, Ln, e1, e2, h⟩
    exact ⟨l, Ln, e1, e2, Ris.one.mpr h⟩
theorem rowC_knot {N : Nat} {pc : Nat → List Ed} (G : Gr N pc) {m k : Nat} (hk : k < N) : Knot N (RowC N pc m k) := fun key L ⟨l, Ln, e1, _, h⟩ => ⟨l, h.lt G hk, e1⟩
def sp_Knots_rises (K : PySem.W.Frag) : Sp := fun vs H Q _ => ∃ (p dx sp n pcs pw kr : Addr) (k N : Nat) (pl : List (List Pc)), vs = [.ref p, .int (k : Int)] ∧ H p = some (.ins (cN K) dx (knF sp n pcs pw kr)) ∧ PcsAt H pcs pl ∧ PlOk N pl ∧ k < N ∧
  ∀ f H' kvs, H f = none → Ex H H' → H' f = some (.dK kvs) → LD (RowC N (pcOf pl) 1 k) kvs → Q (.ref f) H'
section
variable {P : Program} {w : World} {K : PySem.W.Frag} {mg : Str → Option Value} {base : Heap}
theorem o_Knots_rises (T : Tx K mg) : FO P w K mg base 3 (He.ma K (He.ga K "Knots") "rises") ["self", "number"] (sp_Knots_rises K) := def_ok T.f_Knots_rises sc_Knots_rises (fun _ _ _ _ _ _ us hl => match us, hl with | [_, _], _ => rfl)
    (fun _ _ _ _ h => by obtain ⟨_, _, _, _, _, _, _, _, _, _, rfl, _⟩ := h; rfl) fun cdv A outer s H vs Q E hr h => by
  have hu := hu_of hr
  obtain ⟨p, dx, sp, nu, pcs, pw, kr, k, N, pl, rfl, hp, hpc, ok, hk, hQ⟩ := h
  refine ⟨_, (pss_cons (ps_asg (c_m (pv 0) T.c_Knots T.m_Knots_search (o_Knots_search T) (hr.mono (by decide)) (pa_cons (pv 1) pa_nil)) (pg_tup rfl (pgs_cons (pg_name (i := 2) sc_Knots_rises.nd rfl (.inl rfl)) (pgs_cons (pg_name (i := 3) sc_Knots_rises.nd rfl (.inl rfl)) pgs_nil))))
      (pss_one (ps_ret (pe_lock (pe_dc (own := [("knot", 4), ("total", 5), ("length", 6)]) rfl sc_Knots_rises.nd (pi_itemsT (pv 2)) (blkOk_by (by rfl)) (fun _ _ _ _ _ => (pg_tupK (K := K) 2 rfl rfl (pgs_cons (pg_tupK (K := K) 2 rfl rfl (pgs_cons (pg_name (i := 4) sc_Knots_rises.nd rfl (.inl rfl)) (pgs_cons (pg_name (i := 5) sc_Knots_rises.nd rfl (.inl rfl)) pgs_nil))) (pgs_cons (pg_name (i := 6) sc_Knots_rises.nd rfl (.inl rfl)) pgs_nil)))) (fun _ _ _ _ _ => (pts_one (pt_cmpR op_eq (pv 5) pe_int (nomark _)))) (fun _ _ _ _ _ => (pv 4)) (fun _ _ _ _ _ => (pv 6))))))), ?_⟩
  dsimp only [tCKw, tM1, tVals, tVar, tC, tB, tAnd, tOr, tNot, tAndV, tOrV, tNotV, tIf, tNext, tSeq, tBreak, tCont, tDrop, tRet, tRetN, tIfS, tNever, gName, gNil, gCons, gTup, gSub, tAsg, tPar, tAug, tTest, tChain, tFld, sFld, tNil, tCons, tTup, tLst, tCall, tMeth, tCB, tBM, tNoPart, tPart, tSl, tOp, tUn, rI, rI0, rU, iList, iTup, iRng1, iRng2, iStr, iEnum, iZip, iItems, iVals, tDGet, tDIn, tDNotIn, sDPut, tDGet2, tDNewK, tDNewT, tYes, fin, List.cons_append, List.nil_append, bx, cxOf, Cx.nox]
  refine ⟨_, rfl, p, _, _, rfl, hp, rfl, _, rfl, p, dx, sp, nu, pcs, pw, kr, k, N, pl, rfl, hp, hpc, ok, hk, fun r f l H1 kvs e1 hr hf ld hlen => ?_⟩
  refine ⟨_, _, rfl, sqt hr, rfl, _, _, rfl, _, _, rfl, rfl, f, _, hf, True.intro, fun od => ?_⟩
  refine ⟨_, rfl, f, od, kvs, rfl, upd_same, fun D hD => ?_⟩
  have hDf : D ≠ f := fun z => by rw [z, upd_same] at hD; cases hD
  have hD1 : H1 D = none := by rw [upd_ne hDf] at hD; exact hD
  let Dn : Nat → Key → Int → Prop := fun i key L => ∃ j l : Nat, j < i ∧ key = .inl (l : Int) ∧ kvs[j]? = some (stK l 1, .int L)
  refine dc_it walk_itemsT (fun i H' => Ex (upd H1 f (.frz od (.dT kvs))) H' ∧ ∃ rw, H' D = some (.dK rw) ∧ LS (RowC N (pcOf pl) 1 k) (Dn i) rw) ?_ (fun i H' _ p => p.1 _ _ upd_same) (fun i x H2 H' hi p y => ?_) fun H' p => ?_
  · refine ⟨Evl.Ex.new hD, [], upd_same, List.nodup_nil, (fun _ _ m => nomatch m), ?_⟩
    rintro key L ⟨j, l, hj, _⟩
    exact absurd hj (Nat.not_lt_zero _)
  · obtain ⟨e2, rw', hrw, ls⟩ := p
    obtain ⟨T0, ks, v, q, hks, hq, rfl, hT, rfl⟩ := y
    obtain ⟨L, rfl, l', s', Ln, rfl, rfl, sw⟩ := ld.sound ks v (List.mem_of_getElem? hks)
    have e3 : Ex H2 (upd H2 T0 (.tup [.ref q, .int (Ln : Int)])) := Evl.Ex.new hT
    have hq' := e3 _ _ hq
    have lenr : rw'.length ≤ N := len_of_keys ls.nd fun key v hkv => by
      obtain ⟨L, _, hc⟩ := ls.sound key v hkv
      exact rowC_knot ok.gr hk key L hc
    have n20 := ok.n20
    dsimp only [tCKw, tM1, tVals, tVar, tC, tB, tAnd, tOr, tNot, tAndV, tOrV, tNotV, tIf, tNext, tSeq, tBreak, tCont, tDrop, tRet, tRetN, tIfS, tNever, gName, gNil, gCons, gTup, gSub, tAsg, tPar, tAug, tTest, tChain, tFld, sFld, tNil, tCons, tTup, tLst, tCall, tMeth, tCB, tBM, tNoPart, tPart, tSl, tOp, tUn, rI, rI0, rU, iList, iTup, iRng1, iRng2, iStr, iEnum, iZip, iItems, iVals, tDGet, tDIn, tDNotIn, sDPut, tDGet2, tDNewK, tDNewT, tYes, fin, List.cons_append, List.nil_append, bx, cxOf, Cx.nox]
    refine ⟨_, _, rfl, sqt upd_same, rfl, _, _, rfl, ⟨_, _, rfl, sqt hq', rfl, _, _, rfl, _, _, rfl, rfl, _, _, rfl, rfl, rfl, ?_⟩⟩
    refine ⟨_, rfl, rfl, _, rfl, ?_⟩
    by_cases c : s' = 1
    · subst c
      rw [decide_eq_true (show kV (.inl 1) = V.int 1 from rfl)]
      refine ⟨_, rfl, _, rfl, rw', .inl (l' : Int), rfl, e3 _ _ hrw, Evl.sz_lt (by omega), (e2.trans e3).mut hD, _, upd_same, ?_⟩
      obtain ⟨mL, emL, _, hmin⟩ := ld.at (valV_nd ld.nd (List.mem_of_getElem? hks))
      injection emL with emL
      refine (ls.putl (k := .inl (l' : Int)) (L := (Ln : Int)) (rowC_one.mpr ⟨l', Ln, rfl, rfl, sw⟩) fun L' hc => ?_).mono ?_
      · obtain ⟨l2, Ln2, e5, rfl, sw2⟩ := rowC_one.mp hc
        have e5 := Sum.inl.inj e5
        have e6 : l' = l2 := by omega
        subst e6
        have := hmin _ ⟨l', 1, Ln2, rfl, rfl, sw2⟩
        omega
      · rintro key L ⟨j, l, hj, e5, e6⟩
        by_cases cj : j < i
        · exact .inl ⟨j, l, cj, e5, e6⟩
        · have : j = i := by omega
          subst this
          rw [hks] at e6
          have e7 := Option.some.inj e6
          have e8 := stK_inj (congrArg Prod.fst e7)
          have e9 : (Ln : Int) = L := by have := congrArg Prod.snd e7; injection this
          exact .inr ⟨by rw [e5, e8.1], e9.symm⟩
    · rw [decide_eq_false (show ¬ kV (.inl s') = V.int 1 by intro z; injection z with z; exact c z)]
      refine ⟨e2.trans e3, rw', e3 _ _ hrw, ls.mono ?_⟩
      rintro key L ⟨j, l, hj, e5, e6⟩
      by_cases cj : j < i
      · exact ⟨j, l, cj, e5, e6⟩
      · have : j = i := by omega
        subst this
        rw [hks] at e6
        have e7 := congrArg Prod.fst (Option.some.inj e6)
        exact absurd (stK_inj e7).2 c
  · obtain ⟨e2, rw', hrw, ls⟩ := p
    refine ⟨e2 _ _ upd_same, hQ D _ rw' (Evl.fresh_back e1 hD1) ?_ (by rw [upd_ne hDf]; exact hrw) (ls.ld ?_)⟩
    · intro x o hx
      by_cases hxf : x = f
      · rw [hxf, upd_same, ← hf, ← hxf, e1 _ _ hx]
      · rw [upd_ne hxf]
        exact e2 _ _ (by rw [upd_ne hxf]; exact e1 _ _ hx)
    · intro key L hc
      obtain ⟨l, Ln, rfl, rfl, sw⟩ := rowC_one.mp hc
      obtain ⟨m, em, hm⟩ := ld.least _ _ ⟨l, 1, Ln, rfl, rfl, sw⟩
      obtain ⟨j, hj⟩ := List.getElem?_of_mem (valV_in em)
      exact ⟨m, ⟨j, l, (List.getElem?_eq_some_iff.mp hj).1, rfl, hj⟩, hm⟩
end
end K33


set_option Elab.async false
set_option linter.all false
set_option maxRecDepth 100000
set_option maxHeartbeats 1000000
/-! xs == [], whatever the items are. -/
namespace K33M
open PySem PySem.Spec PyProof.Rows L2 K33
def rEqNil (K : PySem.W.Frag) : R2 := fun x y H Q => ∃ a b xs, x = .ref a ∧ y = .ref b ∧ SqL K H a xs ∧ SqL K H b [] ∧ Q (.bl xs.isEmpty) H
theorem op_eqNil {X : Cx} (hu : X.A.units < cLine) : OpR X (compareOp .Eq) (rEqNil X.K) := by
  intro pins s σ H x y v u Q I rx ry h
  obtain ⟨a, b, xs, rfl, rfl, ha, hb, q⟩ := h
  cases rx
  cases ry
  obtain ⟨its, r1, p1, _⟩ := I.list ha
  obtain ⟨its2, r2, p2, _⟩ := I.list hb
  cases r2
  show wpAny (model X.prog X.w) X.A (richCompare .Eq (.ref a) (.ref b)) _ _ _
  have l1 : its.length = xs.length := (Paired.length r1).symm
  cases xs with
  | nil =>
    cases r1
    exact SeqAt.RcAt.lists (e := fun _ => true) p1.isList p2.isList rfl hu (fun j h1 _ => absurd h1 (Nat.not_lt_zero _)) X.prog X.w _ _ ⟨.bl true, H, I, rfl, q⟩
  | cons z zs =>
    refine SeqAt.RcAt.lists_lengths p1.isList p2.isList ?_ hu X.prog X.w _ _ ⟨.bl false, H, I, rfl, q⟩
    have : its.toArray.size ≠ (#[] : Array Value).size := by
      rw [List.size_toArray, l1]
      exact fun z => nomatch z
    simpa using this
end K33M


set_option Elab.async false
set_option linter.all false
set_option maxRecDepth 100000
set_option maxHeartbeats 8000000
namespace K33
open PySem PySem.Spec PyProof.Rows L2 K33M
def RowD (N : Nat) (pc : Nat → List Ed) (m : Nat) : Nat → Key → Int → Prop := fun k key L => k < N ∧ RowC N pc m k key L
theorem leg_row {N : Nat} {pc : Nat → List Ed} (G : Gr N pc) {m m' k : Nat} {key : Key} {L : Int} : Leg (RowD N pc m k) (RowD N pc m') key L ↔ RowD N pc (m + m') k key L := by
  unfold Leg RowD RowC
  constructor
  · rintro ⟨j, L1, L2, ⟨hk, l, Ln, e1, rfl, h1⟩, ⟨hj, l2, Ln2, rfl, rfl, h2⟩, rfl⟩
    have e1 := Sum.inl.inj e1
    have e2 : j = l := by omega
    subst e2
    exact ⟨hk, l2, Ln + Ln2, rfl, by omega, (Ris.add m m' k l2 _).mpr ⟨j, Ln, Ln2, h1, h2, rfl⟩⟩
  · rintro ⟨hk, l, Ln, rfl, rfl, h⟩
    obtain ⟨j, L1, L2, h1, h2, rfl⟩ := (Ris.add m m' k l Ln).mp h
    exact ⟨j, L1, L2, ⟨hk, j, L1, rfl, rfl, h1⟩, ⟨h1.lt G hk, l, L2, rfl, rfl, h2⟩, by omega⟩
theorem rowD_knot {N : Nat} {pc : Nat → List Ed} (G : Gr N pc) {m k : Nat} : Knot N (RowD N pc m k) := fun key L ⟨hk, h⟩ => rowC_knot G hk key L h
def PowRow (H : Hp) (a : Addr) (N : Nat) (pc : Nat → List Ed) (i : Nat) : Prop := ∃ rs : List Addr, H a = some (.lst (rs.map V.ref)) ∧ rs.length = N ∧ RowsAt H rs (RowD N pc (2 ^ i))
theorem PowRow.mono {H H' : Hp} (e : Ex H H') {a : Addr} {N : Nat} {pc : Nat → List Ed} {i : Nat} (h : PowRow H a N pc i) : PowRow H' a N pc i := let ⟨rs, h1, h2, h3⟩ := h; ⟨rs, e _ _ h1, h2, h3.mono e⟩
def PowAt (H : Hp) (pw : Addr) (N : Nat) (pc : Nat → List Ed) : Prop := ∃ as : List Addr, H pw = some (.lst (as.map V.ref)) ∧ as.length ≤ 100 ∧ ∀ i a, as[i]? = some a → PowRow (hid pw H) a N pc i
theorem PowAt.mono {H H' : Hp} {pw : Addr} (e : Ex H H') {N : Nat} {pc : Nat → List Ed} (h : PowAt H pw N pc) : PowAt H' pw N pc := let ⟨as, h1, h2, h3⟩ := h; ⟨as, e _ _ h1, h2, fun i a ha => (h3 i a ha).mono (hid_mono e)⟩
theorem hid_upd {p : Addr} {H : Hp} {o : HO} : hid p (upd H p o) = hid p H := by
  funext a
  by_cases e : a = p
  · subst e
    rw [hid_same, hid_same]
  · rw [hid_ne e, hid_ne e, upd_ne e]
theorem rows_of {H : Hp} {ys : List V} {N : Nat} {D : Nat → Key → Int → Prop} (h : Paired (fun (i : Nat) (y : V) => ∃ f, y = V.ref f ∧ ∃ kvs, H f = some (.dK kvs) ∧ LD (D i) kvs) (List.range N) ys) : ∃ fs : List Addr, ys = fs.map V.ref ∧ fs.length = N ∧ RowsAt H fs D := by
  obtain ⟨fs, e, hp⟩ := refs_of (R := fun f i => ∃ kvs, H f = some (.dK kvs) ∧ LD (D i) kvs) h
  have hl := pr_len hp
  rw [List.length_range] at hl
  refine ⟨fs, e, hl, fun i a ha => ?_⟩
  obtain ⟨j, hj, q⟩ := pr_at hp ha
  have hi := (List.getElem?_eq_some_iff.mp ha).1
  rw [List.getElem?_range (by omega)] at hj
  cases hj
  exact q
def sp_Knots_power (K : PySem.W.Frag) : Sp := fun vs H Q _ => ∃ (p dx sp n pcs pw kr : Addr) (t N : Nat) (pl : List (List Pc)), vs = [.ref p, .int (t : Int)] ∧ hid pw H p = some (.ins (cN K) dx (knF sp n pcs pw kr)) ∧ PcsAt (hid pw H) pcs pl ∧ PlOk N pl ∧ PowAt H pw N (pcOf pl) ∧ t < 100 ∧
  ∀ a H', Ex (hid pw H) H' → PowAt H' pw N (pcOf pl) → PowRow (hid pw H') a N (pcOf pl) t → Q (.ref a) H'
section
variable {P : Program} {w : World} {K : PySem.W.Frag} {mg : Str → Option Value} {base : Heap}
theorem o_Knots_power (T : Tx K mg) : FO P w K mg base 4 (He.ma K (He.ga K "Knots") "power") ["self", "at"] (sp_Knots_power K) := def_ok T.f_Knots_power sc_Knots_power (fun _ _ _ _ _ _ us hl => match us, hl with | [_, _], _ => rfl)
    (fun _ _ _ _ h => by obtain ⟨_, _, _, _, _, _, _, _, _, _, rfl, _⟩ := h; rfl) fun cdv A outer s H vs Q E hr h => by
  have hu := hu_of hr
  obtain ⟨p, dx, sp, nu, pcs, pw, kr, t, N, pl, rfl, hp, hpc, ok, hpow, ht, hQ⟩ := h
  obtain ⟨ls, hls, hlp⟩ := id hpc
  have hll := pr_len hlp
  have n20 := ok.n20
  refine ⟨_, (pss_cons (ps_if (pt_cmpR (op_eqNil (Nat.lt_of_le_of_lt (Nat.le_add_right _ 64) hr.units)) (pe_fld (pv 0) rfl) (pe_lst pa_nil) (nomark _)) (pss_one (ps_expr (pe_bm PySem.F.plainAttrs_list PySem.F.slot_list_append PySem.F.type_list_append mt_append (pe_fld (pv 0) rfl) (pa_cons (pe_lc (own := [("number", 3)]) rfl sc_Knots_power.nd (pi_range1 (by rfl) T.z_range (pa_cons (pe_callB call_len_seq (by rfl) T.z_len (by decide +kernel) (pa_cons (pe_fld (pv 0) rfl) pa_nil)) pa_nil)) (blkOk_by (by rfl)) (fun _ _ _ _ _ => (pg_name (i := 3) sc_Knots_power.nd rfl (.inl rfl))) (fun _ _ _ _ _ => pts_nil) (fun _ _ _ _ _ => (c_m (pv 0) T.c_Knots T.m_Knots_rises (o_Knots_rises T) (hr.mono (by decide)) (pa_cons (pv 3) pa_nil)))) pa_nil)))) pss_nil)
      (pss_cons (ps_while PassesOwn.never (pt_cmpR op_le (pe_callB call_len_seq (by rfl) T.z_len (by decide +kernel) (pa_cons (pe_fld (pv 0) rfl) pa_nil)) (pv 1) (nomark _)) (pss_cons (ps_set (i := 2) sc_Knots_power.nd rfl (.inr rfl) (pe_ix ix_list (pe_fld (pv 0) rfl) (pe_un un_neg pe_int) (fun _ _ => rfl)))
        (pss_one (ps_expr (pe_bm PySem.F.plainAttrs_list PySem.F.slot_list_append PySem.F.type_list_append mt_append (pe_fld (pv 0) rfl) (pa_cons (pe_lc (own := [("row", 4)]) rfl sc_Knots_power.nd (pi_list (pv 2)) (blkOk_by (by rfl)) (fun _ _ _ _ _ => (pg_name (i := 4) sc_Knots_power.nd rfl (.inl rfl))) (fun _ _ _ _ _ => pts_nil) (fun _ _ _ _ _ => (c_fn (o_led_on T) T.g_led_on (hr.mono (by decide)) (pa_cons (pv 4) (pa_cons (pv 2) pa_nil))))) pa_nil))))))
      (pss_one (ps_ret (pe_ix ix_list (pe_fld (pv 0) rfl) (pv 1) (fun _ _ => rfl)))))), ?_⟩
  dsimp only [tCKw, tM1, tVals, tVar, tC, tB, tAnd, tOr, tNot, tAndV, tOrV, tNotV, tIf, tNext, tSeq, tBreak, tCont, tDrop, tRet, tRetN, tIfS, tNever, gName, gNil, gCons, gTup, gSub, tAsg, tPar, tAug, tTest, tChain, tFld, sFld, tNil, tCons, tTup, tLst, tCall, tMeth, tCB, tBM, tNoPart, tPart, tSl, tOp, tUn, rI, rI0, rU, iList, iTup, iRng1, iRng2, iStr, iEnum, iZip, iItems, iVals, tDGet, tDIn, tDNotIn, sDPut, tDGet2, tDNewK, tDNewT, tYes, fin, List.cons_append, List.nil_append, bx, cxOf, Cx.nox]
  have hV : Ex (hid pw H) H := hid_ex
  refine ⟨_, rfl, p, _, _, _, _, rfl, hV _ _ hp, T.c_Knots, T.n_Knots_powers, rfl, Nat.zero_le _, fun ne hne => ?_⟩
  have e0 : Ex H (upd H ne (.lst [])) := Evl.Ex.new hne
  have hne2 : upd H ne (.lst []) ne = some (.lst []) := upd_same
  replace hV := hV.trans e0
  replace hpow := hpow.mono e0
  generalize upd H ne (.lst []) = H0 at e0 hne2 hV hpow ⊢
  obtain ⟨as, has, hal, hrow⟩ := hpow
  -- what follows the first if
  have rest : ∀ (x2 x3 x4 : Option V) (H1 : Hp), Ex (hid pw H) H1 → PowAt H1 pw N (pcOf pl) → (∃ (a : Addr) (as : List Addr), H1 pw = some (.lst ((a :: as).map V.ref))) →
      tWhile (tTest (tOp (rI0 fun i j => .bl (decide (i ≤ j))) (tCB (fun xs H Q => ∃ p ys, xs = [.ref p] ∧ (SqL K H p ys ∨ SqT K H p ys) ∧ Q (.int ys.length) H) (tCons (tFld K (tVar 0) "powers") tNil)) (tVar 1)))
        (tSeq (tAsg (tOp (rIxL K) (tFld K (tVar 0) "powers") (tUn (rU fun i => .int (-i)) (tC (.int 1)))) (gName 2))
          (tDrop (tBM K "list" rAppend (tFld K (tVar 0) "powers") (tCons (tLc (iList K (tVar 2)) (gName 4) tYes (tCall sp_led_on [] E0 (tCons (tVar 4) (tCons (tVar 2) tNil))) [4]) tNil))))
        { nx := tRet (tOp (rIxL K) (tFld K (tVar 0) "powers") (tVar 1)) (fin Q), rt := Q } [some (.ref p), some (.int (t : Int)), x2, x3, x4] H1 := fun x2 x3 x4 H1 eV hpow ⟨a0, as0, has0⟩ => by
    obtain ⟨as1, has1, hal1, hrow1⟩ := hpow
    have ne1 : as1 ≠ [] := fun z => by
      rw [has0] at has1
      have := congrArg (fun o => o) has1
      injection this with this
      injection this with this
      rw [z] at this
      cases this
    refine ⟨fun m σ H' => ∃ x2 x3 x4 as, σ = [some (.ref p), some (.int (t : Int)), x2, x3, x4] ∧ Ex (hid pw H) H' ∧ H' pw = some (.lst (as.map V.ref)) ∧ as.length ≤ 100 ∧ as ≠ [] ∧ (∀ i a, as[i]? = some a → PowRow (hid pw H') a N (pcOf pl) i) ∧ m = 100 - as.length,
      ⟨_, x2, x3, x4, as1, rfl, eV, has1, hal1, ne1, hrow1, rfl⟩, fun m σ H2 hw => ?_⟩
    obtain ⟨x2, x3, x4, as, rfl, eV, has, hal, hne, hrow, rfl⟩ := hw
    dsimp only [tCKw, tM1, tVals, tVar, tC, tB, tAnd, tOr, tNot, tAndV, tOrV, tNotV, tIf, tNext, tSeq, tBreak, tCont, tDrop, tRet, tRetN, tIfS, tNever, gName, gNil, gCons, gTup, gSub, tAsg, tPar, tAug, tTest, tChain, tFld, sFld, tNil, tCons, tTup, tLst, tCall, tMeth, tCB, tBM, tNoPart, tPart, tSl, tOp, tUn, rI, rI0, rU, iList, iTup, iRng1, iRng2, iStr, iEnum, iZip, iItems, iVals, tDGet, tDIn, tDNotIn, sDPut, tDGet2, tDNewK, tDNewT, tYes, fin, List.cons_append, List.nil_append, bx, cxOf, Cx.nox]
    refine ⟨_, rfl, p, _, _, _, _, rfl, eV _ _ hp, T.c_Knots, T.n_Knots_powers, rfl, pw, _, rfl, .inl (sql has), _, rfl, _, _, rfl, rfl, _, rfl, ?_⟩
    rw [List.length_map]
    by_cases c : as.length ≤ t
    · rw [decide_eq_true (show (as.length : Int) ≤ (t : Int) by omega)]
      refine ⟨_, fun _ _ h => h, ?_⟩
      obtain ⟨ini, al, eas⟩ : ∃ ini al, as = ini ++ [al] := ⟨as.dropLast, as.getLast hne, (List.dropLast_concat_getLast hne).symm⟩
      have hai : as[ini.length]? = some al := by rw [eas]; simp
      obtain ⟨rs, hrs, hrl, hrr⟩ := hrow _ _ hai
      have hrs := hid_ex _ _ hrs
      have hlast : atI (as.map V.ref) (-1) = some (.ref al) := by
        rw [eas, List.map_append]
        exact atI_last _ _
      refine ⟨_, rfl, p, _, _, _, _, rfl, eV _ _ hp, T.c_Knots, T.n_Knots_powers, rfl, _, rfl, pw, _, _, .ref al, rfl, rfl, sql has, hlast, ?_⟩
      refine ⟨_, rfl, p, _, _, _, _, rfl, eV _ _ hp, T.c_Knots, T.n_Knots_powers, rfl, .inl ⟨rfl, _, sql has⟩, ?_⟩
      refine ⟨_, rfl, al, rfl, ⟨_, sql hrs⟩, ?_⟩
      have hpwal : al ≠ pw := fun z => by
        obtain ⟨rs', q, _⟩ := hrow _ _ hai
        rw [z, hid_same] at q
        cases q
      refine lc_pick (walk_list (xs := rs.map V.ref)) (fun _ => true) (fun k H y => ∃ f, y = V.ref f ∧ ∃ kvs, H f = some (.dK kvs) ∧ LD (RowD N (pcOf pl) (2 ^ (ini.length + 1)) k) kvs) (by rw [List.length_map, hrl]; omega) (fun H e => sql (e _ _ hrs))
        (fun i y H H' e ⟨f, e1, kvs, h1, h2⟩ => ⟨f, e1, kvs, e _ _ h1 (fun _ z => nomatch z), h2⟩) gm_name (fun i y Ha Hb hi e2 Y => ?_) fun L Ha ys hL e2 hys pk => ?_
      · obtain ⟨rfl, hy⟩ := Y
        rw [List.length_map] at hi
        rw [List.getElem?_map, List.getElem?_eq_getElem hi] at hy
        have hy : some (V.ref rs[i]) = some y := hy
        cases hy
        have hri : rs[i]? = some rs[i] := List.getElem?_eq_getElem hi
        obtain ⟨kvs, hkvs, ld⟩ := hrr i _ hri
        have hkvs := hid_ex _ _ hkvs
        refine ⟨rfl, fun Qy Qn k _ => ?_⟩
        refine ⟨_, rfl, _, rfl, rs[i], al, kvs, rs, RowD N (pcOf pl) (2 ^ ini.length) i, RowD N (pcOf pl) (2 ^ ini.length), N, rfl, e2 _ _ hkvs, ld, rowD_knot ok.gr, by omega, e2 _ _ hrs, hrl, fun j a ha => ?_, fun j => rowD_knot ok.gr, fun f kvs' H3 hf e3 hf3 ld3 => ?_⟩
        · obtain ⟨kv2, h1, h2⟩ := hrr j a ha
          exact ⟨kv2, e2 _ _ (hid_ex _ _ h1), h2⟩
        · refine k rfl _ _ e3 ⟨f, rfl, kvs', hf3, ld3.iff fun key L => ?_⟩
          rw [leg_row ok.gr, Nat.pow_succ, Nat.mul_two]
      · have pk2 := pk.all
        rw [List.length_map, hrl] at pk2
        obtain ⟨fs, efs, hfl, hfr⟩ := rows_of pk2
        have hLpw : L ≠ pw := fun z => by rw [z, has] at hL; cases hL
        have hap : (as.map V.ref ++ [V.ref L]) = (as ++ [L]).map V.ref := by rw [List.map_append]; rfl
        have elen : as.length = ini.length + 1 := by rw [eas]; simp
        refine ⟨pw, _, _, rfl, rfl, e2 _ _ has, Evl.sz_lt (by rw [List.length_map]; omega), 100 - (as ++ [L]).length, ?_, _, x3, x4, as ++ [L], rfl, ?_, ?_, ?_, ?_, ?_, rfl⟩
        · rw [List.length_append, List.length_singleton]
          omega
        · exact (eV.trans e2).mut hid_same
        · rw [upd_same, hap]
        · rw [List.length_append, List.length_singleton]
          omega
        · simp
        · intro i a ha
          rw [hid_upd]
          by_cases ci : i < as.length
          · rw [List.getElem?_append_left ci] at ha
            exact (hrow i a ha).mono (hid_mono e2)
          · have hi2 := (List.getElem?_eq_some_iff.mp ha).1
            rw [List.length_append, List.length_singleton] at hi2
            have : i = as.length := by omega
            subst this
            have ha : some L = some a := by rw [← ha]; simp
            cases ha
            rw [elen]
            refine ⟨fs, by rw [hid_ne hLpw, hys, efs], hfl, fun k b hb => ?_⟩
            obtain ⟨kvs, h1, h2⟩ := hfr k b hb
            refine ⟨kvs, ?_, h2⟩
            rw [hid_ne fun z => by rw [z, e2 _ _ has] at h1; cases h1]
            exact h1
    · rw [decide_eq_false (show ¬ (as.length : Int) ≤ (t : Int) by omega)]
      obtain ⟨a, ha⟩ := at_lt (l := as) (i := t) (by omega)
      refine ⟨_, rfl, p, _, _, _, _, rfl, eV _ _ hp, T.c_Knots, T.n_Knots_powers, rfl, _, rfl, pw, _, _, .ref a, rfl, rfl, sql has, atI_nat (by rw [List.getElem?_map, ha]; rfl), ?_⟩
      exact hQ a H2 eV ⟨as, has, hal, hrow⟩ (hrow _ _ ha)
  refine ⟨pw, ne, as.map V.ref, rfl, rfl, sql has, sql hne2, ⟨_, rfl, ?_⟩⟩
  cases as with
  | cons a0 as0 => exact rest _ _ _ H0 hV ⟨a0 :: as0, has, hal, hrow⟩ ⟨a0, as0, has⟩
  | nil =>
    refine ⟨_, rfl, p, _, _, _, _, rfl, hV _ _ hp, T.c_Knots, T.n_Knots_powers, rfl, .inl ⟨rfl, _, sql has⟩, ?_⟩
    refine ⟨_, rfl, p, _, _, _, _, rfl, hV _ _ hp, T.c_Knots, T.n_Knots_pieces, rfl, pcs, _, rfl, .inl (sql (hV _ _ hls)), _, rfl, ?_, ?_, ?_⟩
    · rw [List.length_map, hll, ok.len]
      omega
    · rw [List.length_map, hll, ok.len]
      omega
    refine lc_pick walk_range (fun _ => true) (fun k H y => ∃ f, y = V.ref f ∧ ∃ kvs, H f = some (.dK kvs) ∧ LD (RowD N (pcOf pl) (2 ^ 0) k) kvs) ?_ (fun _ _ => True.intro)
        (fun i y H H' e ⟨f, e1, kvs, h1, h2⟩ => ⟨f, e1, kvs, e _ _ h1 (fun _ z => nomatch z), h2⟩) gm_name (fun i y Ha Hb hi e2 Y => ?_) fun L Ha ys hL e2 hys pk => ?_
    · rw [List.length_map, hll, ok.len]
      omega
    · obtain ⟨rfl, rfl⟩ := Y
      rw [List.length_map, hll, ok.len] at hi
      have hiN : i < N := by omega
      refine ⟨rfl, fun Qy Qn k _ => ?_⟩
      refine ⟨_, rfl, p, _, _, rfl, e2 _ _ (hV _ _ hp), rfl, _, rfl, p, dx, sp, nu, pcs, pw, kr, i, N, pl, (show [V.ref p, .int (0 + ((i : Nat) : Int))] = [V.ref p, .int ((i : Nat) : Int)] by rw [Int.zero_add]), e2 _ _ (hV _ _ hp), hpc.mono (hV.trans e2), ok, hiN, fun f H3 kvs hf e3 hf3 ld3 => ?_⟩
      exact k rfl _ _ e3 ⟨f, rfl, kvs, hf3, ld3.iff fun key L => ⟨fun h => ⟨hiN, h⟩, fun h => h.2⟩⟩
    · have pk2 := pk.all
      rw [List.length_map, hll, ok.len, Int.toNat_natCast] at pk2
      obtain ⟨fs, efs, hfl, hfr⟩ := rows_of pk2
      have hLpw : L ≠ pw := fun z => by rw [z, has] at hL; cases hL
      refine ⟨pw, _, _, rfl, rfl, e2 _ _ has, Evl.sz_lt (by decide), ?_⟩
      have hnew : upd Ha pw (.lst ([] ++ [V.ref L])) pw = some (.lst ([L].map V.ref)) := upd_same
      refine rest _ _ _ _ ((hV.trans e2).mut hid_same) ⟨[L], hnew, Nat.le_of_ble_eq_true rfl, fun i a ha => ?_⟩ ⟨L, [], hnew⟩
      match i, ha with
      | 0, ha =>
        cases ha
        rw [show ([] : List Addr).map V.ref ++ [V.ref L] = [V.ref L] from rfl, hid_upd]
        refine ⟨fs, by rw [hid_ne hLpw, hys, efs], hfl, fun k b hb => ?_⟩
        obtain ⟨kvs, h1, h2⟩ := hfr k b hb
        refine ⟨kvs, ?_, h2⟩
        rw [hid_ne fun z => by rw [z, e2 _ _ has] at h1; cases h1]
        exact h1
end
end K33


set_option Elab.async false
set_option linter.all false
set_option maxRecDepth 100000
set_option maxHeartbeats 8000000
namespace K33
open PySem PySem.Spec PyProof.Rows L2 K33M
theorem fits_iff {N : Nat} {pc : Nat → List Ed} {m k : Nat} {n : Nat} (hk : k < N) : (∃ key L, RowD N pc m k key L ∧ L ≤ (n : Int)) ↔ Fits N pc k n m := by
  constructor
  · rintro ⟨key, L, ⟨_, l, Ln, rfl, rfl, h⟩, hl⟩
    exact ⟨l, Ln, h, by omega⟩
  · rintro ⟨l, Ln, h, hl⟩
    exact ⟨.inl (l : Int), (Ln : Int), ⟨hk, l, Ln, rfl, rfl, h⟩, by omega⟩
def sp_Knots_sought_rise (K : PySem.W.Frag) : Sp := fun vs H Q _ => ∃ (p dx sp n pcs pw kr : Addr) (k b N : Nat) (pl : List (List Pc)), vs = [.ref p, .int (k : Int), .int (b : Int)] ∧ hid pw H p = some (.ins (cN K) dx (knF sp n pcs pw kr)) ∧ PcsAt (hid pw H) pcs pl ∧ PlOk N pl ∧ PowAt H pw N (pcOf pl) ∧ k < N ∧ b ≤ 60 ∧
  ∀ (m : Nat) H', Ex (hid pw H) H' → PowAt H' pw N (pcOf pl) → Most N (pcOf pl) k b m → Q (.int (m : Int)) H'
section
variable {P : Program} {w : World} {K : PySem.W.Frag} {mg : Str → Option Value} {base : Heap}
theorem o_Knots_sought_rise (T : Tx K mg) : FO P w K mg base 5 (He.ma K (He.ga K "Knots") "sought_rise") ["self", "number", "beats"] (sp_Knots_sought_rise K) := def_ok T.f_Knots_sought_rise sc_Knots_sought_rise (fun _ _ _ _ _ _ us hl => match us, hl with | [_, _, _], _ => rfl)
    (fun _ _ _ _ h => by obtain ⟨_, _, _, _, _, _, _, _, _, _, _, rfl, _⟩ := h; rfl) fun cdv A outer s H vs Q E hr h => by
  have hu := hu_of hr
  obtain ⟨p, dx, sp, nu, pcs, pw, kr, k, b, N, pl, rfl, hp, hpc, ok, hpow, hk, hb, hQ⟩ := h
  have n20 := ok.n20
  have G := ok.gr
  refine ⟨_, (pss_cons (ps_set (i := 3) sc_Knots_sought_rise.nd rfl (.inl rfl) pe_int)
      (pss_cons (ps_while PassesOwn.never (pt_val (c_m (pv 0) T.c_Knots T.m_Knots_does_fit (o_Knots_does_fit T) (hr.mono (by decide)) (pa_cons (pe_ix ix_list (c_m (pv 0) T.c_Knots T.m_Knots_power (o_Knots_power T) (hr.mono (by decide)) (pa_cons (pv 3) pa_nil)) (pv 1) (fun _ _ => rfl)) (pa_cons (pv 2) pa_nil)))) (pss_one (ps_aug (i := 3) sc_Knots_sought_rise.nd rfl (.inl rfl) pe_int ip_add)))
      (pss_cons (ps_par (i := 4) (j := 5) rfl sc_Knots_sought_rise.nd rfl rfl (by decide) rfl rfl (pa_cons pe_int (pa_cons (pe_disp (pps_cons (pv 1) pe_int pps_nil) (by rfl) (by rfl) (fun z => by cases z) (by decide)) pa_nil)) (by rfl))
      (pss_cons (ps_while PassesOwn.never (pt_cmpR op_gt (pv 3) pe_int (nomark _)) (pss_cons (ps_aug (i := 3) sc_Knots_sought_rise.nd rfl (.inl rfl) pe_int ip_sub)
        (pss_cons (ps_set (i := 6) sc_Knots_sought_rise.nd rfl (.inl rfl) (c_fn (o_led_on T) T.g_led_on (hr.mono (by decide)) (pa_cons (pv 5) (pa_cons (c_m (pv 0) T.c_Knots T.m_Knots_power (o_Knots_power T) (hr.mono (by decide)) (pa_cons (pv 3) pa_nil)) pa_nil))))
        (pss_one (ps_if (pt_val (c_m (pv 0) T.c_Knots T.m_Knots_does_fit (o_Knots_does_fit T) (hr.mono (by decide)) (pa_cons (pv 6) (pa_cons (pv 2) pa_nil)))) (pss_one (ps_par (i := 4) (j := 5) rfl sc_Knots_sought_rise.nd rfl rfl (by decide) rfl rfl (pa_cons (pe_op op_add (pv 4) (pe_op op_shlW pe_int (pv 3))) (pa_cons (pv 6) pa_nil)) (by rfl))) pss_nil)))))
      (pss_one (ps_ret (pv 4))))))), ?_⟩
  dsimp only [tCKw, tM1, tVals, tVar, tC, tB, tAnd, tOr, tNot, tAndV, tOrV, tNotV, tIf, tNext, tSeq, tBreak, tCont, tDrop, tRet, tRetN, tIfS, tNever, gName, gNil, gCons, gTup, gSub, tAsg, tPar, tAug, tTest, tChain, tFld, sFld, tNil, tCons, tTup, tLst, tCall, tMeth, tCB, tBM, tNoPart, tPart, tSl, tOp, tUn, rI, rI0, rU, iList, iTup, iRng1, iRng2, iStr, iEnum, iZip, iItems, iVals, tDGet, tDIn, tDNotIn, sDPut, tDGet2, tDNewK, tDNewT, tYes, fin, List.cons_append, List.nil_append, bx, cxOf, Cx.nox]
  have hV : Ex (hid pw H) H := hid_ex
  have hVp : hid pw H pw = none := hid_same
  generalize hid pw H = Vw at hp hpc hV hVp hQ
  refine ⟨fun m σ H' => ∃ (t : Nat) (x4 x5 x6 : Option V), σ = [some (.ref p), some (.int (k : Int)), some (.int (b : Int)), some (.int (t : Int)), x4, x5, x6] ∧ Ex Vw H' ∧ PowAt H' pw N (pcOf pl) ∧ t ≤ b ∧ m = b + 1 - t, ⟨_, 0, _, _, _, rfl, hV, hpow, Nat.zero_le _, rfl⟩, fun m σ H1 hw => ?_⟩
  obtain ⟨t, x4, x5, x6, rfl, eV, hpow, htb, rfl⟩ := hw
  dsimp only [tCKw, tM1, tVals, tVar, tC, tB, tAnd, tOr, tNot, tAndV, tOrV, tNotV, tIf, tNext, tSeq, tBreak, tCont, tDrop, tRet, tRetN, tIfS, tNever, gName, gNil, gCons, gTup, gSub, tAsg, tPar, tAug, tTest, tChain, tFld, sFld, tNil, tCons, tTup, tLst, tCall, tMeth, tCB, tBM, tNoPart, tPart, tSl, tOp, tUn, rI, rI0, rU, iList, iTup, iRng1, iRng2, iStr, iEnum, iZip, iItems, iVals, tDGet, tDIn, tDNotIn, sDPut, tDGet2, tDNewK, tDNewT, tYes, fin, List.cons_append, List.nil_append, bx, cxOf, Cx.nox]
  refine ⟨_, rfl, p, _, _, rfl, eV _ _ hp, rfl, _, rfl, p, _, _, rfl, eV _ _ hp, rfl, _, rfl, p, dx, sp, nu, pcs, pw, kr, t, N, pl, rfl, (ex_hid eV hVp) _ _ hp, hpc.mono (ex_hid eV hVp), ok, hpow, by omega, fun a H2 e2 hpow2 ⟨rs, hrs, hrl, hrr⟩ => ?_⟩
  have eV2 := (ex_hid eV hVp).trans e2
  obtain ⟨d, hd⟩ := at_lt (l := rs) (i := k) (by omega)
  obtain ⟨kvs, hkvs, ld⟩ := hrr k d hd
  refine ⟨_, rfl, a, _, _, .ref d, rfl, rfl, sql (hid_ex _ _ hrs), atI_nat (by rw [List.getElem?_map, hd]; rfl), _, rfl, p, d, (b : Int), kvs, _, rfl, hid_ex _ _ hkvs, ld, fun bo H3 e3 hfit => ⟨_, rfl, ?_⟩⟩
  rw [fits_iff hk] at hfit
  have eV3 := eV2.trans e3
  have hpow3 := hpow2.mono e3
  cases bo with
  | true =>
    have hf := hfit.mp rfl
    have := hf.le G
    have h2 : t < 2 ^ t := Nat.lt_two_pow_self
    exact ⟨_, fun _ _ h => h, _, rfl, _, _, rfl, rfl, b + 1 - (t + 1), by omega, t + 1, _, _, _, rfl, eV3, hpow3, by omega, rfl⟩
  | false =>
    have hnf : ¬ Fits N (pcOf pl) k b (2 ^ t) := fun h => by cases hfit.mpr h
    refine fun r hr => ⟨_, rfl, upd_same, [(.inl (k : Int), .int 0)], rfl, Nat.le_of_ble_eq_true rfl, _, _, rfl, ?_⟩
    have e4 : Ex H3 (upd (upd H3 r (.dK [])) r (.dK (mergeK [] [(.inl (k : Int), .int 0)]))) := (Evl.Ex.new hr).mut hr
    have hr4 : upd (upd H3 r (.dK [])) r (.dK (mergeK [] [(.inl (k : Int), .int 0)])) r = some (.dK [(.inl (k : Int), .int 0)]) := upd_same
    generalize upd (upd H3 r (.dK [])) r (.dK (mergeK [] [(.inl (k : Int), .int 0)])) = H4 at e4 hr4 ⊢
    have hrpw : r ≠ pw := fun z => by
      obtain ⟨as, has, _⟩ := hpow3
      rw [z, has] at hr
      cases hr
    have ld0 : LD (RowD N (pcOf pl) 0 k) [(Sum.inl (k : Int), V.int 0)] := by
      refine ⟨by simp, fun key v hm => ?_, ?_⟩
      · have hm : (key, v) = (Sum.inl (k : Int), V.int 0) := by simpa using hm
        cases hm
        exact ⟨0, rfl, hk, k, 0, rfl, rfl, rfl, rfl⟩
      · rintro key L ⟨_, l, Ln, rfl, rfl, e1, e2⟩
        subst e1 e2
        exact ⟨0, valV_pos rfl, Int.le_refl _⟩
    refine ⟨fun m σ H' => ∃ (t F : Nat) (d : Addr) (kvs : List (Key × V)) (x6 : Option V), σ = [some (.ref p), some (.int (k : Int)), some (.int (b : Int)), some (.int (t : Int)), some (.int (F : Int)), some (.ref d), x6] ∧ Ex Vw H' ∧ PowAt H' pw N (pcOf pl) ∧ hid pw H' d = some (.dK kvs) ∧
        LD (RowD N (pcOf pl) F k) kvs ∧ Fits N (pcOf pl) k b F ∧ ¬ Fits N (pcOf pl) k b (F + 2 ^ t) ∧ t < 100 ∧ m = t, ⟨t, t, 0, r, _, x6, rfl, eV3.trans e4, hpow3.mono e4, by rw [hid_ne hrpw]; exact hr4, ld0, Fits.zero, by rw [Nat.zero_add]; exact hnf, by omega, rfl⟩, fun m σ H5 hw => ?_⟩
    obtain ⟨t', F, d', kvs', x6', rfl, eV5, hpow5, hd5, ld5, hy, hn, ht', hm⟩ := hw
    dsimp only [tCKw, tM1, tVals, tVar, tC, tB, tAnd, tOr, tNot, tAndV, tOrV, tNotV, tIf, tNext, tSeq, tBreak, tCont, tDrop, tRet, tRetN, tIfS, tNever, gName, gNil, gCons, gTup, gSub, tAsg, tPar, tAug, tTest, tChain, tFld, sFld, tNil, tCons, tTup, tLst, tCall, tMeth, tCB, tBM, tNoPart, tPart, tSl, tOp, tUn, rI, rI0, rU, iList, iTup, iRng1, iRng2, iStr, iEnum, iZip, iItems, iVals, tDGet, tDIn, tDNotIn, sDPut, tDGet2, tDNewK, tDNewT, tYes, fin, List.cons_append, List.nil_append, bx, cxOf, Cx.nox]
    refine ⟨_, rfl, _, _, rfl, rfl, ⟨_, rfl, ?_⟩⟩
    cases t' with
    | zero => exact ⟨_, rfl, hQ F H5 eV5 hpow5 ⟨hy, hn⟩⟩
    | succ t' =>
      rw [decide_eq_true (show (0 : Int) < ((t' + 1 : Nat) : Int) by omega)]
      refine ⟨_, fun _ _ h => h, ?_⟩
      refine ⟨_, rfl, _, _, rfl, rfl, ?_⟩
      dsimp only
      rw [show ((t' + 1 : Nat) : Int) - 1 = (t' : Int) by omega]
      refine ⟨_, rfl, _, rfl, p, _, _, rfl, eV5 _ _ hp, rfl, _, rfl, p, dx, sp, nu, pcs, pw, kr, t', N, pl, rfl, (ex_hid eV5 hVp) _ _ hp, hpc.mono (ex_hid eV5 hVp), ok, hpow5, by omega, fun a6 H6 e6 hpow6 ⟨rs6, hrs6, hrl6, hrr6⟩ => ?_⟩
      have eV6 := (ex_hid eV5 hVp).trans e6
      refine ⟨d', a6, kvs', rs6, RowD N (pcOf pl) F k, RowD N (pcOf pl) (2 ^ t'), N, rfl, e6 _ _ hd5, ld5, rowD_knot G, by omega, hid_ex _ _ hrs6, hrl6, fun j x hx => ?_, fun j => rowD_knot G, fun f kvs7 H7 hf7 e7 hf7' ld7 => ?_⟩
      · obtain ⟨kv, g1, g2⟩ := hrr6 j x hx
        exact ⟨kv, hid_ex _ _ g1, g2⟩
      · have eV7 := eV6.trans e7
        have ld7 := ld7.iff fun key L => leg_row G (N := N) (m := F) (m' := 2 ^ t') (k := k)
        refine ⟨_, rfl, p, _, _, rfl, eV7 _ _ hp, rfl, _, rfl, _, rfl, p, f, (b : Int), kvs7, _, rfl, hf7', ld7, fun bo H8 e8 hfit => ⟨_, rfl, ?_⟩⟩
        rw [fits_iff hk] at hfit
        have eV8 := eV7.trans e8
        have hpow8 := hpow6.mono (e7.trans e8)
        have hfpw : f ≠ pw := fun z => by
          obtain ⟨as, has, _⟩ := hpow6
          rw [z, has] at hf7
          cases hf7
        cases bo with
        | true =>
          refine ⟨_, rfl, _, rfl, _, _, rfl, rfl, shl_ok (n := 1) (by decide) (by omega), _, _, rfl, rfl, _, rfl, _, _, rfl, t', by omega, t', F + 2 ^ t', f, kvs7, some (.ref f), ?_, eV8, hpow8, by rw [hid_ne hfpw]; exact e8 _ _ hf7', ld7, hfit.mp rfl, ?_, by omega, rfl⟩
          · have e9 : (F : Int) + 1 * 2 ^ ((t' : Int)).toNat = ((F + 2 ^ t' : Nat) : Int) := by
              rw [Int.toNat_natCast, Int.one_mul]
              push_cast
              rfl
            rw [e9]
            rfl
          · rw [Nat.add_assoc, ← Nat.mul_two, ← Nat.pow_succ]
            exact hn
        | false =>
          exact ⟨t', by omega, t', F, d', kvs', _, rfl, eV8, hpow8, ((hid_mono (e7.trans e8)) _ _ ((ex_hid e6 hid_same) _ _ hd5)), ld5, hy, (fun h => Bool.noConfusion (hfit.mpr h)), by omega, rfl⟩
end
end K33


set_option Elab.async false
set_option linter.all false
set_option maxRecDepth 100000
set_option maxHeartbeats 8000000
namespace K33
open PySem PySem.Spec PyProof.Rows L2 K33M
def KrAt (H : Hp) (kr : Addr) (N : Nat) (pc : Nat → List Ed) : Prop := ∃ kvs : DT, H kr = some (.dT kvs) ∧ (kvs.map (·.1)).Nodup ∧ ∀ k v, (k, v) ∈ kvs → ∃ n b m : Nat, k = stK n (b : Int) ∧ v = .int (m : Int) ∧ n < N ∧ b ≤ 60 ∧ Most N pc n b m
theorem KrAt.mono {H H' : Hp} (e : Ex H H') {kr : Addr} {N : Nat} {pc : Nat → List Ed} (h : KrAt H kr N pc) : KrAt H' kr N pc := let ⟨kvs, h1, h2⟩ := h; ⟨kvs, e _ _ h1, h2⟩
/-- a dict with tuple keys changes -/
theorem PowAt.updT {H : Hp} {pw kr : Addr} {N : Nat} {pc : Nat → List Ed} {kvs kvs' : DT} (hk : H kr = some (.dT kvs)) (h : PowAt H pw N pc) : PowAt (upd H kr (.dT kvs')) pw N pc := by
  obtain ⟨as, h1, h2, h3⟩ := h
  have ne : pw ≠ kr := fun z => by rw [z, hk] at h1; cases h1
  refine ⟨as, up_keep hk h1 (fun z => nomatch z), h2, fun i a ha => ?_⟩
  obtain ⟨rs, g1, g2, g3⟩ := h3 i a ha
  have hk' : hid pw H kr = some (.dT kvs) := by rw [hid_ne ne.symm]; exact hk
  have e : hid pw (upd H kr (.dT kvs')) = upd (hid pw H) kr (.dT kvs') := by
    funext x
    by_cases c : x = pw
    · rw [c, hid_same, upd_ne ne, hid_same]
    · rw [hid_ne c]
      by_cases c2 : x = kr
      · rw [c2, upd_same, upd_same]
      · rw [upd_ne c2, upd_ne c2, hid_ne c]
  rw [e]
  exact ⟨rs, up_keep hk' g1 (fun z => nomatch z), g2, fun j b hb => let ⟨kv, q1, q2⟩ := g3 j b hb; ⟨kv, up_keep hk' q1 (fun z => nomatch z), q2⟩⟩
def sp_Knots_most_rise (K : PySem.W.Frag) : Sp := fun vs H Q _ => ∃ (Vw : Hp) (p dx sp n pcs pw kr : Addr) (k b N : Nat) (pl : List (List Pc)), vs = [.ref p, .int (k : Int), .int (b : Int)] ∧ Ex Vw H ∧ Vw pw = none ∧ Vw kr = none ∧ Vw p = some (.ins (cN K) dx (knF sp n pcs pw kr)) ∧ PcsAt Vw pcs pl ∧ PlOk N pl ∧
  PowAt H pw N (pcOf pl) ∧ KrAt H kr N (pcOf pl) ∧ k < N ∧ b ≤ 60 ∧ ∀ (m : Nat) H', Ex Vw H' → PowAt H' pw N (pcOf pl) → KrAt H' kr N (pcOf pl) → Most N (pcOf pl) k b m → Q (.int (m : Int)) H'
section
variable {P : Program} {w : World} {K : PySem.W.Frag} {mg : Str → Option Value} {base : Heap}
theorem o_Knots_most_rise (T : Tx K mg) : FO P w K mg base 6 (He.ma K (He.ga K "Knots") "most_rise") ["self", "number", "beats"] (sp_Knots_most_rise K) := def_ok T.f_Knots_most_rise sc_Knots_most_rise (fun _ _ _ _ _ _ us hl => match us, hl with | [_, _, _], _ => rfl)
    (fun _ _ _ _ h => by obtain ⟨_, _, _, _, _, _, _, _, _, _, _, _, rfl, _⟩ := h; rfl) fun cdv A outer s H vs Q E hr h => by
  have hu := hu_of hr
  obtain ⟨Vw, p, dx, sp, nu, pcs, pw, kr, k, b, N, pl, rfl, hV, hVp, hVk, hp, hpc, ok, hpow, hkr, hk, hb, hQ⟩ := h
  refine ⟨_, (pss_cons (ps_if (pt_cmp (pc_dnotin hu (pe_tup (pa_cons (pv 1) (pa_cons (pv 2) pa_nil))) (pe_fld (pv 0) rfl))) (pss_one (ps_dput hu (pe_fld (pv 0) rfl) (pe_tup (pa_cons (pv 1) (pa_cons (pv 2) pa_nil))) (c_m (pv 0) T.c_Knots T.m_Knots_sought_rise (o_Knots_sought_rise T) (hr.mono (by decide)) (pa_cons (pv 1) (pa_cons (pv 2) pa_nil))) rfl)) pss_nil)
      (pss_one (ps_ret (pe_dget hu (pe_fld (pv 0) rfl) (pe_tup (pa_cons (pv 1) (pa_cons (pv 2) pa_nil))) (fun _ _ => rfl))))), ?_⟩
  dsimp only [tCKw, tM1, tVals, tVar, tC, tB, tAnd, tOr, tNot, tAndV, tOrV, tNotV, tIf, tNext, tSeq, tBreak, tCont, tDrop, tRet, tRetN, tIfS, tNever, gName, gNil, gCons, gTup, gSub, tAsg, tPar, tAug, tTest, tChain, tFld, sFld, tNil, tCons, tTup, tLst, tCall, tMeth, tCB, tBM, tNoPart, tPart, tSl, tOp, tUn, rI, rI0, rU, iList, iTup, iRng1, iRng2, iStr, iEnum, iZip, iItems, iVals, tDGet, tDIn, tDNotIn, sDPut, tDGet2, tDNewK, tDNewT, tYes, fin, List.cons_append, List.nil_append, bx, cxOf, Cx.nox]
  have last : ∀ H1, Ex Vw H1 → PowAt H1 pw N (pcOf pl) → (∃ kvs m, H1 kr = some (.dT kvs) ∧ (kvs.map (·.1)).Nodup ∧ (∀ k v, (k, v) ∈ kvs → ∃ n b m : Nat, k = stK n (b : Int) ∧ v = .int (m : Int) ∧ n < N ∧ b ≤ 60 ∧ Most N (pcOf pl) n b m) ∧ valV kvs (stK k (b : Int)) = some m) →
      tRet (tDGet (tFld K (tVar 0) "known_rises") (tTup (tCons (tVar 1) (tCons (tVar 2) tNil)))) (fin Q) [some (.ref p), some (.int (k : Int)), some (.int (b : Int))] H1 := fun H1 eV hpow ⟨kvs, mv, hkv, hnd, hall, hval⟩ => by
    obtain ⟨n', b', m, e1, rfl, h1, h2, hm⟩ := hall _ _ (valV_in hval)
    obtain ⟨rfl, e2⟩ := stK_inj e1
    have e2 : b = b' := by omega
    subst e2
    dsimp only [tCKw, tM1, tVals, tVar, tC, tB, tAnd, tOr, tNot, tAndV, tOrV, tNotV, tIf, tNext, tSeq, tBreak, tCont, tDrop, tRet, tRetN, tIfS, tNever, gName, gNil, gCons, gTup, gSub, tAsg, tPar, tAug, tTest, tChain, tFld, sFld, tNil, tCons, tTup, tLst, tCall, tMeth, tCB, tBM, tNoPart, tPart, tSl, tOp, tUn, rI, rI0, rU, iList, iTup, iRng1, iRng2, iStr, iEnum, iZip, iItems, iVals, tDGet, tDIn, tDNotIn, sDPut, tDGet2, tDNewK, tDNewT, tYes, fin, List.cons_append, List.nil_append, bx, cxOf, Cx.nox]
    refine ⟨_, rfl, p, _, _, _, _, rfl, eV _ _ hp, T.c_Knots, T.n_Knots_known_rises, rfl, _, rfl, _, rfl, Nat.le_of_ble_eq_true rfl, fun t ht => ⟨kr, _, rfl, .inr ⟨kvs, stK k (b : Int), t, .inl ((Evl.Ex.new ht) _ _ hkv), rfl, upd_same, hval.symm⟩, ?_⟩⟩
    exact hQ m _ (eV.trans (Evl.Ex.new ht)) (hpow.mono (Evl.Ex.new ht)) ⟨kvs, (Evl.Ex.new ht) _ _ hkv, hnd, hall⟩ hm
  obtain ⟨kvs, hkv, hnd, hall⟩ := hkr
  refine ⟨_, rfl, _, rfl, Nat.le_of_ble_eq_true rfl, fun t1 ht1 => ?_⟩
  have e1 : Ex H (upd H t1 (.tup [.int (k : Int), .int (b : Int)])) := Evl.Ex.new ht1
  have ht1' : upd H t1 (.tup [.int (k : Int), .int (b : Int)]) t1 = some (.tup [.int (k : Int), .int (b : Int)]) := upd_same
  generalize upd H t1 (.tup [.int (k : Int), .int (b : Int)]) = H1 at e1 ht1' ⊢
  have hV1 := hV.trans e1
  have hpow1 := hpow.mono e1
  refine ⟨_, rfl, p, _, _, _, _, rfl, hV1 _ _ hp, T.c_Knots, T.n_Knots_known_rises, rfl, kr, _, rfl, .inr ⟨kvs, stK k (b : Int), t1, .inl (e1 _ _ hkv), rfl, ht1', rfl⟩, _, rfl, ?_⟩
  cases hval : valV kvs (stK k (b : Int)) with
  | some mv => exact last H1 hV1 hpow1 ⟨kvs, mv, e1 _ _ hkv, hnd, hall, hval⟩
  | none =>
    have npk : pw ≠ kr := fun z => by
      obtain ⟨as, h1, _⟩ := hpow
      rw [z, hkv] at h1
      cases h1
    refine ⟨_, rfl, p, _, _, rfl, hV1 _ _ hp, rfl, _, rfl, _, rfl, p, dx, sp, nu, pcs, pw, kr, k, b, N, pl, rfl, (ex_hid hV1 hVp) _ _ hp, hpc.mono (ex_hid hV1 hVp), ok, hpow1, hk, hb, fun m H2 e2 hpow2 hm => ?_⟩
    have hV2 := (ex_hid hV1 hVp).trans e2
    have hkv2 : H2 kr = some (.dT kvs) := e2 _ _ (by rw [hid_ne npk.symm]; exact e1 _ _ hkv)
    refine ⟨_, rfl, p, _, _, _, _, rfl, hV2 _ _ hp, T.c_Knots, T.n_Knots_known_rises, rfl, _, rfl, _, rfl, Nat.le_of_ble_eq_true rfl, fun t2 ht2 => ?_⟩
    have e3 : Ex H2 (upd H2 t2 (.tup [.int (k : Int), .int (b : Int)])) := Evl.Ex.new ht2
    have few : kvs.length ≤ cells 60 := few_keys hnd fun kv hkvm => by
      obtain ⟨n', b', m', e4, _, h1, h2, _⟩ := hall kv.1 kv.2 hkvm
      exact ⟨n', (b' : Int), e4, by have := ok.n20; omega, by omega, by omega⟩
    have few2 : cells 60 = 7260 := rfl
    refine ⟨kr, _, rfl, DPut.t (k := stK k (b : Int)) (e3 _ _ hkv2) upd_same (Evl.sz_lt (by omega)), ?_⟩
    refine last _ ((hV2.trans e3).mut hVk) ((hpow2.mono e3).updT (e3 _ _ hkv2)) ⟨_, .int (m : Int), upd_same, nodup_putK _ _ hnd, fun k' v' hm' => ?_, by rw [valV_put, if_pos rfl]⟩
    rcases mem_putK hnd hm' with ⟨rfl, rfl⟩ | hm'
    · exact ⟨k, b, m, rfl, rfl, hk, hb, hm⟩
    · exact hall k' v' hm'
end
end K33


set_option Elab.async false
set_option linter.all false
set_option maxRecDepth 100000
set_option maxHeartbeats 8000000
namespace K33
open PySem PySem.Spec PyProof.Rows L2 K33M
theorem hu65 {k : Nat} {A : Around} (r : Room k A) : A.units + 65 < cLine := by have := r.un; omega
section
variable {X : Cx} {K : PySem.W.Frag}
theorem call_isiK (h : X.K = K) : CallR X (.builtin "isinstance") (rIsi K) := h ▸ call_isi
end
/-! ### spots as deep data -/
def pySp : Spot → PyData
  | .p x => .str x
  | .h t i => .tuple [.str t, .int i]
theorem dp_sp {K : PySem.W.Frag} {H : Hp} {y : V} : ∀ {sp : Spot}, SpV H y sp → Dp K H y (pySp sp)
  | .p x, h => by
    have h : y = .str x := h
    subst h
    exact .str _
  | .h t i, ⟨b, e, h⟩ => by
    subst e
    exact .tup (sqt h) (.cons (.str _) (.cons (.int _) .nil))
def SpNm : Spot → Prop
  | .p x => NameOk x
  | .h t _ => NameOk t
theorem sp_lay {sp : Spot} (h : SpNm sp) : (pySp sp).canLay0 = true ∧ (pySp sp).depth ≤ 1 := by
  cases sp with
  | p x =>
    constructor
    · simp only [pySp, PyData.canLay0]
      exact strOk_nm h
    · simp [pySp, PyData.depth]
  | h t i =>
    constructor
    · simp only [pySp, PyData.canLay0, PyData.canLayAll0, strOk_nm (show NameOk t from h), Bool.and_self]
    · simp [pySp, PyData.depth, PyData.depthAll]
theorem sp_shaped {sp : Spot} (h : SpNm sp) : SeqAt.shaped (pySp sp) = true := by
  unfold SeqAt.shaped
  rw [Bool.and_eq_true]
  exact ⟨(sp_lay h).1, decide_eq_true (by have := (sp_lay h).2; omega)⟩
theorem sps_shaped {sps : List Spot} (h : ∀ sp ∈ sps, SpNm sp) : SeqAt.shaped (.list (sps.map pySp)) = true := by
  unfold SeqAt.shaped
  rw [Bool.and_eq_true]
  constructor
  · simp only [PyData.canLay0]
    exact lay_all fun x hx => (sp_lay (h x hx)).1
  · refine decide_eq_true ?_
    simp only [PyData.depth]
    have := depth_all (f := pySp) (n := 1) (xs := sps) fun x hx => (sp_lay (h x hx)).2
    omega
theorem sp_eqv (a b : Spot) : PyData.eqv (pySp a) (pySp b) = decide (a = b) := by
  cases a with
  | p x =>
    cases b with
    | p y =>
      simp only [pySp, PyData.eqv]
      by_cases e : x = y
      · rw [e]; simp
      · rw [decide_eq_false (fun z => e (Spot.p.inj z))]
        exact beq_eq_false_iff_ne.mpr e
    | h t i => simp [pySp, PyData.eqv]
  | h t i =>
    cases b with
    | p y => simp [pySp, PyData.eqv]
    | h t' i' =>
      simp only [pySp, PyData.eqv, PyData.eqvAll, Bool.and_true]
      by_cases e : t = t' ∧ i = i'
      · rw [e.1, e.2]; simp
      · rw [decide_eq_false (fun z => e ⟨(Spot.h.inj z).1, (Spot.h.inj z).2⟩)]
        by_cases c : t = t'
        · have : ¬ i = i' := fun z => e ⟨c, z⟩
          simp [this]
        · simp [c]
def SpsAt (H : Hp) (a : Addr) (sps : List Spot) : Prop := ∃ ys : List V, H a = some (.lst ys) ∧ Paired (fun y sp => SpV H y sp) ys sps
theorem SpsAt.mono {H H' : Hp} (e : Ex H H') {a : Addr} {sps : List Spot} (h : SpsAt H a sps) : SpsAt H' a sps := let ⟨ys, h1, h2⟩ := h; ⟨ys, e _ _ h1, pr_mono h2 fun _ _ q => q.mono fun _ _ h => e _ _ h⟩
theorem dp_sps {K : PySem.W.Frag} {H : Hp} : ∀ {ys : List V} {sps : List Spot}, Paired (fun y sp => SpV H y sp) ys sps → DpAll K H ys (sps.map pySp)
  | _, _, .nil => .nil
  | _, _, .cons r t => .cons (dp_sp r) (dp_sps t)
theorem first_at {α : Type} {x : α} : ∀ {l : List α}, x ∈ l → ∃ j : Nat, l[j]? = some x ∧ ∀ m, m < j → l[m]? ≠ some x
  | [], h => by cases h
  | y :: l, h => by
    by_cases e : y = x
    · exact ⟨0, by rw [e]; rfl, fun m hm => absurd hm (Nat.not_lt_zero _)⟩
    · rcases List.mem_cons.mp h with z | h
      · exact absurd z.symm e
      · obtain ⟨j, h1, h2⟩ := first_at h
        refine ⟨j + 1, h1, fun m hm => ?_⟩
        cases m with
        | zero => exact fun z => e (Option.some.inj z)
        | succ m => exact h2 m (by omega)
def sp_Knots_number_of (K : PySem.W.Frag) : Sp := fun vs H Q _ => ∃ (p dx s n pcs pw kr : Addr) (sps : List Spot) (y : V) (sp : Spot), vs = [.ref p, y] ∧ H p = some (.ins (cN K) dx (knF s n pcs pw kr)) ∧ SpsAt H s sps ∧ (∀ x ∈ sps, SpNm x) ∧ SpV H y sp ∧ SpNm sp ∧
  ∀ v H', Ex H H' → ((∃ j : Nat, sps[j]? = some sp ∧ v = .int (j : Int)) ∨ (sp ∉ sps ∧ v = .non)) → Q v H'
section
variable {P : Program} {w : World} {K : PySem.W.Frag} {mg : Str → Option Value} {base : Heap}
theorem o_Knots_number_of (T : Tx K mg) : FO P w K mg base 1 (He.ma K (He.ga K "Knots") "number_of") ["self", "spot"] (sp_Knots_number_of K) := def_ok T.f_Knots_number_of sc_Knots_number_of (fun _ _ _ _ _ _ us hl => match us, hl with | [_, _], _ => rfl)
    (fun _ _ _ _ h => by obtain ⟨_, _, _, _, _, _, _, _, _, _, rfl, _⟩ := h; rfl) fun cdv A outer s H vs Q E hr h => by
  have hu := hu_of hr
  obtain ⟨p, dx, s', nu, pcs, pw, kr, sps, y, sp, rfl, hp, ⟨ys, hs, hys⟩, hnm, hy, hspn, hQ⟩ := h
  refine ⟨_, (pss_cons (ps_if (PW.pt (pw_and (pt_val (pe_callB call_isi (by rfl) T.z_isinstance (by decide +kernel) (pa_cons (pv 1) (pa_cons (pe_ty "tuple" (by rfl) T.z_tuple (by decide +kernel)) pa_nil)))) (pw_and1 (pt_val (pe_callB (cr_any rfl) (by rfl) T.z_any (by decide +kernel) (pa_cons (pe_lc (own := [("part", 2)]) rfl sc_Knots_number_of.nd (pi_tup (pv 1)) (blkOk_by (by rfl)) (fun _ _ _ _ _ => (pg_name (i := 2) sc_Knots_number_of.nd rfl (.inl rfl))) (fun _ _ _ _ _ => pts_nil) (fun _ _ _ _ _ => (pe_callB (call_isiK (K := K) rfl) (by rfl) T.z_isinstance (by decide +kernel) (pa_cons (pv 2) (pa_cons (pe_ty "bool" (by rfl) T.z_bool (by decide +kernel)) pa_nil))))) pa_nil)))))) (pss_one (ps_ret pe_non)) pss_nil)
      (pss_one (ps_ret (pe_ifExp (pt_cmpR (op_inD (hu65 hr)) (pv 1) (pe_fld (pv 0) rfl) (by rfl)) (pe_bm PySem.F.plainAttrs_list PySem.F.slot_list_index PySem.F.type_list_index (mt_indexD (hu65 hr)) (pe_fld (pv 0) rfl) (pa_cons (pv 1) pa_nil)) pe_non)))), ?_⟩
  dsimp only [tCKw, tM1, tVals, tVar, tC, tB, tAnd, tOr, tNot, tAndV, tOrV, tNotV, tIf, tNext, tSeq, tBreak, tCont, tDrop, tRet, tRetN, tIfS, tNever, gName, gNil, gCons, gTup, gSub, tAsg, tPar, tAug, tTest, tChain, tFld, sFld, tNil, tCons, tTup, tLst, tCall, tMeth, tCB, tBM, tNoPart, tPart, tSl, tOp, tUn, rI, rI0, rU, iList, iTup, iRng1, iRng2, iStr, iEnum, iZip, iItems, iVals, tDGet, tDIn, tDNotIn, sDPut, tDGet2, tDNewK, tDNewT, tYes, fin, List.cons_append, List.nil_append, bx, cxOf, Cx.nox]
  have tail : ∀ H1, Ex H H1 → tIf (tTest (tOp (rInD K) (tVar 1) (tFld K (tVar 0) "all_spots"))) (tBM K "list" (rIndexD K) (tFld K (tVar 0) "all_spots") (tCons (tVar 1) tNil)) (tC .non) [some (.ref p), some y, none] H1 Q := fun H1 e1 => by
    have hys1 : Paired (fun y sp => SpV H1 y sp) ys sps := pr_mono hys fun _ _ q => q.mono fun _ _ h => e1 _ _ h
    have hy1 : SpV H1 y sp := hy.mono fun _ _ h => e1 _ _ h
    dsimp only [tCKw, tM1, tVals, tVar, tC, tB, tAnd, tOr, tNot, tAndV, tOrV, tNotV, tIf, tNext, tSeq, tBreak, tCont, tDrop, tRet, tRetN, tIfS, tNever, gName, gNil, gCons, gTup, gSub, tAsg, tPar, tAug, tTest, tChain, tFld, sFld, tNil, tCons, tTup, tLst, tCall, tMeth, tCB, tBM, tNoPart, tPart, tSl, tOp, tUn, rI, rI0, rU, iList, iTup, iRng1, iRng2, iStr, iEnum, iZip, iItems, iVals, tDGet, tDIn, tDNotIn, sDPut, tDGet2, tDNewK, tDNewT, tYes, fin, List.cons_append, List.nil_append, bx, cxOf, Cx.nox]
    refine ⟨_, rfl, _, rfl, p, _, _, _, _, rfl, e1 _ _ hp, T.c_Knots, T.n_Knots_all_spots, rfl, pySp sp, sps.map pySp, dp_sp hy1, .lst (sql (e1 _ _ hs)) (dp_sps hys1), sp_shaped hspn, sps_shaped hnm, _, rfl, ?_⟩
    have ea : ((sps.map pySp).any fun z => PyData.eqv z (pySp sp)) = decide (sp ∈ sps) := by
      rw [List.any_map, Bool.eq_iff_iff, List.any_eq_true, decide_eq_true_iff]
      constructor
      · rintro ⟨x, hx, h⟩
        have h : PyData.eqv (pySp x) (pySp sp) = true := h
        rw [sp_eqv, decide_eq_true_iff] at h
        exact h ▸ hx
      · intro h
        exact ⟨sp, h, by show PyData.eqv (pySp sp) (pySp sp) = true; rw [sp_eqv]; exact decide_eq_true rfl⟩
    rw [ea]
    by_cases c : sp ∈ sps
    · rw [decide_eq_true c]
      obtain ⟨j, hj, hno⟩ := first_at c
      refine ⟨_, rfl, p, _, _, _, _, rfl, e1 _ _ hp, T.c_Knots, T.n_Knots_all_spots, rfl, .inl ⟨rfl, _, sql (e1 _ _ hs)⟩, _, rfl, s', y, pySp sp, sps.map pySp, j, pySp sp, rfl, rfl, .lst (sql (e1 _ _ hs)) (dp_sps hys1), dp_sp hy1, sps_shaped hnm, sp_shaped hspn, by rw [List.getElem?_map, hj]; rfl, by rw [sp_eqv]; exact decide_eq_true rfl, fun m z hm hz => ?_, hQ _ _ e1 (.inl ⟨j, hj, rfl⟩)⟩
      rw [List.getElem?_map] at hz
      obtain ⟨x, hx, ez⟩ := Option.map_eq_some_iff.mp hz
      rw [← ez, sp_eqv]
      exact decide_eq_false fun e => hno m hm (e ▸ hx)
    · rw [decide_eq_false c]
      exact hQ _ _ e1 (.inr ⟨c, rfl⟩)
  cases sp with
  | p x =>
    have hy : y = .str x := hy
    subst hy
    exact ⟨_, rfl, isi_no (.str _) (by decide +kernel) ⟨_, rfl, tail H (Evl.Ex.refl _)⟩⟩
  | h t i =>
    obtain ⟨b, rfl, hb⟩ := id hy
    refine ⟨_, rfl, isi_yes (.tup hb) (by decide +kernel) ⟨_, rfl, ?_⟩⟩
    refine ⟨_, rfl, b, rfl, ⟨_, sqt hb⟩, lc_pick (walk_tup (xs := [V.str t, V.int i])) (fun _ => true) (fun i _ y => y = .bl false) (Nat.le_of_ble_eq_true rfl) (fun H e => sqt (e _ _ hb)) (fun _ _ _ _ _ r => r) gm_name (fun i y Ha Hb hi e2 Y => ?_) fun L Ha zs hL e2 hzs pk => ?_⟩
    · obtain ⟨rfl, hyi⟩ := Y
      refine ⟨rfl, fun Qy Qn k _ => ⟨_, rfl, ?_⟩⟩
      match i, hi, hyi with
      | 0, _, hyi =>
        cases hyi
        exact isi_no (.str _) (by decide +kernel) (k rfl _ _ (Evl.Ex.refl _) rfl)
      | 1, _, hyi =>
        cases hyi
        exact isi_no (.int _) (by decide +kernel) (k rfl _ _ (Evl.Ex.refl _) rfl)
    · have hz2 : zs = [.bl false, .bl false] := pk.eq
      subst hz2
      exact ⟨L, [false, false], rfl, sql hzs, _, rfl, tail Ha e2⟩
end
end K33


set_option Elab.async false
set_option linter.all false
set_option maxRecDepth 100000
set_option maxHeartbeats 4000000
/-! Which pieces a web's knots have. -/
namespace K33
open PySem PySem.Spec PyProof.Rows L2 K33M
def spsT (ts : List Tie) : List Spot := ts.flatMap fun t => t.hs.map fun q => Spot.h t.nm q.1
def spsOf (W : Web) : List Spot := W.ps.map (fun q => Spot.p q.1) ++ spsT W.ts
theorem spsT_mem {ts : List Tie} {sp : Spot} (h : sp ∈ spsT ts) : ∃ t ∈ ts, ∃ q ∈ t.hs, sp = .h t.nm q.1 := by
  obtain ⟨t, ht, h⟩ := List.mem_flatMap.mp h
  obtain ⟨q, hq, rfl⟩ := List.mem_map.mp h
  exact ⟨t, ht, q, hq, rfl⟩
theorem spsT_nodup {ps : List (Str × Int)} {rd : Bool} : ∀ {ts : List Tie}, (∀ t ∈ ts, TieOk ps rd t) → (ts.map (·.nm)).Nodup → (spsT ts).Nodup
  | [], _, _ => List.nodup_nil
  | t :: ts, h, n => by
    rw [List.map_cons, List.nodup_cons] at n
    show ((t.hs.map fun q => Spot.h t.nm q.1) ++ spsT ts).Nodup
    rw [List.nodup_append]
    refine ⟨?_, spsT_nodup (fun x hx => h x (List.mem_cons_of_mem _ hx)) n.2, fun a ha b hb e => ?_⟩
    · have e : (t.hs.map fun q => Spot.h t.nm q.1) = (t.hs.map (·.1)).map fun i => Spot.h t.nm i := by rw [List.map_map]; rfl
      rw [e]
      exact nodup_map (fun _ _ z => (Spot.h.inj z).2) (hs_nodup (h t List.mem_cons_self).hs)
    · obtain ⟨q, hq, rfl⟩ := List.mem_map.mp ha
      obtain ⟨t', ht', q', hq', e'⟩ := spsT_mem hb
      rw [← e] at e'
      have := (Spot.h.inj e').1
      exact n.1 (List.mem_map.mpr ⟨t', ht', this.symm⟩)
theorem spsOf_nodup {W : Web} (ok : WOk W) : (spsOf W).Nodup := by
  unfold spsOf
  rw [List.nodup_append]
  refine ⟨?_, spsT_nodup ok.ts.ok ok.ts.nd, fun a ha b hb e => ?_⟩
  · have e : (W.ps.map fun q => Spot.p q.1) = (W.ps.map (·.1)).map Spot.p := by rw [List.map_map]; rfl
    rw [e]
    exact nodup_map (fun _ _ z => Spot.p.inj z) ok.ps.nd
  · obtain ⟨q, hq, rfl⟩ := List.mem_map.mp ha
    obtain ⟨t', ht', q', hq', e'⟩ := spsT_mem hb
    rw [← e] at e'
    cases e'
theorem spsOf_nm {W : Web} (ok : WOk W) : ∀ sp ∈ spsOf W, SpNm sp := fun sp h => by
  rcases List.mem_append.mp h with h | h
  · obtain ⟨q, hq, rfl⟩ := List.mem_map.mp h
    exact ok.ps.nm q hq
  · obtain ⟨t, ht, q, hq, rfl⟩ := spsT_mem h
    exact (ok.ts.ok t ht).nm
theorem spsT_len : ∀ ts : List Tie, (spsT ts).length = (ts.map fun t => t.hs.length).sum
  | [] => rfl
  | t :: ts => by
    show ((t.hs.map fun q => Spot.h t.nm q.1) ++ spsT ts).length = _
    rw [List.length_append, List.length_map, spsT_len ts]
    rfl
theorem spsOf_len {W : Web} (ok : WOk W) : (spsOf W).length ≤ 20 := by
  unfold spsOf
  rw [List.length_append, List.length_map, spsT_len]
  have := ok.ps.hi
  have := ok.ts.hh
  omega
theorem knot_in {W : Web} (ok : WOk W) {t : Tie} (ht : t ∈ W.ts) {x : Int} (hx : x ∈ plc t) : spotOf t x ∈ spsOf W := by
  have tk := ok.ts.ok t ht
  unfold spotOf
  by_cases c0 : x = 0
  · rw [if_pos c0]
    obtain ⟨q, hq, e⟩ := List.mem_map.mp tk.one
    exact List.mem_append_left _ (List.mem_map.mpr ⟨q, hq, by rw [e]⟩)
  · rw [if_neg c0]
    by_cases c1 : x = t.len
    · rw [if_pos c1]
      obtain ⟨q, hq, e⟩ := List.mem_map.mp tk.two
      exact List.mem_append_left _ (List.mem_map.mpr ⟨q, hq, by rw [e]⟩)
    · rw [if_neg c1]
      unfold plc at hx
      rcases List.mem_cons.mp hx with h | h
      · exact absurd h c0
      · rcases List.mem_append.mp h with h | h
        · obtain ⟨q, hq, rfl⟩ := List.mem_map.mp h
          exact List.mem_append_right _ (List.mem_flatMap.mpr ⟨t, ht, List.mem_map.mpr ⟨q, hq, rfl⟩⟩)
        · exact absurd (by simpa using h) c1
/-- neighbouring knots' places of a tie -/
def Gap (t : Tie) (x y : Int) : Prop := ∃ i : Nat, (plc t)[i]? = some x ∧ (plc t)[i + 1]? = some y
theorem plc_sorted {l : Int} {t : Tie} (h : HsOk t.len t.hs) (hl : 1 ≤ t.len) : (plc t).Pairwise (· < ·) := by
  unfold plc
  rw [List.pairwise_cons]
  constructor
  · intro a ha
    rcases List.mem_append.mp ha with ha | ha
    · obtain ⟨q, hq, rfl⟩ := List.mem_map.mp ha
      exact (h.2 q hq).1
    · have : a = t.len := by simpa using ha
      omega
  · rw [List.pairwise_append]
    refine ⟨List.pairwise_map.mpr h.1, by simp, fun a ha b hb => ?_⟩
    obtain ⟨q, hq, rfl⟩ := List.mem_map.mp ha
    have : b = t.len := by simpa using hb
    have := (h.2 q hq).2.1
    omega
theorem len_pos {ps : List (Str × Int)} {rd : Bool} {t : Tie} (h : TieOk ps rd t) : 1 ≤ t.len ∧ t.len ≤ 12 := by
  have := h.len
  unfold LenOk at this
  split at this <;> omega
theorem plc_range {ps : List (Str × Int)} {rd : Bool} {t : Tie} (h : TieOk ps rd t) {x : Int} (hx : x ∈ plc t) : 0 ≤ x ∧ x ≤ t.len := by
  have hl := len_pos h
  unfold plc at hx
  rcases List.mem_cons.mp hx with e | hx
  · omega
  · rcases List.mem_append.mp hx with hx | hx
    · obtain ⟨q, hq, rfl⟩ := List.mem_map.mp hx
      have := h.hs.2 q hq
      omega
    · have : x = t.len := by simpa using hx
      omega
theorem gap_lt {ps : List (Str × Int)} {rd : Bool} {t : Tie} (h : TieOk ps rd t) {x y : Int} (g : Gap t x y) : 0 ≤ x ∧ x < y ∧ y ≤ t.len ∧ ∀ q ∈ t.hs, ¬ (x < q.1 ∧ q.1 < y) := by
  obtain ⟨i, h1, h2⟩ := g
  have s := plc_sorted (l := t.len) h.hs (len_pos h).1
  have i2 := (List.getElem?_eq_some_iff.mp h2).1
  have a1 := (List.getElem?_eq_some_iff.mp h1).2
  have a2 := (List.getElem?_eq_some_iff.mp h2).2
  have lt := List.pairwise_iff_getElem.mp s i (i + 1) (by omega) i2 (by omega)
  rw [a1, a2] at lt
  refine ⟨(plc_range h (List.mem_of_getElem? h1)).1, lt, (plc_range h (List.mem_of_getElem? h2)).2, fun q hq ⟨g1, g2⟩ => ?_⟩
  have hm : q.1 ∈ plc t := List.mem_cons_of_mem _ (List.mem_append_left _ (List.mem_map_of_mem hq))
  obtain ⟨j, hj⟩ := List.getElem?_of_mem hm
  have j1 := (List.getElem?_eq_some_iff.mp hj).1
  have j2 := (List.getElem?_eq_some_iff.mp hj).2
  by_cases c : j ≤ i
  · by_cases c2 : j = i
    · subst c2
      rw [h1] at hj
      have := Option.some.inj hj
      omega
    · have := List.pairwise_iff_getElem.mp s j i j1 (by omega) (by omega)
      rw [j2, a1] at this
      omega
  · by_cases c2 : j = i + 1
    · subst c2
      rw [h2] at hj
      have := Option.some.inj hj
      omega
    · have := List.pairwise_iff_getElem.mp s (i + 1) j i2 j1 (by omega)
      rw [a2, j2] at this
      omega
/-! ### pieces -/
def addPc (pl : List (List Pc)) (a : Nat) (q : Pc) : List (List Pc) := pl.set a (pl.getD a [] ++ [q])
theorem addPc_len (pl : List (List Pc)) (a : Nat) (q : Pc) : (addPc pl a q).length = pl.length := by simp [addPc]
theorem mem_addPc {pl : List (List Pc)} {a k : Nat} {q x : Pc} (ha : a < pl.length) : x ∈ (addPc pl a q).getD k [] ↔ x ∈ pl.getD k [] ∨ (k = a ∧ x = q) := by
  unfold addPc
  rw [List.getD_eq_getElem?_getD, List.getD_eq_getElem?_getD, List.getElem?_set]
  by_cases c : a = k
  · subst c
    rw [if_pos rfl, if_pos ha]
    simp [List.getD_eq_getElem?_getD]
  · rw [if_neg c]
    constructor
    · exact .inl
    · rintro (h | ⟨e, _⟩)
      · exact h
      · exact absurd e.symm c
structure PlG (W : Web) (G : Tie → Int → Int → Prop) (pl : List (List Pc)) : Prop where
  len : pl.length = (spsOf W).length
  of : ∀ k q, q ∈ pl.getD k [] → ∃ t x y, G t x y ∧ (((spsOf W)[k]? = some (spotOf t x) ∧ (spsOf W)[q.o]? = some (spotOf t y) ∧ q.a = x ∧ q.b = y ∧ q.u = gapT W t x y) ∨
    ((spsOf W)[k]? = some (spotOf t y) ∧ (spsOf W)[q.o]? = some (spotOf t x) ∧ q.a = y ∧ q.b = x ∧ q.u = - gapT W t x y))
  has : ∀ t x y, G t x y → ∀ a b, (spsOf W)[a]? = some (spotOf t x) → (spsOf W)[b]? = some (spotOf t y) →
    (∃ q ∈ pl.getD a [], q.o = b ∧ q.a = x ∧ q.b = y ∧ q.u = gapT W t x y) ∧ ∃ q ∈ pl.getD b [], q.o = a ∧ q.a = y ∧ q.b = x ∧ q.u = - gapT W t x y
theorem PlG.mono {W : Web} {G G' : Tie → Int → Int → Prop} {pl : List (List Pc)} (h : PlG W G pl) (e : ∀ t x y, G t x y ↔ G' t x y) : PlG W G' pl :=
  ⟨h.len, fun k q hq => let ⟨t, x, y, g, r⟩ := h.of k q hq; ⟨t, x, y, (e t x y).mp g, r⟩, fun t x y g => h.has t x y ((e t x y).mpr g)⟩
theorem PlG.add {W : Web} {G : Tie → Int → Int → Prop} {pl : List (List Pc)} (h : PlG W G pl) (n : (spsOf W).Nodup) {t : Tie} {x y : Int} {a b : Nat} (ha : (spsOf W)[a]? = some (spotOf t x)) (hb : (spsOf W)[b]? = some (spotOf t y)) :
    PlG W (fun t' x' y' => G t' x' y' ∨ (t' = t ∧ x' = x ∧ y' = y)) (addPc (addPc pl a ⟨b, t.nm, x, y, gapT W t x y⟩) b ⟨a, t.nm, y, x, - gapT W t x y⟩) := by
  have ia := (List.getElem?_eq_some_iff.mp ha).1
  have ib := (List.getElem?_eq_some_iff.mp hb).1
  have l1 : a < pl.length := by rw [h.len]; exact ia
  have l2 : b < (addPc pl a ⟨b, t.nm, x, y, gapT W t x y⟩).length := by rw [addPc_len, h.len]; exact ib
  refine ⟨by rw [addPc_len, addPc_len, h.len], fun k q hq => ?_, fun t' x' y' g a' b' ha' hb' => ?_⟩
  · rw [mem_addPc l2, mem_addPc l1] at hq
    rcases hq with (hq | ⟨rfl, rfl⟩) | ⟨rfl, rfl⟩
    · obtain ⟨t', x', y', g, r⟩ := h.of k q hq
      exact ⟨t', x', y', .inl g, r⟩
    · exact ⟨t, x, y, .inr ⟨rfl, rfl, rfl⟩, .inl ⟨ha, hb, rfl, rfl, rfl⟩⟩
    · exact ⟨t, x, y, .inr ⟨rfl, rfl, rfl⟩, .inr ⟨hb, ha, rfl, rfl, rfl⟩⟩
  · rcases g with g | ⟨rfl, rfl, rfl⟩
    · obtain ⟨⟨q, hq, r⟩, ⟨q', hq', r'⟩⟩ := h.has t' x' y' g a' b' ha' hb'
      exact ⟨⟨q, by rw [mem_addPc l2, mem_addPc l1]; exact .inl (.inl hq), r⟩, ⟨q', by rw [mem_addPc l2, mem_addPc l1]; exact .inl (.inl hq'), r'⟩⟩
    · have ea : a' = a := (List.getElem?_inj (List.getElem?_eq_some_iff.mp ha').1 n).mp (ha'.trans ha.symm)
      have eb : b' = b := (List.getElem?_inj (List.getElem?_eq_some_iff.mp hb').1 n).mp (hb'.trans hb.symm)
      subst ea eb
      exact ⟨⟨_, by rw [mem_addPc l2, mem_addPc l1]; exact .inl (.inr ⟨rfl, rfl⟩), rfl, rfl, rfl, rfl⟩, ⟨_, by rw [mem_addPc l2, mem_addPc l1]; exact .inr ⟨rfl, rfl⟩, rfl, rfl, rfl, rfl⟩⟩
/-! ### the inner lists change -/
def PlAt (H : Hp) (ls : List Addr) (pl : List (List Pc)) : Prop := Paired (fun l qs => ∃ xs : List Addr, H l = some (.lst (xs.map V.ref)) ∧ Paired (PcAt H) xs qs) ls pl
theorem PlAt.mono {H H' : Hp} (e : Ex H H') {ls : List Addr} {pl : List (List Pc)} (h : PlAt H ls pl) : PlAt H' ls pl := pr_mono h fun _ _ ⟨xs, q1, q2⟩ => ⟨xs, e _ _ q1, pr_mono q2 fun _ _ q => e _ _ q⟩
theorem PlAt.put {H : Hp} {ls : List Addr} {pl : List (List Pc)} (h : PlAt H ls pl) (n : ls.Nodup) {a : Nat} {l x : Addr} {q : Pc} (ha : ls[a]? = some l) (hx : PcAt H x q) :
    ∃ xs : List Addr, H l = some (.lst (xs.map V.ref)) ∧ xs.length = (pl.getD a []).length ∧ PlAt (upd H l (.lst (xs.map V.ref ++ [V.ref x]))) ls (addPc pl a q) := by
  obtain ⟨qs, hqs, xs, h1, h2⟩ := pr_at h ha
  have e0 : pl.getD a [] = qs := by rw [List.getD_eq_getElem?_getD, hqs]; rfl
  refine ⟨xs, h1, by rw [e0]; exact pr_len h2, pr_of (by rw [addPc_len]; exact pr_len h) fun i l' qs' hl' hqs' => ?_⟩
  have tups : ∀ {y : Addr} {z : Pc}, PcAt H y z → PcAt (upd H l (.lst (xs.map V.ref ++ [V.ref x]))) y z := fun hy => up_keep h1 hy (fun z => nomatch z)
  unfold addPc at hqs'
  rw [List.getElem?_set] at hqs'
  by_cases c : a = i
  · subst c
    rw [ha] at hl'
    cases hl'
    rw [if_pos rfl, if_pos (by rw [← pr_len h]; exact (List.getElem?_eq_some_iff.mp ha).1)] at hqs'
    cases hqs'
    rw [e0]
    exact ⟨xs ++ [x], by rw [upd_same, List.map_append]; rfl, Paired.snoc (pr_mono h2 fun _ _ r => tups r) (tups hx)⟩
  · rw [if_neg c] at hqs'
    obtain ⟨qs2, g0, ys, g1, g2⟩ := pr_at h hl'
    rw [hqs'] at g0
    cases g0
    have ne : l' ≠ l := fun z => c ((List.getElem?_inj (List.getElem?_eq_some_iff.mp ha).1 n).mp (by rw [ha, hl', z]))
    exact ⟨ys, by rw [upd_ne ne]; exact g1, pr_mono g2 fun _ _ r => tups r⟩
end K33


set_option Elab.async false
set_option linter.all false
set_option maxRecDepth 100000
set_option maxHeartbeats 8000000
namespace K33
open PySem PySem.Spec PyProof.Rows L2 K33M
def NumOk (W : Web) (kvs : List (Spot × V)) : Prop := ∀ (j : Nat) (sp : Spot), (spsOf W)[j]? = some sp → valV kvs sp = some (.int (j : Int))
theorem MDr.mono {P : Program} {w : World} {H H' : Hp} (e : Ex H H') {a : Addr} {kvs : List (Spot × V)} (h : MDr P w H a kvs) : MDr P w H' a kvs := by
  obtain ⟨es, h1, h2, h3⟩ := h
  exact ⟨es, Evl.ex_rd e h1, h2, fun x hx => (h3 x hx).mono fun _ _ q => e _ _ q⟩
def knF0 (s nu pcs : Addr) : List (Str × V) := [("all_spots", .ref s), ("numbers", .ref nu), ("pieces", .ref pcs)]
def sp_Knots_tie_up (P : Program) (w : World) (K : PySem.W.Frag) : Sp := fun vs H Q _ => ∃ (Vw : Hp) (p dx s nu pcs wp r : Addr) (ls : List Addr) (W : Web) (t : Tie) (kvs : List (Spot × V)) (pl : List (List Pc)) (G : Tie → Int → Int → Prop) (c : Nat), vs = [.ref p, .ref wp, .str t.nm] ∧
  Ex Vw H ∧ (∀ l ∈ ls, Vw l = none) ∧ ls.Nodup ∧ Vw p = some (.ins (cN K) dx (knF0 s nu pcs)) ∧ WebAt (cW K) Vw wp W r ∧ WOk W ∧ t ∈ W.ts ∧ MDr P w Vw nu kvs ∧ NumOk W kvs ∧ Vw pcs = some (.lst (ls.map V.ref)) ∧ PlAt H ls pl ∧ PlG W G pl ∧ (∀ a, (pl.getD a []).length ≤ c) ∧ c ≤ 10000 ∧
  ∀ H' pl', Ex Vw H' → PlAt H' ls pl' → PlG W (fun t' x y => G t' x y ∨ (t' = t ∧ Gap t x y)) pl' → (∀ a, (pl'.getD a []).length ≤ c + 100) → Q .non H'
theorem cut1 (x : V) (r : List V) : cutV (x :: r) (some 1) none = r := by
  have e1 : HT.sIx (x :: r).length 0 (some 1) = 1 := by
    simp [HT.sIx]
    try omega
  have e2 : HT.sIx (x :: r).length (x :: r).length none = r.length + 1 := by
    simp [HT.sIx]
  unfold cutV
  rw [e1, e2]
  simp
theorem addPc_le {pl : List (List Pc)} {a k c : Nat} {q : Pc} (h : ∀ a, (pl.getD a []).length ≤ c) : ((addPc pl a q).getD k []).length ≤ c + 1 := by
  unfold addPc
  rw [List.getD_eq_getElem?_getD, List.getElem?_set]
  by_cases e : a = k
  · rw [if_pos e]
    split
    · have := h a
      simp only [Option.getD_some, List.length_append, List.length_singleton]
      omega
    · simp
  · rw [if_neg e]
    have := h k
    rw [List.getD_eq_getElem?_getD] at this
    omega
section
variable {P : Program} {w : World} {K : PySem.W.Frag} {mg : Str → Option Value} {base : Heap}
theorem o_Knots_tie_up (T : Tx K mg) : FO P w K mg base 8 (He.ma K (He.ga K "Knots") "tie_up") ["self", "web", "tie"] (sp_Knots_tie_up P w K) := def_ok T.f_Knots_tie_up sc_Knots_tie_up (fun _ _ _ _ _ _ us hl => match us, hl with | [_, _, _], _ => rfl)
    (fun _ _ _ _ h => by obtain ⟨_, _, _, _, _, _, _, _, _, _, _, _, _, _, _, rfl, _⟩ := h; rfl) fun cdv A outer s H vs Q E hr h => by
  have hu := hu_of hr
  obtain ⟨Vw, p, dx, s', nu, pcs, wp, r, ls, W, t, kvs, pl, G, c, rfl, hV, hls0, hnd, hp, hw, ok, ht, hmd, hnum, hpcs, hpl, plg, hc, hc2, hQ⟩ := h
  obtain ⟨wdx, wds, wdt, tas, w1, w2, w3, w4⟩ := hw.ex
  have tk := ok.ts.ok t ht
  refine ⟨_, (pss_cons (ps_set (i := 3) sc_Knots_tie_up.nd rfl (.inl rfl) (c_fn (o_places_of_knots T) T.g_places_of_knots (hr.mono (by decide)) (pa_cons (pv 1) (pa_cons (pv 2) pa_nil))))
      (pss_one (ps_for PassesOwn.never rfl (pi_zip (by rfl) T.z_zip (pa_cons (pv 3) (pa_cons (pe_slice sl_list (pv 3) (po_some pe_int) po_none) pa_nil))) (pg_tup rfl (pgs_cons (pg_name (i := 4) sc_Knots_tie_up.nd rfl (.inl rfl)) (pgs_cons (pg_name (i := 5) sc_Knots_tie_up.nd rfl (.inl rfl)) pgs_nil)))
        (pss_cons (ps_asg (pe_lc (own := [("place", 9)]) rfl sc_Knots_tie_up.nd (pi_tup (pe_tup (pa_cons (pv 4) (pa_cons (pv 5) pa_nil)))) (blkOk_by (by rfl)) (fun _ _ _ _ _ => (pg_name (i := 9) sc_Knots_tie_up.nd rfl (.inl rfl))) (fun _ _ _ _ _ => pts_nil) (fun _ _ _ _ _ => (pe_mgetK (P := P) (w := w) rfl rfl hu (pe_fldK (K := K) rfl (pv 0) rfl) (c_fn (o_spot_at T) T.g_spot_at (hr.mono (by decide)) (pa_cons (pv 1) (pa_cons (pv 2) (pa_cons (pv 9) pa_nil)))) (fun _ _ => rfl)))) (pg_unl rfl (pgs_cons (pg_name (i := 6) sc_Knots_tie_up.nd rfl (.inl rfl)) (pgs_cons (pg_name (i := 7) sc_Knots_tie_up.nd rfl (.inl rfl)) pgs_nil))))
        (pss_cons (ps_set (i := 8) sc_Knots_tie_up.nd rfl (.inl rfl) (c_fn (o_turn_along T) T.g_turn_along (hr.mono (by decide)) (pa_cons (pv 1) (pa_cons (pv 2) (pa_cons (pv 4) (pa_cons (pv 5) pa_nil))))))
        (pss_cons (ps_expr (pe_bm PySem.F.plainAttrs_list PySem.F.slot_list_append PySem.F.type_list_append mt_append (pe_ix ix_list (pe_fld (pv 0) rfl) (pv 6) (fun _ _ => rfl)) (pa_cons (pe_tup (pa_cons (pv 7) (pa_cons (pv 2) (pa_cons (pv 4) (pa_cons (pv 5) (pa_cons (pv 8) pa_nil)))))) pa_nil)))
        (pss_one (ps_expr (pe_bm PySem.F.plainAttrs_list PySem.F.slot_list_append PySem.F.type_list_append mt_append (pe_ix ix_list (pe_fld (pv 0) rfl) (pv 7) (fun _ _ => rfl)) (pa_cons (pe_tup (pa_cons (pv 6) (pa_cons (pv 2) (pa_cons (pv 5) (pa_cons (pv 4) (pa_cons (pe_un un_neg (pv 8)) pa_nil)))))) pa_nil)))))))))), ?_⟩
  dsimp only [tCKw, tM1, tVals, tVar, tC, tB, tAnd, tOr, tNot, tAndV, tOrV, tNotV, tIf, tNext, tSeq, tBreak, tCont, tDrop, tRet, tRetN, tIfS, tNever, gName, gNil, gCons, gTup, gSub, tAsg, tPar, tAug, tTest, tChain, tFld, sFld, tNil, tCons, tTup, tLst, tCall, tMeth, tCB, tBM, tNoPart, tPart, tSl, tOp, tUn, rI, rI0, rU, iList, iTup, iRng1, iRng2, iStr, iEnum, iZip, iItems, iVals, tDGet, tDIn, tDNotIn, sDPut, tDGet2, tDNewK, tDNewT, tYes, fin, List.cons_append, List.nil_append, bx, cxOf, Cx.nox]
  have hhs : t.hs.length ≤ 12 := by
    have := ok.ts.hh
    have := sum_one (fun t : Tie => t.hs.length) ht
    omega
  have hpll : (plc t).length = t.hs.length + 2 := by simp [plc]
  refine ⟨_, rfl, _, rfl, wp, r, W, t, rfl, hw.mono hV, ok, ht, fun l0 H1 hl0 e1 hl1 => ?_⟩
  refine ⟨_, rfl, _, rfl, _, rfl, _, _, rfl, sql hl1, fun q hq => ?_⟩
  have hcut : cutV ((plc t).map V.int) (some 1) none = ((plc t).drop 1).map V.int := by
    show cutV (V.int 0 :: (t.hs.map (·.1) ++ [t.len]).map V.int) (some 1) none = _
    rw [cut1]
    rfl
  rw [hcut]
  have e2 : Ex H1 (upd H1 q (.lst (((plc t).drop 1).map V.int))) := Evl.Ex.new hq
  have hq2 : upd H1 q (.lst (((plc t).drop 1).map V.int)) q = some (.lst (((plc t).drop 1).map V.int)) := upd_same
  have hl2 := e2 _ _ hl1
  have e12 := e1.trans e2
  have hqn := Evl.fresh_back e1 hq
  generalize upd H1 q (.lst (((plc t).drop 1).map V.int)) = H2 at e2 hq2 hl2 e12 ⊢
  have nl : ∀ l ∈ ls, l ≠ l0 ∧ l ≠ q := fun l hl => by
    obtain ⟨i, hi⟩ := List.getElem?_of_mem hl
    obtain ⟨qs, _, xs, h1, _⟩ := pr_at hpl hi
    exact ⟨(fun z => by rw [z, hl0] at h1; cases h1), (fun z => by rw [z, hqn] at h1; cases h1)⟩
  let Gn : Nat → Tie → Int → Int → Prop := fun n t' x y => G t' x y ∨ (t' = t ∧ ∃ i : Nat, i < n ∧ (plc t)[i]? = some x ∧ (plc t)[i + 1]? = some y)
  refine ⟨l0, q, (plc t).map V.int, ((plc t).drop 1).map V.int, rfl, sql hl2, sql hq2, for_it (walk_zip (n := t.hs.length + 1) (by rw [List.length_map, List.length_map, List.length_drop, hpll]; omega)) (fun n σ H' => ∃ x4 x5 x6 x7 x8 x9 pl', σ = [some (.ref p), some (.ref wp), some (.str t.nm), some (.ref l0), x4, x5, x6, x7, x8, x9] ∧
      Ex Vw H' ∧ H' l0 = some (.lst ((plc t).map V.int)) ∧ H' q = some (.lst (((plc t).drop 1).map V.int)) ∧ PlAt H' ls pl' ∧ PlG W (Gn n) pl' ∧ (∀ a, (pl'.getD a []).length ≤ c + 2 * n)) ?_ (fun n σ H' _ ⟨_, _, _, _, _, _, _, _, _, h1, h2, _⟩ => ⟨sql h1, sql h2⟩) (fun n x σ H3 H' hn w y => ?_) fun σ H' w => ?_⟩
  · refine ⟨_, _, _, _, _, _, pl, rfl, hV.trans e12, hl2, hq2, hpl.mono e12, plg.mono fun t' x y => ⟨.inl, ?_⟩, fun a => by have := hc a; omega⟩
    rintro (h | ⟨_, i, hi, _⟩)
    · exact h
    · exact absurd hi (Nat.not_lt_zero _)
  · obtain ⟨x4, x5, x6, x7, x8, x9, pl', rfl, eV, g1, g2, gpl, gplg, gc⟩ := w
    obtain ⟨T0, y1, y2, rfl, hT, rfl, hy1, hy2⟩ := y
    obtain ⟨xa, hxa⟩ := at_lt (l := plc t) (i := n) (by omega)
    obtain ⟨xb, hxb⟩ := at_lt (l := plc t) (i := n + 1) (by omega)
    have hy1 : ((plc t).map V.int)[n]? = some y1 := hy1
    have hy2 : (((plc t).drop 1).map V.int)[n]? = some y2 := hy2
    rw [List.getElem?_map, hxa] at hy1
    rw [List.getElem?_map, List.getElem?_drop, Nat.add_comm 1 n, hxb] at hy2
    cases hy1
    cases hy2
    have gap : Gap t xa xb := ⟨n, hxa, hxb⟩
    obtain ⟨r1, r2, r3, r4⟩ := gap_lt tk gap
    obtain ⟨a, ha⟩ := List.getElem?_of_mem (knot_in ok ht (List.mem_of_getElem? hxa))
    obtain ⟨b, hb⟩ := List.getElem?_of_mem (knot_in ok ht (List.mem_of_getElem? hxb))
    have e3 : Ex H3 (upd H3 T0 (.tup [.int xa, .int xb])) := Evl.Ex.new hT
    have hT2 : upd H3 T0 (.tup [.int xa, .int xb]) T0 = some (.tup [.int xa, .int xb]) := upd_same
    show gTup K 2 _ (.ref T0) _ (upd H3 T0 (.tup [.int xa, .int xb])) _
    have eV3 := eV.trans e3
    have gpl3 := gpl.mono e3
    replace g1 := e3 _ _ g1
    replace g2 := e3 _ _ g2
    generalize upd H3 T0 (.tup [.int xa, .int xb]) = H4 at e3 hT2 eV3 gpl3 g1 g2 ⊢
    dsimp only [tCKw, tM1, tVals, tVar, tC, tB, tAnd, tOr, tNot, tAndV, tOrV, tNotV, tIf, tNext, tSeq, tBreak, tCont, tDrop, tRet, tRetN, tIfS, tNever, gName, gNil, gCons, gTup, gSub, tAsg, tPar, tAug, tTest, tChain, tFld, sFld, tNil, tCons, tTup, tLst, tCall, tMeth, tCB, tBM, tNoPart, tPart, tSl, tOp, tUn, rI, rI0, rU, iList, iTup, iRng1, iRng2, iStr, iEnum, iZip, iItems, iVals, tDGet, tDIn, tDNotIn, sDPut, tDGet2, tDNewK, tDNewT, tYes, fin, List.cons_append, List.nil_append, bx, cxOf, Cx.nox]
    refine ⟨T0, _, rfl, sqt hT2, rfl, _, _, rfl, _, _, rfl, rfl, ?_⟩
    refine ⟨_, rfl, _, rfl, Nat.le_of_ble_eq_true rfl, fun t1 ht1 => ⟨t1, rfl, ⟨_, sqt upd_same⟩, ?_⟩⟩
    have e4 : Ex H4 (upd H4 t1 (.tup [.int xa, .int xb])) := Evl.Ex.new ht1
    have cut : ∀ (i : Nat) (y : V), i < 2 → [V.int xa, V.int xb][i]? = some y → y = .int (if i = 0 then xa else xb) := fun i y hi hy => by
      match i, hi, hy with
      | 0, _, hy => cases hy; rfl
      | 1, _, hy => cases hy; rfl
    have eV4 := eV3.trans e4
    refine lc_pick (walk_tup (xs := [V.int xa, V.int xb])) (fun _ => true) (fun i _ y => y = .int ((if i = 0 then a else b : Nat) : Int)) (Nat.le_of_ble_eq_true rfl) (fun H e => sqt (e _ _ upd_same)) (fun _ _ _ _ _ r => r) gm_name (fun i y Ha Hb hi e5 Y => ?_) fun L Ha ys hL e5 hys pk => ?_
    · obtain ⟨rfl, hy⟩ := Y
      have hi : i < 2 := hi
      have hcc := cut i y hi hy
      have c1 : 0 ≤ (if i = 0 then xa else xb) ∧ (if i = 0 then xa else xb) ≤ t.len ∧ (spsOf W)[(if i = 0 then a else b)]? = some (spotOf t (if i = 0 then xa else xb)) := by
        split
        · exact ⟨by omega, by omega, ha⟩
        · exact ⟨by omega, by omega, hb⟩
      generalize (if i = 0 then xa else xb) = cx at hcc c1
      generalize (if i = 0 then a else b) = k at c1
      subst hcc
      have eV5 := eV4.trans e5
      refine ⟨rfl, fun Qy Qn kk _ => ?_⟩
      refine ⟨_, rfl, p, _, _, _, _, rfl, eV5 _ _ hp, T.c_Knots, T.n_Knots_numbers, rfl, _, rfl, _, rfl, _, rfl, wp, r, W, t, cx, rfl, hw.mono eV5, ok, ht, c1.1, c1.2.1, fun y H6 e6 hy => ⟨nu, kvs, spotOf t cx, _, rfl, hmd.mono (eV5.trans e6), hy, hnum k _ c1.2.2, kk rfl _ _ e6 rfl⟩⟩
    · have hys2 : ys = [.int (a : Int), .int (b : Int)] := pk.eq
      subst hys2
      have eV5 := eV4.trans e5
      refine ⟨L, _, rfl, sql hys, rfl, _, _, rfl, _, _, rfl, rfl, ?_⟩
      refine ⟨_, rfl, _, rfl, _, rfl, _, rfl, wp, r, W, t, xa, xb, rfl, hw.mono eV5, ok, ht, r1, r2, r3, r4, fun H6 e6 => ?_⟩
      have eV6 := eV5.trans e6
      have gpl6 := (gpl3.mono e4).mono (e5.trans e6)
      have g16 := e6 _ _ (e5 _ _ (e4 _ _ g1))
      have g26 := e6 _ _ (e5 _ _ (e4 _ _ g2))
      have ia : a < ls.length := by rw [pr_len gpl6, gplg.len]; exact (List.getElem?_eq_some_iff.mp ha).1
      have ib : b < ls.length := by rw [pr_len gpl6, gplg.len]; exact (List.getElem?_eq_some_iff.mp hb).1
      obtain ⟨la, hla⟩ := at_lt ia
      obtain ⟨lb, hlb⟩ := at_lt ib
      have one : ∀ (H7 : Hp) (pl7 : List (List Pc)) (k : Nat) (lk : Addr) (u : Addr) (q1 : Pc), PlAt H7 ls pl7 → (∀ a, (pl7.getD a []).length ≤ 20000) → ls[k]? = some lk → PcAt H7 u q1 → Ex Vw H7 → H7 l0 = some (.lst ((plc t).map V.int)) → H7 q = some (.lst (((plc t).drop 1).map V.int)) →
          ∀ Q0 : VK, (∀ H8, Ex Vw H8 → PlAt H8 ls (addPc pl7 k q1) → H8 l0 = some (.lst ((plc t).map V.int)) → H8 q = some (.lst (((plc t).drop 1).map V.int)) → Q0 .non H8) → rAppend (.ref lk) [.ref u] H7 Q0 := fun H7 pl7 k lk u q1 hpl7 hc7 hlk hu eV7 m1 m2 Q0 hQ0 => by
        obtain ⟨xs, hx1, hx2, hx3⟩ := hpl7.put hnd hlk hu
        have nk := nl lk (List.mem_of_getElem? hlk)
        exact ⟨lk, _, _, rfl, rfl, hx1, Evl.sz_lt (by rw [List.length_map, hx2]; have := hc7 k; omega), hQ0 _ (eV7.mut (hls0 lk (List.mem_of_getElem? hlk))) hx3 (by rw [upd_ne nk.1.symm]; exact m1) (by rw [upd_ne nk.2.symm]; exact m2)⟩
      obtain ⟨qsa, _, xsa, ha1, _⟩ := pr_at gpl6 hla
      refine ⟨_, rfl, p, _, _, _, _, rfl, eV6 _ _ hp, T.c_Knots, T.n_Knots_pieces, rfl, _, rfl, pcs, _, _, .ref la, rfl, rfl, sql (eV6 _ _ hpcs), atI_nat (by rw [List.getElem?_map, hla]; rfl), .inl ⟨rfl, _, sql ha1⟩, _, rfl, _, rfl, _, rfl, _, rfl, _, rfl, Nat.le_of_ble_eq_true rfl, fun u hu => ?_⟩
      have e7 : Ex H6 (upd H6 u (.tup [.int (b : Int), .str t.nm, .int xa, .int xb, .int (gapT W t xa xb)])) := Evl.Ex.new hu
      have c1 : ∀ a', ((addPc pl' a ⟨b, t.nm, xa, xb, gapT W t xa xb⟩).getD a' []).length ≤ c + 2 * n + 1 := fun a' => addPc_le gc
      dsimp only [tCKw, tM1, tVals, tVar, tC, tB, tAnd, tOr, tNot, tAndV, tOrV, tNotV, tIf, tNext, tSeq, tBreak, tCont, tDrop, tRet, tRetN, tIfS, tNever, gName, gNil, gCons, gTup, gSub, tAsg, tPar, tAug, tTest, tChain, tFld, sFld, tNil, tCons, tTup, tLst, tCall, tMeth, tCB, tBM, tNoPart, tPart, tSl, tOp, tUn, rI, rI0, rU, iList, iTup, iRng1, iRng2, iStr, iEnum, iZip, iItems, iVals, tDGet, tDIn, tDNotIn, sDPut, tDGet2, tDNewK, tDNewT, tYes, fin, List.cons_append, List.nil_append, bx, cxOf, Cx.nox]
      refine one _ pl' a la u ⟨b, t.nm, xa, xb, gapT W t xa xb⟩ (gpl6.mono e7) (fun a => by have := gc a; omega) hla upd_same (eV6.trans e7) (e7 _ _ g16) (e7 _ _ g26) _ fun H8 eV8 gpl8 m1 m2 => ?_
      obtain ⟨qsb, _, xsb, hb1, _⟩ := pr_at gpl8 hlb
      refine ⟨_, rfl, p, _, _, _, _, rfl, eV8 _ _ hp, T.c_Knots, T.n_Knots_pieces, rfl, _, rfl, pcs, _, _, .ref lb, rfl, rfl, sql (eV8 _ _ hpcs), atI_nat (by rw [List.getElem?_map, hlb]; rfl), .inl ⟨rfl, _, sql hb1⟩, _, rfl, _, rfl, _, rfl, _, rfl, _, rfl, _, rfl, Nat.le_of_ble_eq_true rfl, fun u2 hu2 => ?_⟩
      have e9 : Ex H8 (upd H8 u2 (.tup [.int (a : Int), .str t.nm, .int xb, .int xa, .int (-gapT W t xa xb)])) := Evl.Ex.new hu2
      refine one _ _ b lb u2 ⟨a, t.nm, xb, xa, -gapT W t xa xb⟩ (gpl8.mono e9) (fun a => by have := c1 a; omega) hlb upd_same (eV8.trans e9) (e9 _ _ m1) (e9 _ _ m2) _ fun H10 eV10 gpl10 m3 m4 => ?_
      refine ⟨_, _, _, _, _, _, _, rfl, eV10, m3, m4, gpl10, (gplg.add (spsOf_nodup ok) ha hb).mono fun t' x y => ⟨?_, ?_⟩, fun a' => ?_⟩
      · rintro ((h | ⟨rfl, i, hi, h1, h2⟩) | ⟨rfl, rfl, rfl⟩)
        · exact .inl h
        · exact .inr ⟨rfl, i, by omega, h1, h2⟩
        · exact .inr ⟨rfl, n, by omega, hxa, hxb⟩
      · rintro (h | ⟨rfl, i, hi, h1, h2⟩)
        · exact .inl (.inl h)
        · by_cases ci : i < n
          · exact .inl (.inr ⟨rfl, i, ci, h1, h2⟩)
          · have : i = n := by omega
            subst this
            rw [hxa] at h1
            rw [hxb] at h2
            exact .inr ⟨rfl, (Option.some.inj h1).symm, (Option.some.inj h2).symm⟩
      · have := addPc_le (pl := addPc pl' a ⟨b, t.nm, xa, xb, gapT W t xa xb⟩) (a := b) (k := a') (q := ⟨a, t.nm, xb, xa, -gapT W t xa xb⟩) c1
        omega
  · obtain ⟨x4, x5, x6, x7, x8, x9, pl', rfl, eV, g1, g2, gpl, gplg, gc⟩ := w
    refine hQ H' pl' eV gpl (gplg.mono fun t' x y => ⟨?_, ?_⟩) fun a => by have := gc a; omega
    · rintro (h | ⟨rfl, i, _, h1, h2⟩)
      · exact .inl h
      · exact .inr ⟨rfl, i, h1, h2⟩
    · rintro (h | ⟨rfl, i, h1, h2⟩)
      · exact .inl h
      · have := (List.getElem?_eq_some_iff.mp h2).1
        exact .inr ⟨rfl, i, by omega, h1, h2⟩
end
end K33


set_option Elab.async false
set_option linter.all false
set_option maxRecDepth 100000
set_option maxHeartbeats 8000000
namespace K33
open PySem PySem.Spec PyProof.Rows L2 K33M
theorem dcM_it {P : Program} {w : World} {J : It} {n : Nat} {G : Hp → Prop} {Y : Nat → Hp → V → Hp → Prop} (wk : Walk J n G Y) {g : TG} {tt : TT} {tk tv : TE} {vs : List Nat} {σ : L2.St} {H1 : Hp} {D : Addr} {Qd : Hp → Prop} (Pv : Nat → Hp → Prop) (h0 : Pv 0 (upd H1 D (.ext (mixH P w D [])))) (hG : ∀ i H, i ≤ n → Pv i H → G H)
    (hs : ∀ i x H H', i < n → Pv i H → Y i H x H' → g x (wipe σ vs) H' fun σ2 H2 => wipe σ2 vs = wipe σ vs ∧ tt σ2 H2 fun b H3 =>
      if b = true then tk σ2 H3 fun y H4 => tv σ2 H4 fun z H5 => ∃ k H6, MPut P w H5 D k y z H6 ∧ Pv (i + 1) H6 else Pv (i + 1) H3) (hd : ∀ H, Pv n H → Qd H) :
    ∃ W : Nat → Nat → Hp → Prop, (∃ m, W 0 m (upd H1 D (.ext (mixH P w D [])))) ∧ ∀ i m H, W i m H →
      (J.stop i H ∧ Qd H) ∨ (J.go i H ∧ ∃ Nx : Hp → Prop, (∀ H', Nx H' → ∃ m', m' < m ∧ W (i + 1) m' H') ∧ ∀ x H', J.yld i H x H' → g x (wipe σ vs) H' fun σ2 H2 => wipe σ2 vs = wipe σ vs ∧ tt σ2 H2 fun b H3 =>
        if b = true then tk σ2 H3 fun y H4 => tv σ2 H4 fun z H5 => ∃ k H6, MPut P w H5 D k y z H6 ∧ Nx H6 else Nx H3) := by
  refine ⟨fun i m H => m = n - i ∧ i ≤ n ∧ Pv i H, ⟨n, by simp, Nat.zero_le _, h0⟩, ?_⟩
  rintro i m H ⟨rfl, hi, p⟩
  have q := hG i H hi p
  by_cases hlt : i < n
  · refine .inr ⟨wk.goes i H hlt q, Pv (i + 1), fun H' p' => ⟨n - (i + 1), by omega, rfl, hlt, p'⟩, fun x H' y => hs i x H H' hlt p (wk.yields i H x H' hlt q y)⟩
  · have e : i = n := by omega
    subst e
    exact .inl ⟨wk.stops H q, hd H p⟩
theorem spsT_app (a b : List Tie) : spsT (a ++ b) = spsT a ++ spsT b := List.flatMap_append
theorem SpV.lst {H : Hp} {l : Addr} {xs : List V} {o' : HO} (hl : H l = some (.lst xs)) {y : V} {sp : Spot} (h : SpV H y sp) : SpV (upd H l o') y sp := K33M.SpV.mono (fun _ _ q => up_keep hl q (fun z => nomatch z)) h
theorem pr_app {α β : Type} {R : α → β → Prop} : ∀ {a : List α} {b : List β} {c : List α} {d : List β}, Paired R a b → Paired R c d → Paired R (a ++ c) (b ++ d)
  | _, _, _, _, .nil, h => h
  | _, _, _, _, .cons r t, h => .cons r (pr_app t h)
def hidL (ls : List Addr) (H : Hp) : Hp := fun a => if a ∈ ls then none else H a
theorem hidL_ex {ls : List Addr} {H : Hp} : Evl.Ex (hidL ls H) H := fun a o h => by
  unfold hidL at h
  split at h
  · cases h
  · exact h
theorem hidL_in {ls : List Addr} {H : Hp} {a : Addr} (h : a ∈ ls) : hidL ls H a = none := by unfold hidL; rw [if_pos h]
theorem hidL_out {ls : List Addr} {H : Hp} {a : Addr} (h : a ∉ ls) : hidL ls H a = H a := by unfold hidL; rw [if_neg h]
theorem MD.mono {P : Program} {w : World} {H H' : Hp} (e : Ex H H') {a : Addr} {kvs : List (Spot × V)} (h : MD P w H a kvs) : MD P w H' a kvs :=
  let ⟨es, h1, h2, h3⟩ := h; ⟨es, e _ _ h1, h2, fun x hx => K33M.SpV.mono (fun _ _ q => e _ _ q) (h3 x hx)⟩
def FullG (W : Web) (t : Tie) (x y : Int) : Prop := t ∈ W.ts ∧ Gap t x y
structure KnAt (K : PySem.W.Frag) (H : Hp) (x : Addr) (W : Web) (pl : List (List Pc)) (pw kr : Addr) : Prop where
  ex : ∃ dx s nu pcs, H x = some (.ins (cN K) dx (knF s nu pcs pw kr)) ∧ SpsAt H s (spsOf W) ∧ PcsAt H pcs pl
theorem KnAt.mono {K : PySem.W.Frag} {H H' : Hp} (e : Ex H H') {x : Addr} {W : Web} {pl : List (List Pc)} {pw kr : Addr} (h : KnAt K H x W pl pw kr) : KnAt K H' x W pl pw kr :=
  let ⟨dx, s, nu, pcs, h1, h2, h3⟩ := h.ex; ⟨dx, s, nu, pcs, e _ _ h1, h2.mono e, h3.mono e⟩
def sp_Knots_init (K : PySem.W.Frag) : Sp := fun vs H Q _ => ∃ (x dx wp r : Addr) (W : Web), vs = [.ref x, .ref wp] ∧ H x = some (.ins (cN K) dx []) ∧ WebAt (cW K) (hid x H) wp W r ∧ WOk W ∧
  ∀ H' Vw pl pw kr, Ex (hid x H) Vw → Ex Vw H' → Vw pw = none → Vw kr = none → KnAt K Vw x W pl pw kr → (∀ a xs, hid x H a = some (.lst xs) → KnAt K (hid a Vw) x W pl pw kr) → PlG W (FullG W) pl → H' pw = some (.lst []) → H' kr = some (.dT []) → Q .non H'
section
variable {P : Program} {w : World} {K : PySem.W.Frag} {mg : Str → Option Value} {base : Heap}
theorem o_Knots_init (T : Tx K mg) : FO P w K mg base 9 (He.ma K (He.ga K "Knots") "__init__") ["self", "web"] (sp_Knots_init K) := def_ok T.f_Knots_init sc_Knots_init (fun _ _ _ _ _ _ us hl => match us, hl with | [_, _], _ => rfl)
    (fun _ _ _ _ h => by obtain ⟨_, _, _, _, _, rfl, _⟩ := h; rfl) fun cdv A outer s H vs Q E hr h => by
  have hu := hu_of hr
  obtain ⟨x, dx, wp, r, W, rfl, hx, hw, ok, hQ⟩ := h
  refine ⟨_, (pss_cons (ps_fld (pv 0) (c_m0 (pv 1) T.c_Web T.m_Web_persons (o_Web_persons T) (hr.mono (by decide))) rfl)
      (pss_cons (ps_for PassesOwn.never rfl (pi_list (c_m0 (pv 1) T.c_Web T.m_Web_ties (o_Web_ties T) (hr.mono (by decide)))) (pg_name (i := 2) sc_Knots_init.nd rfl (.inr rfl))
        (pss_one (ps_expr (pe_bm PySem.F.plainAttrs_list PySem.F.slot_list_extend PySem.F.type_list_extend mt_extend (pe_fld (pv 0) rfl) (pa_cons (pe_lc (own := [("place", 3), ("state", 4)]) rfl sc_Knots_init.nd (pi_tup (c_m (pv 1) T.c_Web T.m_Web_hearers (o_Web_hearers T) (hr.mono (by decide)) (pa_cons (pv 2) pa_nil))) (blkOk_by (by rfl)) (fun _ _ _ _ _ => (pg_tupK (K := K) 2 rfl rfl (pgs_cons (pg_name (i := 3) sc_Knots_init.nd rfl (.inl rfl)) (pgs_cons (pg_name (i := 4) sc_Knots_init.nd rfl (.inl rfl)) pgs_nil)))) (fun _ _ _ _ _ => pts_nil) (fun _ _ _ _ _ => (pe_tup (pa_cons (pv 2) (pa_cons (pv 3) pa_nil))))) pa_nil)))))
      (pss_cons (ps_fld (pv 0) (pe_dcM (own := [("number", 5), ("spot", 6)]) hr.units0 rfl sc_Knots_init.nd (pi_enum (by rfl) T.z_enumerate (pa_cons (pe_fld (pv 0) rfl) pa_nil)) (blkOk_by (by rfl)) (fun _ _ _ _ _ => (pg_tupK (K := K) 2 rfl rfl (pgs_cons (pg_name (i := 5) sc_Knots_init.nd rfl (.inl rfl)) (pgs_cons (pg_name (i := 6) sc_Knots_init.nd rfl (.inl rfl)) pgs_nil)))) (fun _ _ _ _ _ => pts_nil) (fun _ _ _ _ _ => (pv 6)) (fun _ _ _ _ _ => (pv 5))) rfl)
      (pss_cons (ps_fld (pv 0) (pe_lc (own := [("spot", 6)]) rfl sc_Knots_init.nd (pi_list (pe_fld (pv 0) rfl)) (blkOk_by (by rfl)) (fun _ _ _ _ _ => (pg_name (i := 6) sc_Knots_init.nd rfl (.inl rfl))) (fun _ _ _ _ _ => pts_nil) (fun _ _ _ _ _ => (pe_lst pa_nil))) rfl)
      (pss_cons (ps_for PassesOwn.never rfl (pi_list (c_m0 (pv 1) T.c_Web T.m_Web_ties (o_Web_ties T) (hr.mono (by decide)))) (pg_name (i := 2) sc_Knots_init.nd rfl (.inr rfl))
        (pss_one (ps_expr (c_m (pv 0) T.c_Knots T.m_Knots_tie_up (o_Knots_tie_up T) (hr.mono (by decide)) (pa_cons (pv 1) (pa_cons (pv 2) pa_nil))))))
      (pss_cons (ps_fld (pv 0) (pe_lst pa_nil) rfl)
      (pss_one (ps_fld (pv 0) pe_dnewT rfl)))))))), ?_⟩
  dsimp only [tCKw, tM1, tVals, tVar, tC, tB, tAnd, tOr, tNot, tAndV, tOrV, tNotV, tIf, tNext, tSeq, tBreak, tCont, tDrop, tRet, tRetN, tIfS, tNever, gName, gNil, gCons, gTup, gSub, tAsg, tPar, tAug, tTest, tChain, tFld, sFld, tNil, tCons, tTup, tLst, tCall, tMeth, tCB, tBM, tNoPart, tPart, tSl, tOp, tUn, rI, rI0, rU, iList, iTup, iRng1, iRng2, iStr, iEnum, iZip, iItems, iVals, tDGet, tDIn, tDNotIn, sDPut, tDGet2, tDNewK, tDNewT, tYes, fin, List.cons_append, List.nil_append, bx, cxOf, Cx.nox]
  have hwm : ∀ {H1 : Hp}, Ex (hid x H) H1 → WebAt (cW K) H1 wp W r := fun e => hw.mono e
  obtain ⟨wdx, wds, wdt, tas, w1, w2, w3, w4⟩ := hw.ex
  have hV0 : hid x H x = none := hid_same
  have hE : Ex (hid x H) H := hid_ex
  generalize hid x H = V0 at hwm w1 w2 w3 w4 hV0 hE hQ hw
  refine ⟨_, rfl, wp, _, _, rfl, hE _ _ w1, rfl, wp, r, W, rfl, hwm hE, fun l0 H1 hl0 e1 hl1 => ?_⟩
  have hx1 := e1 _ _ hx
  have n0x : l0 ≠ x := fun z => by rw [z, hx] at hl0; cases hl0
  refine ⟨_, rfl, x, _, dx, _, rfl, hx1, T.c_Knots, T.n_Knots_all_spots, Nat.lt_of_sub_eq_succ rfl, ?_⟩
  have hV1 : Ex V0 (upd H1 x (.ins (cN K) dx (putF "all_spots" (.ref l0) []))) := (hE.trans e1).mut hV0
  have hx2 : upd H1 x (.ins (cN K) dx (putF "all_spots" (.ref l0) [])) x = some (.ins (cN K) dx [("all_spots", .ref l0)]) := upd_same
  have hl2 : upd H1 x (.ins (cN K) dx (putF "all_spots" (.ref l0) [])) l0 = some (.lst (W.ps.map fun q => V.str q.1)) := by rw [upd_ne n0x]; exact hl1
  have hl0V : V0 l0 = none := Evl.fresh_back hE hl0
  generalize upd H1 x (.ins (cN K) dx (putF "all_spots" (.ref l0) [])) = H2 at hV1 hx2 hl2 ⊢
  refine ⟨_, rfl, wp, _, _, rfl, hV1 _ _ w1, rfl, wp, r, W, rfl, hwm hV1, fun lt H3 hlt e3 hlt3 => ⟨lt, rfl, ⟨_, sql hlt3⟩, ?_⟩⟩
  have ntx : lt ≠ x := fun z => by rw [z, hx2] at hlt; cases hlt
  have nt0 : lt ≠ l0 := fun z => by rw [z, hl2] at hlt; cases hlt
  refine for_it (walk_list (xs := W.ts.map fun t => V.str t.nm)) (fun n σ H' => ∃ x2 x3 x4 x5 x6 ys, σ = [some (.ref x), some (.ref wp), x2, x3, x4, x5, x6] ∧ Ex V0 H' ∧ H' x = some (.ins (cN K) dx [("all_spots", .ref l0)]) ∧ H' lt = some (.lst (W.ts.map fun t => V.str t.nm)) ∧
      H' l0 = some (.lst ys) ∧ Paired (fun y sp => SpV H' y sp) ys (W.ps.map (fun q => Spot.p q.1) ++ spsT (W.ts.take n))) ?_ (fun n σ H' _ ⟨_, _, _, _, _, _, _, _, _, h1, _⟩ => sql h1) (fun n y σ H' H4 hn wv yv => ?_) fun σ H4 wv => ?_
  · refine ⟨_, _, _, _, _, _, rfl, hV1.trans e3, e3 _ _ hx2, hlt3, e3 _ _ hl2, ?_⟩
    rw [List.take_zero]
    show Paired _ _ (_ ++ [])
    rw [List.append_nil]
    refine pr_of (by simp) fun i a b h1 h2 => ?_
    rw [List.getElem?_map] at h1 h2
    cases e : W.ps[i]? with
    | none => rw [e] at h1; cases h1
    | some q =>
      rw [e] at h1 h2
      cases h1
      cases h2
      rfl
  · obtain ⟨x2, x3, x4, x5, x6, ys, rfl, eV, gx, gt, g0, gp⟩ := wv
    obtain ⟨rfl, hy⟩ := yv
    rw [List.length_map] at hn
    have htn : W.ts[n]? = some W.ts[n] := List.getElem?_eq_getElem hn
    generalize W.ts[n] = t at htn
    rw [List.getElem?_map, htn] at hy
    have hy : some (V.str t.nm) = some y := hy
    cases hy
    have ht := List.mem_of_getElem? htn
    dsimp only [tCKw, tM1, tVals, tVar, tC, tB, tAnd, tOr, tNot, tAndV, tOrV, tNotV, tIf, tNext, tSeq, tBreak, tCont, tDrop, tRet, tRetN, tIfS, tNever, gName, gNil, gCons, gTup, gSub, tAsg, tPar, tAug, tTest, tChain, tFld, sFld, tNil, tCons, tTup, tLst, tCall, tMeth, tCB, tBM, tNoPart, tPart, tSl, tOp, tUn, rI, rI0, rU, iList, iTup, iRng1, iRng2, iStr, iEnum, iZip, iItems, iVals, tDGet, tDIn, tDNotIn, sDPut, tDGet2, tDNewK, tDNewT, tYes, fin, List.cons_append, List.nil_append, bx, cxOf, Cx.nox]
    refine ⟨_, rfl, x, _, _, _, _, rfl, gx, T.c_Knots, T.n_Knots_all_spots, rfl, .inl ⟨rfl, _, sql g0⟩, ?_⟩
    refine ⟨_, rfl, wp, _, _, rfl, eV _ _ w1, rfl, _, rfl, wp, r, W, t, rfl, hwm eV, ok, ht, fun v H5 e5 ⟨z0, zs, ev, hz, hp⟩ => ⟨z0, ev, ⟨_, hz.sq⟩, ?_⟩⟩
    have hlz := pr_len hp
    have hhs : t.hs.length ≤ 12 := by
      have := ok.ts.hh
      have := sum_one (fun t : Tie => t.hs.length) ht
      omega
    refine lc_pick (walk_tup (xs := zs.map V.ref)) (fun _ => true) (fun i H y => ∃ q, t.hs[i]? = some q ∧ SpV H y (.h t.nm q.1)) (by rw [List.length_map, hlz]; omega) (fun H e => (hz.mono e).sq) (fun i y H H' e ⟨q, h1, b, e1, h2⟩ => ⟨q, h1, b, e1, e _ _ h2 (fun _ z => nomatch z)⟩) gm_tup2 (fun i y Ha Hb hi e6 Y => ?_) fun L Ha ys2 hL e6 hys2 pk => ?_
    · obtain ⟨rfl, hy⟩ := Y
      rw [List.length_map] at hi
      rw [List.getElem?_map, List.getElem?_eq_getElem hi] at hy
      have hy : some (V.ref zs[i]) = some y := hy
      cases hy
      obtain ⟨q, hq, hq1⟩ := pr_at hp (List.getElem?_eq_getElem hi)
      dsimp only [tCKw, tM1, tVals, tVar, tC, tB, tAnd, tOr, tNot, tAndV, tOrV, tNotV, tIf, tNext, tSeq, tBreak, tCont, tDrop, tRet, tRetN, tIfS, tNever, gName, gNil, gCons, gTup, gSub, tAsg, tPar, tAug, tTest, tChain, tFld, sFld, tNil, tCons, tTup, tLst, tCall, tMeth, tCB, tBM, tNoPart, tPart, tSl, tOp, tUn, rI, rI0, rU, iList, iTup, iRng1, iRng2, iStr, iEnum, iZip, iItems, iVals, tDGet, tDIn, tDNotIn, sDPut, tDGet2, tDNewK, tDNewT, tYes, fin, List.cons_append, List.nil_append, bx, cxOf, Cx.nox]
      refine ⟨_, _, rfl, sqt (e6 _ _ hq1), rfl, _, _, rfl, _, _, rfl, rfl, rfl, fun Qy Qn k _ => ⟨_, rfl, _, rfl, Nat.le_of_ble_eq_true rfl, fun u hu => k rfl _ _ (Evl.Ex.new hu) ⟨q, hq, u, rfl, upd_same⟩⟩⟩
    · have pk2 := pk.all
      rw [List.length_map, hlz] at pk2
      have pk3 := pr_range (S := fun (q : Int × Int) (y : V) => SpV Ha y (.h t.nm q.1)) pk2 fun i q y h1 ⟨q', h2, h3⟩ => by
        rw [h1] at h2
        cases h2
        exact h3
      have gp6 : Paired (fun y sp => SpV Ha y sp) ys (W.ps.map (fun q => Spot.p q.1) ++ spsT (W.ts.take n)) := pr_mono gp fun _ _ q => K33M.SpV.mono (fun _ _ h => e6 _ _ (e5 _ _ h)) q
      have hl06 := e6 _ _ (e5 _ _ g0)
      have hap : W.ts.take (n + 1) = W.ts.take n ++ [t] := by rw [List.take_add_one, htn]; rfl
      have hnew : Paired (fun y sp => SpV Ha y sp) ys2 (t.hs.map fun q => Spot.h t.nm q.1) := by
        refine pr_of (by rw [List.length_map, pr_len pk3]) fun i a b h1 h2 => ?_
        rw [List.getElem?_map] at h2
        obtain ⟨q, hq, rfl⟩ := Option.map_eq_some_iff.mp h2
        obtain ⟨y, hy, hyq⟩ := pr_at pk3 hq
        rw [h1] at hy
        cases hy
        exact hyq
      have hsz : ys.length + ys2.length ≤ 40 := by
        have l1 := pr_len gp
        have l2 := pr_len pk3
        rw [List.length_append, List.length_map, spsT_len] at l1
        have l3 : ((W.ts.take n).map fun t => t.hs.length).sum ≤ 12 := by
          have := ok.ts.hh
          rw [← List.take_append_drop n W.ts, List.map_append, List.sum_append] at this
          omega
        have := ok.ps.hi
        omega
      refine ⟨l0, L, _, _, rfl, rfl, hl06, hys2, Evl.sz_of (by omega), _, x3, x4, x5, x6, ys ++ ys2, rfl, (eV.trans (e5.trans e6)).mut hl0V, ?_, ?_, upd_same, ?_⟩
      · rw [upd_ne n0x.symm]
        exact e6 _ _ (e5 _ _ gx)
      · rw [upd_ne nt0]
        exact e6 _ _ (e5 _ _ gt)
      · rw [hap, spsT_app, ← List.append_assoc]
        have e1 : spsT [t] = t.hs.map fun q => Spot.h t.nm q.1 := by
          show (t.hs.map fun q => Spot.h t.nm q.1) ++ [] = _
          rw [List.append_nil]
        rw [e1]
        exact pr_app (pr_mono gp6 fun _ _ q => SpV.lst hl06 q) (pr_mono hnew fun _ _ q => SpV.lst hl06 q)
  · obtain ⟨x2, x3, x4, x5, x6, ys, rfl, eV, gx, gt, g0, gp⟩ := wv
    rw [List.length_map, List.take_length] at gp
    have hsl : ys.length = (spsOf W).length := pr_len gp
    have h20 := spsOf_len ok
    have snd := spsOf_nodup ok
    dsimp only [tCKw, tM1, tVals, tVar, tC, tB, tAnd, tOr, tNot, tAndV, tOrV, tNotV, tIf, tNext, tSeq, tBreak, tCont, tDrop, tRet, tRetN, tIfS, tNever, gName, gNil, gCons, gTup, gSub, tAsg, tPar, tAug, tTest, tChain, tFld, sFld, tNil, tCons, tTup, tLst, tCall, tMeth, tCB, tBM, tNoPart, tPart, tSl, tOp, tUn, rI, rI0, rU, iList, iTup, iRng1, iRng2, iStr, iEnum, iZip, iItems, iVals, tDGet, tDIn, tDNotIn, sDPut, tDGet2, tDNewK, tDNewT, tYes, fin, List.cons_append, List.nil_append, bx, cxOf, Cx.nox]
    refine ⟨_, rfl, x, _, _, _, _, rfl, gx, T.c_Knots, T.n_Knots_all_spots, rfl, l0, ys, rfl, sql g0, fun D hD => dcM_it (walk_enum (xs := ys)) (fun i H' => Ex H4 H' ∧ ∃ kvs, MD P w H' D kvs ∧ kvs.length ≤ i ∧ ∀ j sp, j < i → (spsOf W)[j]? = some sp → valV kvs sp = some (.int ((j : Nat) : Int))) ?_ (fun i H' _ p => sql (p.1 _ _ g0)) (fun i y H' H5 hi pv yv => ?_) fun H5 pv => ?_⟩
    · exact ⟨Evl.Ex.new hD, [], ⟨[], upd_same, rfl, fun _ h => by cases h⟩, Nat.le_refl _, fun j sp hj _ => absurd hj (Nat.not_lt_zero _)⟩
    · obtain ⟨e5, kvs, md, hkl, hall⟩ := pv
      obtain ⟨T0, y1, y2, rfl, hT, rfl, hy1, hy2⟩ := yv
      cases hy1
      have e6 : Ex H' (upd H' T0 (.tup [.int ((i : Nat) : Int), y2])) := Evl.Ex.new hT
      have hy2 : ys[i]? = some y2 := hy2
      obtain ⟨sp, hsp, hspv⟩ := pr_at gp hy2
      have md2 := MD.mono e6 md
      have spv2 : SpV (upd H' T0 (.tup [.int ((i : Nat) : Int), y2])) y2 sp := K33M.SpV.mono (fun _ _ q => e6 _ _ (e5 _ _ q)) hspv
      obtain ⟨H7, hput, md7, hsame⟩ := MPut.md (H' := H) (v := .int ((i : Nat) : Int)) md2 (Evl.sz_lt (by omega)) spv2
      dsimp only [tCKw, tM1, tVals, tVar, tC, tB, tAnd, tOr, tNot, tAndV, tOrV, tNotV, tIf, tNext, tSeq, tBreak, tCont, tDrop, tRet, tRetN, tIfS, tNever, gName, gNil, gCons, gTup, gSub, tAsg, tPar, tAug, tTest, tChain, tFld, sFld, tNil, tCons, tTup, tLst, tCall, tMeth, tCB, tBM, tNoPart, tPart, tSl, tOp, tUn, rI, rI0, rU, iList, iTup, iRng1, iRng2, iStr, iEnum, iZip, iItems, iVals, tDGet, tDIn, tDNotIn, sDPut, tDGet2, tDNewK, tDNewT, tYes, fin, List.cons_append, List.nil_append, bx, cxOf, Cx.nox]
      refine ⟨_, _, rfl, sqt upd_same, rfl, _, _, rfl, _, _, rfl, rfl, rfl, _, rfl, _, rfl, sp, H7, hput, ?_, _, md7, ?_, fun j sp' hj hsp' => ?_⟩
      · intro a o ha
        rw [hsame a (fun z => by rw [z, hD] at ha; cases ha)]
        exact e6 _ _ (e5 _ _ ha)
      · have := length_putK kvs sp (.int ((i : Nat) : Int))
        omega
      · rw [valV_put]
        by_cases c : j = i
        · subst c
          have : (spsOf W)[j]? = some sp := hsp
          rw [this] at hsp'
          cases hsp'
          rw [if_pos rfl]
        · have hsp : (spsOf W)[i]? = some sp := hsp
          rw [if_neg fun z => c ((List.getElem?_inj (List.getElem?_eq_some_iff.mp hsp').1 snd).mp (by rw [hsp', hsp, z]))]
          exact hall j sp' (by omega) hsp'
    · obtain ⟨e5, kvs, md, hkl, hall⟩ := pv
      have nD : D ≠ x := fun z => by rw [z, gx] at hD; cases hD
      refine ⟨_, rfl, x, _, dx, _, rfl, e5 _ _ gx, T.c_Knots, T.n_Knots_numbers, Nat.lt_of_sub_eq_succ rfl, ?_⟩
      have hx6 : upd H5 x (.ins (cN K) dx (putF "numbers" (.ref D) [("all_spots", .ref l0)])) x = some (.ins (cN K) dx [("all_spots", .ref l0), ("numbers", .ref D)]) := upd_same
      have hins5 := e5 _ _ gx
      have g06 : upd H5 x (.ins (cN K) dx (putF "numbers" (.ref D) [("all_spots", .ref l0)])) l0 = some (.lst ys) := by rw [upd_ne n0x]; exact e5 _ _ g0
      have gp6 : Paired (fun y sp => SpV (upd H5 x (.ins (cN K) dx (putF "numbers" (.ref D) [("all_spots", .ref l0)]))) y sp) ys (spsOf W) := pr_mono gp fun _ _ q => K33M.SpV.mono (fun _ _ h => up_keep hins5 (e5 _ _ h) (fun z => nomatch z)) q
      have md6 : MD P w (upd H5 x (.ins (cN K) dx (putF "numbers" (.ref D) [("all_spots", .ref l0)]))) D kvs := by
        obtain ⟨es, m1, m2, m3⟩ := md
        exact ⟨es, by rw [upd_ne nD]; exact m1, m2, fun e he => K33M.SpV.mono (fun _ _ h => up_keep hins5 h (fun z => nomatch z)) (m3 e he)⟩
      have eV6 : Ex V0 (upd H5 x (.ins (cN K) dx (putF "numbers" (.ref D) [("all_spots", .ref l0)]))) := (eV.trans e5).mut hV0
      generalize upd H5 x (.ins (cN K) dx (putF "numbers" (.ref D) [("all_spots", .ref l0)])) = H6 at hx6 g06 gp6 md6 eV6 ⊢
      refine ⟨_, rfl, x, _, _, _, _, rfl, hx6, T.c_Knots, T.n_Knots_all_spots, rfl, l0, rfl, ⟨_, sql g06⟩, fun D2 hD2 => lc_it (walk_list (xs := ys)) (fun i H' => Ex H6 H' ∧ ∃ ls : List Addr, H' D2 = some (.lst (ls.map V.ref)) ∧ ls.length = i ∧ ls.Nodup ∧ ∀ l ∈ ls, H6 l = none ∧ l ≠ D2 ∧ H' l = some (.lst [])) ?_ (fun i H' _ p => sql (p.1 _ _ g06)) (fun i y H' H7 hi pv yv => ?_) fun H7 pv => ?_⟩
      · exact ⟨Evl.Ex.new hD2, [], upd_same, rfl, List.nodup_nil, fun _ h => by cases h⟩
      · obtain ⟨e7, ls, hls, hll, hln, hla⟩ := pv
        obtain ⟨rfl, _⟩ := yv
        refine ⟨rfl, Nat.zero_le _, fun l hl => ?_⟩
        have nl2 : l ≠ D2 := fun z => by rw [z, hls] at hl; cases hl
        have nls : l ∉ ls := fun h => by rw [(hla l h).2.2] at hl; cases hl
        refine ⟨_, by rw [upd_ne nl2.symm]; exact hls, Evl.sz_lt (by rw [List.length_map]; omega), (e7.trans (Evl.Ex.new hl)).mut hD2, ls ++ [l], by rw [upd_same, List.map_append]; rfl, by rw [List.length_append, hll]; rfl, ?_, fun l' hl' => ?_⟩
        · rw [List.nodup_append]
          exact ⟨hln, by simp, fun a ha b hb => by
            have : b = l := by simpa using hb
            subst this
            exact fun z => nls (z ▸ ha)⟩
        · rcases List.mem_append.mp hl' with h | h
          · obtain ⟨q1, q2, q3⟩ := hla l' h
            refine ⟨q1, q2, ?_⟩
            rw [upd_ne q2, upd_ne (fun z => nls (by rw [← z]; exact h))]
            exact q3
          · have : l' = l := by simpa using h
            subst this
            exact ⟨Evl.fresh_back e7 hl, nl2, by rw [upd_ne nl2, upd_same]⟩
      · obtain ⟨e7, ls, hls, hll, hln, hla⟩ := pv
        have hx7 := e7 _ _ hx6
        have nls : ∀ {a : Addr} {o : HO}, H6 a = some o → a ∉ ls := fun h hm => by rw [(hla _ hm).1] at h; cases h
        have nD2 : D2 ≠ x := fun z => by rw [z, hx6] at hD2; cases hD2
        have nD2l : D2 ∉ ls := fun hm => (hla _ hm).2.1 rfl
        refine ⟨_, rfl, x, _, dx, _, rfl, hx7, T.c_Knots, T.n_Knots_pieces, Nat.lt_of_sub_eq_succ rfl, ?_⟩
        have hx8 : upd H7 x (.ins (cN K) dx (putF "pieces" (.ref D2) [("all_spots", .ref l0), ("numbers", .ref D)])) x = some (.ins (cN K) dx (knF0 l0 D D2)) := upd_same
        have k8 : ∀ {a : Addr} {o : HO}, H7 a = some o → (∀ C d fs, o ≠ .ins C d fs) → upd H7 x (.ins (cN K) dx (putF "pieces" (.ref D2) [("all_spots", .ref l0), ("numbers", .ref D)])) a = some o := fun h n => up_keep hx7 h (n _ _ _)
        have eV8 : Ex V0 (upd H7 x (.ins (cN K) dx (putF "pieces" (.ref D2) [("all_spots", .ref l0), ("numbers", .ref D)]))) := (eV6.trans e7).mut hV0
        generalize upd H7 x (.ins (cN K) dx (putF "pieces" (.ref D2) [("all_spots", .ref l0), ("numbers", .ref D)])) = H8 at hx8 k8 eV8 ⊢
        refine ⟨_, rfl, wp, _, _, rfl, eV8 _ _ w1, rfl, wp, r, W, rfl, hwm eV8, fun lt2 H9 hlt2 e9 hlt9 => ⟨lt2, rfl, ⟨_, sql hlt9⟩, ?_⟩⟩
        have k9 : ∀ {a : Addr} {o : HO}, H7 a = some o → (∀ C d fs, o ≠ .ins C d fs) → H9 a = some o := fun h n => e9 _ _ (k8 h n)
        have nlt2 : lt2 ∉ ls := fun hm => by rw [k8 (hla _ hm).2.2 (fun _ _ _ z => nomatch z)] at hlt2; cases hlt2
        have hE9 : Ex (hidL ls H9) H9 := hidL_ex
        have v9 : ∀ {a : Addr} {o : HO}, H9 a = some o → a ∉ ls → hidL ls H9 a = some o := fun h n => by rw [hidL_out n]; exact h
        have vx : hidL ls H9 x = some (.ins (cN K) dx (knF0 l0 D D2)) := v9 (e9 _ _ hx8) (nls hx6)
        have vV : Ex V0 (hidL ls H9) := fun a o h => v9 (e9 _ _ (eV8 _ _ h)) (nls (eV6 _ _ h))
        have vD2 : hidL ls H9 D2 = some (.lst (ls.map V.ref)) := v9 (k9 hls (fun _ _ _ z => nomatch z)) nD2l
        have vl0 : hidL ls H9 l0 = some (.lst ys) := v9 (k9 (e7 _ _ g06) (fun _ _ _ z => nomatch z)) (nls g06)
        have vsp : Paired (fun y sp => SpV (hidL ls H9) y sp) ys (spsOf W) := pr_mono gp6 fun _ _ q => K33M.SpV.mono (fun _ _ h => v9 (k9 (e7 _ _ h) (fun _ _ _ z => nomatch z)) (nls h)) q
        have vmd : MDr P w (hidL ls H9) D kvs := by
          obtain ⟨es, m1, m2, m3⟩ := md6
          exact ⟨es, .inl (v9 (k9 (e7 _ _ m1) (fun _ _ _ z => nomatch z)) (nls m1)), m2, fun e he => K33M.SpV.mono (fun _ _ h => v9 (k9 (e7 _ _ h) (fun _ _ _ z => nomatch z)) (nls h)) (m3 e he)⟩
        have vlt : hidL ls H9 lt2 = some (.lst (W.ts.map fun t => V.str t.nm)) := v9 hlt9 nlt2
        have vls : ∀ l ∈ ls, hidL ls H9 l = none := fun l hl => hidL_in hl
        have pl0 : PlAt H9 ls (List.replicate (spsOf W).length []) := by
          refine pr_of (by rw [List.length_replicate, hll, hsl]) fun i l qs h1 h2 => ?_
          rw [List.getElem?_replicate] at h2
          split at h2
          · cases h2
            exact ⟨[], k9 (hla l (List.mem_of_getElem? h1)).2.2 (fun _ _ _ z => nomatch z), .nil⟩
          · cases h2
        have gd0 : ∀ k, (List.replicate (spsOf W).length ([] : List Pc)).getD k [] = [] := fun k => by
          rw [List.getD_eq_getElem?_getD, List.getElem?_replicate]
          split <;> rfl
        have plg0 : PlG W (fun t x y => (∃ j : Nat, j < 0 ∧ W.ts[j]? = some t) ∧ Gap t x y) (List.replicate (spsOf W).length []) := by
          refine ⟨List.length_replicate, fun k q hq => ?_, fun t x y g => ?_⟩
          · rw [gd0] at hq
            cases hq
          · obtain ⟨⟨j, hj, _⟩, _⟩ := g
            exact absurd hj (Nat.not_lt_zero _)
        generalize hidL ls H9 = Vw at hE9 vx vV vD2 vl0 vsp vmd vlt vls
        refine for_it (walk_list (xs := W.ts.map fun t => V.str t.nm)) (fun n σ H' => ∃ x2 x3 x4 x5 x6 pl, σ = [some (.ref x), some (.ref wp), x2, x3, x4, x5, x6] ∧ Ex Vw H' ∧ PlAt H' ls pl ∧ PlG W (fun t x y => (∃ j : Nat, j < n ∧ W.ts[j]? = some t) ∧ Gap t x y) pl ∧ ∀ a, (pl.getD a []).length ≤ 100 * n) ?_
          (fun n σ H' _ ⟨_, _, _, _, _, _, _, e, _⟩ => sql (e _ _ vlt)) (fun n y σ H' H10 hn wv yv => ?_) fun σ H10 wv => ?_
        · exact ⟨_, _, _, _, _, _, rfl, hE9, pl0, plg0, fun a => by rw [gd0]; exact Nat.zero_le _⟩
        · obtain ⟨x2, x3, x4, x5, x6, pl, rfl, eW, hpl, hplg, hlen⟩ := wv
          obtain ⟨rfl, hy⟩ := yv
          rw [List.length_map] at hn
          obtain ⟨t, htn⟩ := at_lt hn
          rw [List.getElem?_map, htn] at hy
          cases hy
          have ht := List.mem_of_getElem? htn
          have := ok.ts.hi
          dsimp only [tCKw, tM1, tVals, tVar, tC, tB, tAnd, tOr, tNot, tAndV, tOrV, tNotV, tIf, tNext, tSeq, tBreak, tCont, tDrop, tRet, tRetN, tIfS, tNever, gName, gNil, gCons, gTup, gSub, tAsg, tPar, tAug, tTest, tChain, tFld, sFld, tNil, tCons, tTup, tLst, tCall, tMeth, tCB, tBM, tNoPart, tPart, tSl, tOp, tUn, rI, rI0, rU, iList, iTup, iRng1, iRng2, iStr, iEnum, iZip, iItems, iVals, tDGet, tDIn, tDNotIn, sDPut, tDGet2, tDNewK, tDNewT, tYes, fin, List.cons_append, List.nil_append, bx, cxOf, Cx.nox]
          refine ⟨_, rfl, x, _, _, rfl, eW _ _ vx, rfl, _, rfl, _, rfl, Vw, x, dx, l0, D, D2, wp, r, ls, W, t, kvs, pl, _, 100 * n, rfl, eW, vls, hln, vx, hw.mono vV, ok, ht, vmd, fun j sp h => hall j sp (by rw [hsl]; exact (List.getElem?_eq_some_iff.mp h).1) h, vD2, hpl, hplg, hlen, by omega, fun H11 pl' eW' hpl' hplg' hlen' => ?_⟩
          refine ⟨_, _, _, _, _, pl', rfl, eW', hpl', hplg'.mono fun t' x' y' => ⟨?_, ?_⟩, fun a => by have := hlen' a; omega⟩
          · rintro (⟨⟨j, hj, hjt⟩, g⟩ | ⟨rfl, g⟩)
            · exact ⟨⟨j, by omega, hjt⟩, g⟩
            · exact ⟨⟨n, by omega, htn⟩, g⟩
          · rintro ⟨⟨j, hj, hjt⟩, g⟩
            by_cases c : j < n
            · exact .inl ⟨⟨j, c, hjt⟩, g⟩
            · have : j = n := by omega
              subst this
              rw [htn] at hjt
              cases hjt
              exact .inr ⟨rfl, g⟩
        · obtain ⟨x2, x3, x4, x5, x6, pl, rfl, eW, hpl, hplg, hlen⟩ := wv
          rw [List.length_map] at hplg
          have full : PlG W (FullG W) pl := hplg.mono fun t x y => ⟨fun ⟨⟨j, _, hj⟩, g⟩ => ⟨List.mem_of_getElem? hj, g⟩, fun ⟨ht, g⟩ => by
            obtain ⟨j, hj⟩ := List.getElem?_of_mem ht
            exact ⟨⟨j, (List.getElem?_eq_some_iff.mp hj).1, hj⟩, g⟩⟩
          dsimp only [tCKw, tM1, tVals, tVar, tC, tB, tAnd, tOr, tNot, tAndV, tOrV, tNotV, tIf, tNext, tSeq, tBreak, tCont, tDrop, tRet, tRetN, tIfS, tNever, gName, gNil, gCons, gTup, gSub, tAsg, tPar, tAug, tTest, tChain, tFld, sFld, tNil, tCons, tTup, tLst, tCall, tMeth, tCB, tBM, tNoPart, tPart, tSl, tOp, tUn, rI, rI0, rU, iList, iTup, iRng1, iRng2, iStr, iEnum, iZip, iItems, iVals, tDGet, tDIn, tDNotIn, sDPut, tDGet2, tDNewK, tDNewT, tYes, fin, List.cons_append, List.nil_append, bx, cxOf, Cx.nox]
          refine ⟨Nat.zero_le _, fun pw hpw => ?_⟩
          have eP : Ex H10 (upd H10 pw (.lst [])) := Evl.Ex.new hpw
          have hx10 := eW _ _ vx
          refine ⟨_, rfl, x, _, dx, _, rfl, eP _ _ hx10, T.c_Knots, T.n_Knots_powers, Nat.lt_of_sub_eq_succ rfl, fun kr hkr => ?_⟩
          have npx : pw ≠ x := fun z => by rw [z, hx10] at hpw; cases hpw
          have nkx : kr ≠ x := fun z => by rw [z, upd_same] at hkr; cases hkr
          have nkp : kr ≠ pw := fun z => by rw [z, upd_ne npx, upd_same] at hkr; cases hkr
          have hkr10 : H10 kr = none := by
            rw [upd_ne nkx, upd_ne nkp] at hkr
            exact hkr
          have hxA : upd (upd (upd H10 pw (.lst [])) x (.ins (cN K) dx (putF "powers" (.ref pw) (knF0 l0 D D2)))) kr (.dT []) x = some (.ins (cN K) dx (putF "powers" (.ref pw) (knF0 l0 D D2))) := by rw [upd_ne nkx.symm, upd_same]
          refine ⟨_, rfl, x, _, dx, _, rfl, hxA, T.c_Knots, T.n_Knots_known_rises, Nat.lt_of_sub_eq_succ rfl, ?_⟩
          have k13 : ∀ {a : Addr} {o : HO} (u1 u2 : HO), H10 a = some o → a ≠ x → hid kr (hid pw (upd (upd (upd (upd H10 pw (.lst [])) x u1) kr (.dT [])) x u2)) a = some o := fun {a o} u1 u2 h n => by
            have n1 : a ≠ pw := fun z => by rw [z, hpw] at h; cases h
            have n2 : a ≠ kr := fun z => by rw [z, hkr10] at h; cases h
            rw [hid_ne n2, hid_ne n1, upd_ne n, upd_ne n2, upd_ne n, upd_ne n1]
            exact h
          have kt : ∀ {a : Addr} {o : HO} (u1 u2 : HO), H10 a = some o → (∀ C d fs, o ≠ .ins C d fs) → hid kr (hid pw (upd (upd (upd (upd H10 pw (.lst [])) x u1) kr (.dT [])) x u2)) a = some o := fun u1 u2 h n => k13 u1 u2 h fun z => by rw [z, hx10] at h; cases h; exact n _ _ _ rfl
          have kn : ∀ (u1 u2 : HO) (ex : Addr → Prop), (∀ (Vf : Hp), (∀ a, ¬ ex a → Vf a = hid kr (hid pw (upd (upd (upd (upd H10 pw (.lst [])) x u1) kr (.dT [])) x (.ins (cN K) dx (knF l0 D D2 pw kr)))) a) → (∀ a, ex a → ∃ zs, V0 a = some (.lst zs)) → KnAt K Vf x W pl pw kr) := fun u1 u2 ex Vf hVf hex => by
            have nx : ¬ ex x := fun h => by obtain ⟨zs, e⟩ := hex x h; rw [hV0] at e; cases e
            have nl : ∀ {a : Addr} {ws : List V}, Vw a = some (.lst ws) → V0 a = none → ¬ ex a := fun h n h2 => by obtain ⟨zs, e⟩ := hex _ h2; rw [n] at e; cases e
            have nt : ∀ {a : Addr} {ws : List V}, H10 a = some (.tup ws) → ¬ ex a := fun h h2 => by
              obtain ⟨zs, e⟩ := hex _ h2
              rw [eW _ _ (vV _ _ e)] at h
              cases h
            have kt2 : ∀ {a : Addr} {o : HO}, H10 a = some o → (∀ C d fs, o ≠ .ins C d fs) → ¬ ex a → Vf a = some o := fun h n ne => by rw [hVf _ ne]; exact kt _ _ h n
            have v0D2 : V0 D2 = none := by
              cases h : V0 D2 with
              | none => rfl
              | some o => rw [eV6 _ _ h] at hD2; cases hD2
            refine ⟨dx, l0, D, D2, ?_, ⟨ys, kt2 (eW _ _ vl0) (fun _ _ _ z => nomatch z) (nl vl0 hl0V), ?_⟩, ls, kt2 (eW _ _ vD2) (fun _ _ _ z => nomatch z) (nl vD2 v0D2), ?_⟩
            · rw [hVf x nx, hid_ne nkx.symm, hid_ne npx.symm, upd_same]
            · exact pr_mono vsp fun _ _ q => K33M.SpV.mono (fun _ _ h => kt2 (eW _ _ h) (fun _ _ _ z => nomatch z) (nt (eW _ _ h))) q
            · refine pr_of (pr_len hpl) fun i l qs h1 h2 => ?_
              obtain ⟨qs', h2', xs, q1, q2⟩ := pr_at hpl h1
              rw [h2] at h2'
              cases h2'
              have hl := List.mem_of_getElem? h1
              refine ⟨xs, kt2 q1 (fun _ _ _ z => nomatch z) (fun h => ?_), pr_mono q2 fun _ _ q => kt2 q (fun _ _ _ z => nomatch z) (nt q)⟩
              obtain ⟨zs, e⟩ := hex _ h
              exact nls (eV6 _ _ e) hl
          refine hQ _ (hid kr (hid pw _)) pl pw kr (fun a o h => k13 _ _ (eW _ _ (vV _ _ h)) fun z => by rw [z, hV0] at h; cases h) (hid_ex.trans hid_ex) ?_ hid_same (kn _ (.lst []) (fun _ => False) _ (fun a _ => rfl) (fun _ h => h.elim)) (fun a xs ha => kn _ (.lst []) (fun b => b = a) _ (fun b hb => hid_ne hb) (fun b hb => ⟨xs, by rw [hb]; exact ha⟩)) full ?_ ?_
          · rw [hid_ne nkp.symm, hid_same]
          · rw [upd_ne npx, upd_ne nkp.symm, upd_ne npx, upd_same]
          · rw [upd_ne nkx, upd_same]
end
end K33


set_option Elab.async false
set_option linter.all false
set_option maxRecDepth 100000
set_option maxHeartbeats 4000000
/-! A web's knots, pieces and segments are a net. -/
namespace K33
open PySem PySem.Spec PyProof.Rows L2 K33M
def nbOf (W : Web) (v u : Spot) : Prop := ∃ t ∈ W.ts, ∃ i : Int, 0 ≤ i ∧ i < t.len ∧ ((v = spotOf t i ∧ u = spotOf t (i + 1)) ∨ (u = spotOf t i ∧ v = spotOf t (i + 1)))
def knOf (W : Web) (k : Nat) : Spot := (spsOf W).getD k (.p ⟨#[]⟩)
theorem knOf_eq {W : Web} {k : Nat} {sp : Spot} (h : (spsOf W)[k]? = some sp) : knOf W k = sp := by
  unfold knOf
  rw [List.getD_eq_getElem?_getD, h]
  rfl
def SgOf (W : Web) (a b L : Nat) (f : Nat → Spot) : Prop := ∃ t ∈ W.ts, ∃ x y : Int, Gap t x y ∧ L = (y - x).toNat ∧
  (((spsOf W)[a]? = some (spotOf t x) ∧ (spsOf W)[b]? = some (spotOf t y) ∧ ∀ i : Nat, i ≤ L → f i = spotOf t (x + i)) ∨
   ((spsOf W)[a]? = some (spotOf t y) ∧ (spsOf W)[b]? = some (spotOf t x) ∧ ∀ i : Nat, i ≤ L → f i = spotOf t (y - i)))
theorem turn_anti (rd : Bool) (L : Nat) (x y : Int) : turn rd L y x = - turn rd L x y := by
  unfold turn
  split
  · exact tau_anti rd x y
  · have a := tau_anti rd 0 x
    have b := tau_anti rd y 0
    omega
theorem spotOf_in_eq {t : Tie} {i : Int} (h0 : 0 < i) (h1 : i < t.len) : spotOf t i = .h t.nm i := by
  unfold spotOf
  rw [if_neg (by omega), if_neg (by omega)]
theorem spotOf_h {t : Tie} {i j : Int} {n : Str} (h : spotOf t i = .h n j) : t.nm = n ∧ i = j := by
  unfold spotOf at h
  split at h
  · cases h
  · split at h
    · cases h
    · exact ⟨(Spot.h.inj h).1, (Spot.h.inj h).2⟩
theorem same_tie {ts : List Tie} {t t' : Tie} (n : (ts.map (·.nm)).Nodup) (h : t ∈ ts) (h' : t' ∈ ts) (e : t.nm = t'.nm) : t = t' := by
  have a := tieOf_eq n h
  have b := tieOf_eq n h'
  rw [e, b] at a
  exact (Option.some.inj a).symm
theorem hsSt_no {hs : List (Int × Int)} {i : Int} (h : ∀ q ∈ hs, q.1 ≠ i) : hsSt hs i = 0 := by
  unfold hsSt
  rw [List.find?_eq_none.mpr fun q hq => by simpa using h q hq]
/-- a place of a knot has a next one -/
theorem next_knot {t : Tie} {x : Int} (hx : x ∈ plc t) (h : x ≠ t.len) : ∃ y, Gap t x y := by
  obtain ⟨n, hn⟩ := List.getElem?_of_mem hx
  have hl : (plc t).length = t.hs.length + 2 := by simp [plc]
  have n1 := (List.getElem?_eq_some_iff.mp hn).1
  by_cases c : n + 1 < (plc t).length
  · obtain ⟨y, hy⟩ := at_lt c
    exact ⟨y, n, hn, hy⟩
  · have : n = t.hs.length + 1 := by omega
    subst this
    exfalso
    apply h
    have : (plc t)[t.hs.length + 1]? = some t.len := by
      show (0 :: (t.hs.map (·.1) ++ [t.len]))[t.hs.length + 1]? = _
      rw [List.getElem?_cons_succ, List.getElem?_append_right (by simp)]
      simp
    rw [this] at hn
    exact (Option.some.inj hn).symm
theorem prev_knot {t : Tie} {y : Int} (hy : y ∈ plc t) (h : y ≠ 0) : ∃ x, Gap t x y := by
  obtain ⟨n, hn⟩ := List.getElem?_of_mem hy
  cases n with
  | zero =>
    have : (plc t)[0]? = some 0 := rfl
    rw [this] at hn
    exact absurd (Option.some.inj hn).symm h
  | succ n =>
    have n1 := (List.getElem?_eq_some_iff.mp hn).1
    obtain ⟨x, hx⟩ := at_lt (l := plc t) (i := n) (by omega)
    exact ⟨x, n, hx, hn⟩
theorem in_plc {W : Web} (ok : WOk W) {t : Tie} (ht : t ∈ W.ts) {i : Int} (h0 : 0 ≤ i) (h1 : i ≤ t.len) (h : spotOf t i ∈ spsOf W) : i ∈ plc t := by
  by_cases c0 : i = 0
  · rw [c0]; exact List.mem_cons_self
  · by_cases c1 : i = t.len
    · rw [c1]; exact List.mem_cons_of_mem _ (List.mem_append_right _ List.mem_cons_self)
    · rw [spotOf_in_eq (by omega) (by omega)] at h
      rcases List.mem_append.mp h with h | h
      · obtain ⟨q, _, e⟩ := List.mem_map.mp h
        cases e
      · obtain ⟨t', ht', q, hq, e⟩ := spsT_mem h
        have e1 := (Spot.h.inj e).1
        have e2 := (Spot.h.inj e).2
        have := same_tie ok.ts.nd ht ht' e1
        subst this
        rw [e2]
        exact List.mem_cons_of_mem _ (List.mem_append_left _ (List.mem_map_of_mem hq))
theorem net_of {W : Web} (ok : WOk W) {pl : List (List Pc)} (g : PlG W (FullG W) pl) : Net W.rd (nbOf W) (stOf W) (spsOf W).length (pcOf pl) (knOf W) (SgOf W) where
  sym := by
    rintro v u ⟨t, ht, i, h0, h1, h⟩
    exact ⟨t, ht, i, h0, h1, h.symm⟩
  tri := stOf_tri ok
  ends := by
    rintro a b L f ⟨t, ht, x, y, gp, rfl, h⟩
    obtain ⟨r1, r2, r3, _⟩ := gap_lt (ok.ts.ok t ht) gp
    rcases h with ⟨ha, hb, hf⟩ | ⟨ha, hb, hf⟩
    · refine ⟨?_, ?_, (List.getElem?_eq_some_iff.mp ha).1, (List.getElem?_eq_some_iff.mp hb).1, by omega⟩
      · rw [hf 0 (Nat.zero_le _), knOf_eq ha]
        congr 1
        omega
      · rw [hf _ (Nat.le_refl _), knOf_eq hb]
        congr 1
        omega
    · refine ⟨?_, ?_, (List.getElem?_eq_some_iff.mp ha).1, (List.getElem?_eq_some_iff.mp hb).1, by omega⟩
      · rw [hf 0 (Nat.zero_le _), knOf_eq ha]
        congr 1
        omega
      · rw [hf _ (Nat.le_refl _), knOf_eq hb]
        congr 1
        omega
  rev := by
    rintro a b L f ⟨t, ht, x, y, gp, rfl, h⟩
    obtain ⟨r1, r2, r3, _⟩ := gap_lt (ok.ts.ok t ht) gp
    refine ⟨t, ht, x, y, gp, rfl, ?_⟩
    rcases h with ⟨ha, hb, hf⟩ | ⟨ha, hb, hf⟩
    · refine .inr ⟨hb, ha, fun i hi => ?_⟩
      show f ((y - x).toNat - i) = _
      rw [hf _ (Nat.sub_le _ _)]
      congr 1
      omega
    · refine .inl ⟨hb, ha, fun i hi => ?_⟩
      show f ((y - x).toNat - i) = _
      rw [hf _ (Nat.sub_le _ _)]
      congr 1
      omega
  step := by
    rintro a b L f i ⟨t, ht, x, y, gp, rfl, h⟩ hi
    obtain ⟨r1, r2, r3, _⟩ := gap_lt (ok.ts.ok t ht) gp
    rcases h with ⟨ha, hb, hf⟩ | ⟨ha, hb, hf⟩
    · refine ⟨t, ht, x + i, by omega, by omega, .inl ⟨hf i (by omega), ?_⟩⟩
      rw [hf _ (by omega)]
      congr 1
      omega
    · refine ⟨t, ht, y - (i + 1 : Nat), by omega, by omega, .inr ⟨hf _ (by omega), ?_⟩⟩
      rw [hf _ (by omega)]
      congr 1
      omega
  zero := by
    rintro a b L f i ⟨t, ht, x, y, gp, rfl, h⟩ h0 hi
    obtain ⟨r1, r2, r3, r4⟩ := gap_lt (ok.ts.ok t ht) gp
    have key : ∀ j : Int, x < j → j < y → stOf W (spotOf t j) = 0 := fun j h1 h2 => by
      rw [spotOf_in_eq (by omega) (by omega), stOf_h ok ht]
      exact hsSt_no fun q hq e => r4 q hq ⟨by omega, by omega⟩
    rcases h with ⟨ha, hb, hf⟩ | ⟨ha, hb, hf⟩
    · rw [hf i (by omega)]
      exact key _ (by omega) (by omega)
    · rw [hf i (by omega)]
      exact key _ (by omega) (by omega)
  long := by
    rintro a b L f ⟨t, ht, x, y, gp, rfl, _⟩ hL
    obtain ⟨r1, r2, r3, _⟩ := gap_lt (ok.ts.ok t ht) gp
    have hl := (ok.ts.ok t ht).len
    unfold LenOk at hl
    cases e : W.rd with
    | true =>
      rw [e, if_pos rfl] at hl
      omega
    | false => rfl
  inn := by
    rintro a b L f i u ⟨t, ht, x, y, gp, rfl, h⟩ h0 hi ⟨t', ht', j, j0, j1, hn⟩
    obtain ⟨r1, r2, r3, _⟩ := gap_lt (ok.ts.ok t ht) gp
    have key : ∀ k : Int, x < k → k < y → f i = spotOf t k → u = spotOf t (k - 1) ∨ u = spotOf t (k + 1) := fun k k1 k2 ek => by
      rw [spotOf_in_eq (by omega) (by omega)] at ek
      rcases hn with ⟨e1, e2⟩ | ⟨e1, e2⟩
      · rw [ek] at e1
        obtain ⟨q1, q2⟩ := spotOf_h e1.symm
        have := same_tie ok.ts.nd ht' ht q1
        subst this
        exact .inr (by rw [e2, q2])
      · rw [ek] at e2
        obtain ⟨q1, q2⟩ := spotOf_h e2.symm
        have := same_tie ok.ts.nd ht' ht q1
        subst this
        refine .inl ?_
        rw [e1]
        congr 1
        omega
    rcases h with ⟨ha, hb, hf⟩ | ⟨ha, hb, hf⟩
    · rcases key (x + i) (by omega) (by omega) (hf i (by omega)) with e | e
      · refine .inl ?_
        rw [e, hf _ (by omega)]
        congr 1
        omega
      · refine .inr ?_
        rw [e, hf _ (by omega)]
        congr 1
        omega
    · rcases key (y - i) (by omega) (by omega) (hf i (by omega)) with e | e
      · refine .inr ?_
        rw [e, hf _ (by omega)]
        congr 1
        omega
      · refine .inl ?_
        rw [e, hf _ (by omega)]
        congr 1
        omega
  out := by
    rintro a u ha ⟨t, ht, i, i0, i1, hn⟩
    obtain ⟨sp, hsp⟩ := at_lt ha
    rw [knOf_eq hsp] at hn
    rcases hn with ⟨e1, e2⟩ | ⟨e1, e2⟩
    · subst e1
      obtain ⟨y, gp⟩ := next_knot (in_plc ok ht i0 (by omega) (List.mem_of_getElem? hsp)) (by omega)
      obtain ⟨r1, r2, r3, _⟩ := gap_lt (ok.ts.ok t ht) gp
      obtain ⟨b, hb⟩ := List.getElem?_of_mem (knot_in ok ht (x := y) (by obtain ⟨n, _, h2⟩ := gp; exact List.mem_of_getElem? h2))
      exact ⟨b, _, fun j => spotOf t (i + j), ⟨t, ht, i, y, gp, rfl, .inl ⟨hsp, hb, fun _ _ => rfl⟩⟩, by rw [e2]; rfl⟩
    · subst e2
      obtain ⟨x, gp⟩ := prev_knot (in_plc ok ht (by omega) (by omega) (List.mem_of_getElem? hsp)) (by omega)
      obtain ⟨r1, r2, r3, _⟩ := gap_lt (ok.ts.ok t ht) gp
      obtain ⟨b, hb⟩ := List.getElem?_of_mem (knot_in ok ht (x := x) (by obtain ⟨n, h1, _⟩ := gp; exact List.mem_of_getElem? h1))
      refine ⟨b, _, fun j => spotOf t (i + 1 - j), ⟨t, ht, x, i + 1, gp, rfl, .inr ⟨hsp, hb, fun _ _ => rfl⟩⟩, ?_⟩
      rw [e1]
      congr 1
      omega
  pie := by
    rintro a b L f ⟨t, ht, x, y, gp, rfl, h⟩
    obtain ⟨r1, r2, r3, _⟩ := gap_lt (ok.ts.ok t ht) gp
    rcases h with ⟨ha, hb, hf⟩ | ⟨ha, hb, hf⟩
    · obtain ⟨⟨q, hq, e1, e2, e3, e4⟩, _⟩ := g.has t x y ⟨ht, gp⟩ a b ha hb
      refine ⟨q.ed, List.mem_map_of_mem hq, e1, ?_, ?_⟩
      · show (q.b - q.a).natAbs = _
        omega
      · rw [knOf_eq ha, knOf_eq hb]
        exact e4
    · obtain ⟨_, q, hq, e1, e2, e3, e4⟩ := g.has t x y ⟨ht, gp⟩ b a hb ha
      refine ⟨q.ed, List.mem_map_of_mem hq, e1, ?_, ?_⟩
      · show (q.b - q.a).natAbs = _
        omega
      · rw [knOf_eq ha, knOf_eq hb, turn_anti]
        exact e4
  bak := by
    intro a e ha he
    obtain ⟨q, hq, rfl⟩ := List.mem_map.mp he
    obtain ⟨t, x, y, ⟨ht, gp⟩, h⟩ := g.of a q hq
    obtain ⟨r1, r2, r3, _⟩ := gap_lt (ok.ts.ok t ht) gp
    rcases h with ⟨ha, hb, e1, e2, e3⟩ | ⟨ha, hb, e1, e2, e3⟩
    · have eL : q.ed.l = (y - x).toNat := by
        show (q.b - q.a).natAbs = _
        omega
      refine ⟨fun i => spotOf t (x + i), ⟨t, ht, x, y, gp, eL, .inl ⟨ha, hb, fun _ _ => rfl⟩⟩, ?_⟩
      rw [eL, knOf_eq ha, knOf_eq (show (spsOf W)[q.ed.o]? = _ from hb)]
      exact e3
    · have eL : q.ed.l = (y - x).toNat := by
        show (q.b - q.a).natAbs = _
        omega
      refine ⟨fun i => spotOf t (y - i), ⟨t, ht, x, y, gp, eL, .inr ⟨ha, hb, fun _ _ => rfl⟩⟩, ?_⟩
      rw [eL, knOf_eq ha, knOf_eq (show (spsOf W)[q.ed.o]? = _ from hb), turn_anti]
      exact e3
  none := by
    intro a e ha he
    unfold pcOf at he
    rw [List.getD_eq_getElem?_getD, List.getElem?_eq_none (by rw [g.len]; omega)] at he
    cases he
theorem plOk_of {W : Web} (ok : WOk W) {pl : List (List Pc)} (g : PlG W (FullG W) pl) : PlOk (spsOf W).length pl where
  gr := (net_of ok g).gr
  len := g.len
  n20 := spsOf_len ok
  l12 := by
    intro k e he
    obtain ⟨q, hq, rfl⟩ := List.mem_map.mp he
    obtain ⟨t, x, y, ⟨ht, gp⟩, h⟩ := g.of k q hq
    obtain ⟨r1, r2, r3, _⟩ := gap_lt (ok.ts.ok t ht) gp
    have := len_pos (ok.ts.ok t ht)
    show (q.b - q.a).natAbs ≤ 12
    rcases h with ⟨_, _, e1, e2, _⟩ | ⟨_, _, e1, e2, _⟩ <;> omega
/-- the count that the beats have -/
noncomputable def ct (W : Web) (b : Nat) (sp : Spot) : Int := cnt W.rd (nbOf W) (stOf W) b sp
theorem ct_knot {W : Web} (ok : WOk W) {pl : List (List Pc)} (g : PlG W (FullG W) pl) {k b m : Nat} {sp : Spot} (h : (spsOf W)[k]? = some sp) (hm : Most (spsOf W).length (pcOf pl) k b m) : ct W b sp = m := by
  have := (net_of ok g).most (List.getElem?_eq_some_iff.mp h).1 hm
  rw [knOf_eq h] at this
  exact this
theorem ct_amid {W : Web} (ok : WOk W) {pl : List (List Pc)} (g : PlG W (FullG W) pl) {t : Tie} (ht : t ∈ W.ts) {x y i : Int} (gp : Gap t x y) (h1 : x < i) (h2 : i < y) (b : Nat) : ct W b (.h t.nm i) =
    (if y - i ≤ b then most2 (if i - x ≤ b then most2 0 (tau W.rd 0 (stOf W (spotOf t x)) + ct W (b - (i - x).toNat) (spotOf t x)) else 0) (tau W.rd 0 (stOf W (spotOf t y)) + ct W (b - (y - i).toNat) (spotOf t y))
      else (if i - x ≤ b then most2 0 (tau W.rd 0 (stOf W (spotOf t x)) + ct W (b - (i - x).toNat) (spotOf t x)) else 0)) := by
  obtain ⟨r1, r2, r3, _⟩ := gap_lt (ok.ts.ok t ht) gp
  have mem : x ∈ plc t ∧ y ∈ plc t := by
    obtain ⟨n, a1, a2⟩ := gp
    exact ⟨List.mem_of_getElem? a1, List.mem_of_getElem? a2⟩
  obtain ⟨a, ha⟩ := List.getElem?_of_mem (knot_in ok ht mem.1)
  obtain ⟨k, hk⟩ := List.getElem?_of_mem (knot_in ok ht mem.2)
  have sg : SgOf W a k (y - x).toNat (fun j => spotOf t (x + j)) := ⟨t, ht, x, y, gp, rfl, .inl ⟨ha, hk, fun _ _ => rfl⟩⟩
  have q := (net_of ok g).amid sg (i := (i - x).toNat) (b := b) (by omega) (by omega)
  have e0 : (x + ((i - x).toNat : Nat) : Int) = i := by omega
  have e1 : (y - x).toNat - (i - x).toNat = (y - i).toNat := by omega
  simp only [e0, e1, knOf_eq ha, knOf_eq hk] at q
  rw [spotOf_in_eq (by omega) (by omega)] at q
  unfold ct
  rw [q]
  have c1 : ((y - i).toNat ≤ b) ↔ (y - i ≤ (b : Int)) := by omega
  have c2 : ((i - x).toNat ≤ b) ↔ (i - x ≤ (b : Int)) := by omega
  simp only [c1, c2]
end K33


set_option Elab.async false
set_option linter.all false
set_option maxRecDepth 100000
set_option maxHeartbeats 8000000
namespace K33
open PySem PySem.Spec PyProof.Rows L2 K33M
def ahF (wp kx : Addr) : List (Str × V) := [("ground", .ref wp), ("knots", .ref kx)]
structure AhAt (K : PySem.W.Frag) (H : Hp) (p : Addr) (W : Web) (wp : Addr) (pl : List (List Pc)) (pw kr : Addr) : Prop where
  ex : ∃ dx kx, H p = some (.ins (cA K) dx (ahF wp kx)) ∧ KnAt K H kx W pl pw kr
theorem AhAt.mono {K : PySem.W.Frag} {H H' : Hp} (e : Ex H H') {p : Addr} {W : Web} {wp : Addr} {pl : List (List Pc)} {pw kr : Addr} (h : AhAt K H p W wp pl pw kr) : AhAt K H' p W wp pl pw kr :=
  let ⟨dx, kx, h1, h2⟩ := h.ex; ⟨dx, kx, e _ _ h1, h2.mono e⟩
theorem KnAt.up {K : PySem.W.Frag} {Vh : Hp} {x kx C d : Addr} {fs : List (Str × V)} {o' : HO} (hx : Vh x = some (.ins C d fs)) (n : kx ≠ x) {W : Web} {pl : List (List Pc)} {pw kr : Addr} (h : KnAt K Vh kx W pl pw kr) : KnAt K (upd Vh x o') kx W pl pw kr := by
  obtain ⟨dx, s, nu, pcs, h1, ⟨ys, h2, h3⟩, ls, h4, h5⟩ := h.ex
  exact ⟨dx, s, nu, pcs, by rw [upd_ne n]; exact h1, ⟨ys, up_keep hx h2 (fun z => nomatch z), pr_mono h3 fun _ _ q => K33M.SpV.mono (fun _ _ h => up_keep hx h (fun z => nomatch z)) q⟩, ls, up_keep hx h4 (fun z => nomatch z),
    pr_mono h5 fun _ _ ⟨xs, q1, q2⟩ => ⟨xs, up_keep hx q1 (fun z => nomatch z), pr_mono q2 fun _ _ q => up_keep hx q (fun z => nomatch z)⟩⟩
/-- the two that change -/
structure Hot (H : Hp) (W : Web) (pl : List (List Pc)) (pw kr : Addr) : Prop where
  pow : PowAt H pw (spsOf W).length (pcOf pl)
  known : KrAt H kr (spsOf W).length (pcOf pl)
theorem Hot.mono {H H' : Hp} (e : Ex H H') {W : Web} {pl : List (List Pc)} {pw kr : Addr} (h : Hot H W pl pw kr) : Hot H' W pl pw kr := ⟨h.pow.mono e, h.known.mono e⟩
theorem hid_upd_comm {a x : Addr} {H : Hp} {o : HO} (n : x ≠ a) : hid a (upd H x o) = upd (hid a H) x o := by
  funext b
  by_cases c : b = a
  · subst c
    rw [hid_same, upd_ne n.symm, hid_same]
  · rw [hid_ne c]
    by_cases c2 : b = x
    · rw [c2, upd_same, upd_same]
    · rw [upd_ne c2, upd_ne c2, hid_ne c]
theorem Hot.updR {H : Hp} {W : Web} (ok : WOk W) {pl : List (List Pc)} {pw kr r : Addr} {o' : HO} (h : Hot H W pl pw kr) (hr : H r = some (.lst [])) (np : pw ≠ r) (nk : kr ≠ r) : Hot (upd H r o') W pl pw kr := by
  obtain ⟨⟨as, h1, h2, h3⟩, kvs, k1, k2⟩ := h
  refine ⟨⟨as, by rw [upd_ne np]; exact h1, h2, fun i a ha => ?_⟩, kvs, by rw [upd_ne nk]; exact k1, k2⟩
  obtain ⟨rs, g1, g2, g3⟩ := h3 i a ha
  rw [hid_upd_comm np.symm]
  have hr' : hid pw H r = some (.lst []) := by rw [hid_ne np.symm]; exact hr
  have na : a ≠ r := fun z => by
    rw [z, hr'] at g1
    have : rs = [] := by
      cases rs with
      | nil => rfl
      | cons x xs => cases g1
    rw [this] at g2
    have := ok.ps.lo
    unfold spsOf at g2
    rw [List.length_append, List.length_map, List.length_nil] at g2
    omega
  exact ⟨rs, by rw [upd_ne na]; exact g1, g2, fun j b hb => let ⟨kv, q1, q2⟩ := g3 j b hb; ⟨kv, up_keep hr' q1 (fun z => nomatch z), q2⟩⟩
def sp_Ahead_init (K : PySem.W.Frag) : Sp := fun vs H Q _ => ∃ (x dx wp r : Addr) (W : Web), vs = [.ref x, .ref wp] ∧ H x = some (.ins (cA K) dx []) ∧ WebAt (cW K) (hid x H) wp W r ∧ WOk W ∧
  ∀ H' Vw pl pw kr, Ex (hid x H) Vw → Ex Vw H' → Vw pw = none → Vw kr = none → AhAt K Vw x W wp pl pw kr → (∀ a xs, hid x H a = some (.lst xs) → AhAt K (hid a Vw) x W wp pl pw kr) → PlG W (FullG W) pl → Hot H' W pl pw kr → Q .non H'
def Cache (K : PySem.W.Frag) (W : Web) (wp r : Addr) (Vw H : Hp) : Prop := H r = some (.lst []) ∨ ∃ ah pl pw kr, H r = some (.lst [.ref ah]) ∧ AhAt K Vw ah W wp pl pw kr ∧ PlG W (FullG W) pl ∧ Vw pw = none ∧ Vw kr = none ∧ (pw ≠ r ∧ kr ≠ r) ∧ Hot H W pl pw kr
def sp_ahead_of (K : PySem.W.Frag) : Sp := fun vs H Q _ => ∃ (Vw : Hp) (wp r : Addr) (W : Web), vs = [.ref wp] ∧ Ex Vw H ∧ Vw r = none ∧ WebAt (cW K) Vw wp W r ∧ WOk W ∧ Cache K W wp r Vw H ∧
  ∀ ah pl pw kr Vw' H', Ex Vw Vw' → Ex Vw' H' → Vw' r = none → H' r = some (.lst [.ref ah]) → AhAt K Vw' ah W wp pl pw kr → PlG W (FullG W) pl → Vw' pw = none → Vw' kr = none → (pw ≠ r ∧ kr ≠ r) → Hot H' W pl pw kr → Q (.ref ah) H'
section
variable {P : Program} {w : World} {K : PySem.W.Frag} {mg : Str → Option Value} {base : Heap}
theorem o_Ahead_init (T : Tx K mg) : FO P w K mg base 11 (He.ma K (He.ga K "Ahead") "__init__") ["self", "web"] (sp_Ahead_init K) := def_ok T.f_Ahead_init sc_Ahead_init (fun _ _ _ _ _ _ us hl => match us, hl with | [_, _], _ => rfl)
    (fun _ _ _ _ h => by obtain ⟨_, _, _, _, _, rfl, _⟩ := h; rfl) fun cdv A outer s H vs Q E hr h => by
  have hu := hu_of hr
  obtain ⟨x, dx, wp, r, W, rfl, hx, hw, ok, hQ⟩ := h
  obtain ⟨fdk, FK, bK, kpK⟩ := (o_Knots_init (P := P) (w := w) (base := base) T).ex
  refine ⟨_, (pss_cons (ps_fld (pv 0) (pv 1) rfl)
      (pss_one (ps_fld (pv 0) (pe_make T.k_Knots FK (hr.mono (by decide)) (by rfl) T.g_Knots bK .nil pass0 (pa_cons (pv 1) pa_nil)) rfl))), ?_⟩
  dsimp only [tCKw, tM1, tVals, tVar, tC, tB, tAnd, tOr, tNot, tAndV, tOrV, tNotV, tIf, tNext, tSeq, tBreak, tCont, tDrop, tRet, tRetN, tIfS, tNever, gName, gNil, gCons, gTup, gSub, tAsg, tPar, tAug, tTest, tChain, tFld, sFld, tNil, tCons, tTup, tLst, tCall, tMeth, tCB, tBM, tNoPart, tPart, tSl, tOp, tUn, rI, rI0, rU, iList, iTup, iRng1, iRng2, iStr, iEnum, iZip, iItems, iVals, tDGet, tDIn, tDNotIn, sDPut, tDGet2, tDNewK, tDNewT, tYes, fin, List.cons_append, List.nil_append, bx, cxOf, Cx.nox]
  have hV0 : Ex (hid x H) H := hid_ex
  have hVx : hid x H x = none := hid_same
  generalize hid x H = V0 at hV0 hVx hw hQ
  refine ⟨_, rfl, _, rfl, x, _, dx, _, rfl, hx, T.c_Ahead, T.n_Ahead_ground, Nat.lt_of_sub_eq_succ rfl, _, rfl, fun kx kdx hkx hkdx nek => ?_⟩
  have eV1 : Ex V0 (upd H x (.ins (cA K) dx (putF "ground" (.ref wp) []))) := hV0.mut hVx
  have hx1 : upd H x (.ins (cA K) dx (putF "ground" (.ref wp) [])) x = some (.ins (cA K) dx [("ground", .ref wp)]) := upd_same
  generalize upd H x (.ins (cA K) dx (putF "ground" (.ref wp) [])) = H1 at eV1 hx1 hkx hkdx ⊢
  have hVk := Evl.fresh_back eV1 hkx
  have nkx : kx ≠ x := fun z => by rw [z, hx1] at hkx; cases hkx
  have nkd : kdx ≠ x := fun z => by rw [z, hx1] at hkdx; cases hkdx
  have eVm : Ex V0 (hid kx (upd (upd H1 kdx (.own kx)) kx (.ins (cN K) kdx []))) := ex_hid ((eV1.trans (Evl.Ex.new hkdx)).mut hVk) hVk
  have hxm : hid kx (upd (upd H1 kdx (.own kx)) kx (.ins (cN K) kdx [])) x = some (.ins (cA K) dx [("ground", .ref wp)]) := by
    rw [hid_ne nkx.symm, upd_ne nkx.symm, upd_ne nkd.symm]
    exact hx1
  refine ⟨kx, kdx, wp, r, W, rfl, upd_same, hw.mono eVm, ok, fun H2 Vw pl pw kr eVw eH2 hpw hkr kn kna full hp1 hk1 => ⟨rfl, ?_⟩⟩
  have hxw := eVw _ _ hxm
  have hx2 := eH2 _ _ hxw
  have npx : pw ≠ x := fun z => by rw [z, hxw] at hpw; cases hpw
  have nrx : kr ≠ x := fun z => by rw [z, hxw] at hkr; cases hkr
  refine ⟨_, rfl, x, _, dx, _, rfl, hx2, T.c_Ahead, T.n_Ahead_knots, Nat.lt_of_sub_eq_succ rfl, ?_⟩
  refine hQ _ (upd Vw x (.ins (cA K) dx (ahF wp kx))) pl pw kr ((eVm.trans eVw).mut hVx) (fun a o h => ?_) (by rw [upd_ne npx]; exact hpw) (by rw [upd_ne nrx]; exact hkr) ⟨dx, kx, upd_same, kn.up hxw nkx⟩ (fun a xs ha => ?_) full ⟨⟨[], by rw [upd_ne npx]; exact hp1, by decide, fun i a ha => by cases ha⟩, [], by rw [upd_ne nrx]; exact hk1, List.nodup_nil, fun _ _ hm => by cases hm⟩
  · by_cases c : a = x
    · subst c
      rw [upd_same] at h ⊢
      cases h
      rfl
    · rw [upd_ne c] at h ⊢
      exact eH2 _ _ h
  · have nax : a ≠ x := fun z => by rw [z, hVx] at ha; cases ha
    have e : hid a (upd Vw x (.ins (cA K) dx (ahF wp kx))) = upd (hid a Vw) x (.ins (cA K) dx (ahF wp kx)) := by
      funext b
      by_cases c : b = a
      · subst c
        rw [hid_same, upd_ne nax, hid_same]
      · rw [hid_ne c]
        by_cases c2 : b = x
        · rw [c2, upd_same, upd_same]
        · rw [upd_ne c2, upd_ne c2, hid_ne c]
    rw [e]
    exact ⟨dx, kx, upd_same, (kna a xs (eVm _ _ ha)).up (by rw [hid_ne nax.symm]; exact hxw) nkx⟩
theorem o_ahead_of (T : Tx K mg) : FO P w K mg base 13 (He.ga K "ahead_of") ["web"] (sp_ahead_of K) := def_ok T.f_ahead_of sc_ahead_of (fun _ _ _ _ _ _ us hl => match us, hl with | [_], _ => rfl)
    (fun _ _ _ _ h => by obtain ⟨_, _, _, _, rfl, _⟩ := h; rfl) fun cdv A outer s H vs Q E hr h => by
  have hu := hu_of hr
  obtain ⟨Vw, wp, r, W, rfl, hV, hVr, hw, ok, hc, hQ⟩ := h
  obtain ⟨fda, FA, bA, kpA⟩ := (o_Ahead_init (P := P) (w := w) (base := base) T).ex
  obtain ⟨wdx, wds, wdt, tas, w1, w2, w3, w4⟩ := hw.ex
  refine ⟨_, (pss_cons (ps_if (pt_cmpR (op_eqNil (Nat.lt_of_le_of_lt (Nat.le_add_right _ 64) hr.units)) (pe_fld (pv 0) rfl) (pe_lst pa_nil) (nomark _)) (pss_one (ps_expr (pe_bm PySem.F.plainAttrs_list PySem.F.slot_list_append PySem.F.type_list_append mt_append (pe_fld (pv 0) rfl) (pa_cons (pe_make T.k_Ahead FA (hr.mono (by decide)) (by rfl) T.g_Ahead bA .nil pass0 (pa_cons (pv 0) pa_nil)) pa_nil)))) pss_nil)
      (pss_one (ps_ret (pe_ix ix_list (pe_fld (pv 0) rfl) pe_int (fun _ _ => rfl))))), ?_⟩
  dsimp only [tCKw, tM1, tVals, tVar, tC, tB, tAnd, tOr, tNot, tAndV, tOrV, tNotV, tIf, tNext, tSeq, tBreak, tCont, tDrop, tRet, tRetN, tIfS, tNever, gName, gNil, gCons, gTup, gSub, tAsg, tPar, tAug, tTest, tChain, tFld, sFld, tNil, tCons, tTup, tLst, tCall, tMeth, tCB, tBM, tNoPart, tPart, tSl, tOp, tUn, rI, rI0, rU, iList, iTup, iRng1, iRng2, iStr, iEnum, iZip, iItems, iVals, tDGet, tDIn, tDNotIn, sDPut, tDGet2, tDNewK, tDNewT, tYes, fin, List.cons_append, List.nil_append, bx, cxOf, Cx.nox]
  refine ⟨_, rfl, wp, _, _, _, _, rfl, hV _ _ w1, T.c_Web, T.n_Web_reckoned, rfl, Nat.zero_le _, fun ne hne => ?_⟩
  have e0 : Ex H (upd H ne (.lst [])) := Evl.Ex.new hne
  have hne0 : upd H ne (.lst []) ne = some (.lst []) := upd_same
  have hV1 := hV.trans e0
  rcases hc with hr0 | ⟨ah, pl, pw, kr, hr0, haa, full, hp, hk, hne', hot⟩
  · have hr1 := e0 _ _ hr0
    generalize upd H ne (.lst []) = H1 at e0 hne0 hV1 hr1 ⊢
    refine ⟨r, ne, _, rfl, rfl, sql hr1, sql hne0, _, rfl, ?_⟩
    refine ⟨_, rfl, wp, _, _, _, _, rfl, hV1 _ _ w1, T.c_Web, T.n_Web_reckoned, rfl, .inl ⟨rfl, _, sql hr1⟩, _, rfl, fun ax adx hax hadx nea => ?_⟩
    have hVa := Evl.fresh_back hV1 hax
    have nra : r ≠ ax := fun z => by rw [← z, hr1] at hax; cases hax
    have nrd : r ≠ adx := fun z => by rw [← z, hr1] at hadx; cases hadx
    have eVm : Ex Vw (hid ax (upd (upd H1 adx (.own ax)) ax (.ins (cA K) adx []))) := ex_hid ((hV1.trans (Evl.Ex.new hadx)).mut hVa) hVa
    have hrm : hid ax (upd (upd H1 adx (.own ax)) ax (.ins (cA K) adx [])) r = some (.lst []) := by
      rw [hid_ne nra, upd_ne nra, upd_ne nrd]
      exact hr1
    refine ⟨ax, adx, wp, r, W, rfl, upd_same, hw.mono eVm, ok, fun H2 V2 pl pw kr eV2 eH2 hpw hkr haa haa2 full hot => ⟨rfl, ?_⟩⟩
    have hr2 := eH2 _ _ (eV2 _ _ hrm)
    have hrV2 := eV2 _ _ hrm
    refine ⟨r, _, _, rfl, rfl, hr2, Evl.sz_lt (by decide), ?_⟩
    have haa3 := haa2 r [] hrm
    have nrp : pw ≠ r := fun z => by rw [z, hrV2] at hpw; cases hpw
    have nrk : kr ≠ r := fun z => by rw [z, hrV2] at hkr; cases hkr
    have eV3 : Ex Vw (hid r V2) := ex_hid (eVm.trans eV2) hVr
    have eH3 : Ex (hid r V2) (upd H2 r (.lst ([] ++ [.ref ax]))) := (hid_ex.trans eH2).mut hid_same
    have hot3 : Hot (upd H2 r (.lst ([] ++ [.ref ax]))) W pl pw kr := hot.updR ok hr2 nrp nrk
    have hr3 : upd H2 r (.lst ([] ++ [.ref ax])) r = some (.lst [.ref ax]) := upd_same
    exact ⟨_, rfl, wp, _, _, _, _, rfl, eH3 _ _ (eV3 _ _ w1), T.c_Web, T.n_Web_reckoned, rfl, r, _, _, .ref ax, rfl, rfl, sql hr3, rfl, hQ ax pl pw kr _ _ eV3 eH3 hid_same hr3 haa3 full (by rw [hid_ne nrp]; exact hpw) (by rw [hid_ne nrk]; exact hkr) ⟨nrp, nrk⟩ hot3⟩
  · have hr1 := e0 _ _ hr0
    have hot1 := hot.mono e0
    generalize upd H ne (.lst []) = H1 at e0 hne0 hV1 hr1 hot1 ⊢
    refine ⟨r, ne, _, rfl, rfl, sql hr1, sql hne0, _, rfl, ?_⟩
    exact ⟨_, rfl, wp, _, _, _, _, rfl, hV1 _ _ w1, T.c_Web, T.n_Web_reckoned, rfl, r, _, _, .ref ah, rfl, rfl, sql hr1, rfl, hQ ah pl pw kr Vw H1 (Evl.Ex.refl _) hV1 hVr hr1 haa full hp hk hne' hot1⟩
end
end K33


set_option Elab.async false
set_option linter.all false
set_option maxRecDepth 100000
set_option maxHeartbeats 8000000
namespace K33
open PySem PySem.Spec PyProof.Rows L2 K33M
theorem gap_split {ps : List (Str × Int)} {rd : Bool} {t : Tie} (h : TieOk ps rd t) {x y : Int} (g : Gap t x y) {m : Int} (hm : m ∈ plc t) : m ≤ x ∨ y ≤ m := by
  obtain ⟨r1, r2, r3, r4⟩ := gap_lt h g
  unfold plc at hm
  rcases List.mem_cons.mp hm with e | hm
  · omega
  · rcases List.mem_append.mp hm with hm | hm
    · obtain ⟨q, hq, rfl⟩ := List.mem_map.mp hm
      have := r4 q hq
      omega
    · have : m = t.len := by simpa using hm
      omega
def cryI (W : Web) (sp : Spot) : Int := if stOf W sp = 1 then 1 else 0
def BsAt (W : Web) (t : Tie) (i : Int) (H : Hp) (b : Addr) (c : Int) : Prop := ∃ yv, H b = some (.tup [yv, .int (if i - c < 0 then -(i - c) else i - c), .int (cryI W (spotOf t c))]) ∧ SpV H yv (spotOf t c)
theorem BsAt.mono {W : Web} {t : Tie} {i : Int} {H H' : Hp} (e : Ex H H') {b : Addr} {c : Int} (h : BsAt W t i H b c) : BsAt W t i H' b c := let ⟨yv, h1, h2⟩ := h; ⟨yv, e _ _ h1, K33M.SpV.mono (fun _ _ q => e _ _ q) h2⟩
theorem BsAt.up {W : Web} {t : Tie} {i : Int} {H : Hp} {l : Addr} {xs : List V} {o' : HO} (hl : H l = some (.lst xs)) {b : Addr} {c : Int} (h : BsAt W t i H b c) : BsAt W t i (upd H l o') b c := let ⟨yv, h1, h2⟩ := h; ⟨yv, up_keep hl h1 (fun z => nomatch z), SpV.lst hl h2⟩
def sp_knots_beside (K : PySem.W.Frag) : Sp := fun vs H Q _ => ∃ (wp r : Addr) (W : Web) (t : Tie) (x y i : Int), vs = [.ref wp, .str t.nm, .int i] ∧ WebAt (cW K) H wp W r ∧ WOk W ∧ t ∈ W.ts ∧ Gap t x y ∧ x < i ∧ i < y ∧
  ∀ l b1 b2 y1 y2 H', Ex H H' → H' l = some (.lst [.ref b1, .ref b2]) → H' b1 = some (.tup [y1, .int (i - x), .int (cryI W (spotOf t x))]) → SpV H' y1 (spotOf t x) → H' b2 = some (.tup [y2, .int (y - i), .int (cryI W (spotOf t y))]) → SpV H' y2 (spotOf t y) → Q (.ref l) H'
section
variable {P : Program} {w : World} {K : PySem.W.Frag} {mg : Str → Option Value} {base : Heap}
theorem o_knots_beside (T : Tx K mg) : FO P w K mg base 6 (He.ga K "knots_beside") ["web", "tie", "place"] (sp_knots_beside K) := def_ok T.f_knots_beside sc_knots_beside (fun _ _ _ _ _ _ us hl => match us, hl with | [_, _, _], _ => rfl)
    (fun _ _ _ _ h => by obtain ⟨_, _, _, _, _, _, _, rfl, _⟩ := h; rfl) fun cdv A outer s H vs Q E hr h => by
  have hu := hu_of hr
  obtain ⟨_, hi_CRYING_counts, ri_CRYING_counts⟩ := T.i_CRYING_counts
  obtain ⟨wp, r, W, t, x, y, i, rfl, hw, ok, ht, gp, h1, h2, hQ⟩ := h
  obtain ⟨wdx, wds, wdt, tas, w1, w2, w3, w4⟩ := hw.ex
  have tk := ok.ts.ok t ht
  obtain ⟨r1, r2, r3, r4⟩ := gap_lt tk gp
  have mem : x ∈ plc t ∧ y ∈ plc t := by
    obtain ⟨n, a1, a2⟩ := gp
    exact ⟨List.mem_of_getElem? a1, List.mem_of_getElem? a2⟩
  have hhs : t.hs.length ≤ 12 := by
    have := ok.ts.hh
    have := sum_one (fun t : Tie => t.hs.length) ht
    omega
  have hpll : (plc t).length = t.hs.length + 2 := by simp [plc]
  refine ⟨_, (pss_cons (ps_set (i := 3) sc_knots_beside.nd rfl (.inl rfl) (c_fn (o_places_of_knots T) T.g_places_of_knots (hr.mono (by decide)) (pa_cons (pv 0) (pa_cons (pv 1) pa_nil))))
      (pss_cons (ps_set (i := 4) sc_knots_beside.nd rfl (.inl rfl) (pe_callB (cr_max rfl) (by rfl) T.z_max (by decide +kernel) (pa_cons (pe_lc (own := [("one", 7)]) rfl sc_knots_beside.nd (pi_list (pv 3)) (blkOk_by (by rfl)) (fun _ _ _ _ _ => (pg_name (i := 7) sc_knots_beside.nd rfl (.inl rfl))) (fun _ _ _ _ _ => (pts_one (pt_cmpR op_lt (pv 7) (pv 2) (nomark _)))) (fun _ _ _ _ _ => (pv 7))) pa_nil)))
      (pss_cons (ps_set (i := 5) sc_knots_beside.nd rfl (.inl rfl) (pe_callB (cr_min rfl) (by rfl) T.z_min (by decide +kernel) (pa_cons (pe_lc (own := [("one", 7)]) rfl sc_knots_beside.nd (pi_list (pv 3)) (blkOk_by (by rfl)) (fun _ _ _ _ _ => (pg_name (i := 7) sc_knots_beside.nd rfl (.inl rfl))) (fun _ _ _ _ _ => (pts_one (pt_cmpR op_gt (pv 7) (pv 2) (nomark _)))) (fun _ _ _ _ _ => (pv 7))) pa_nil)))
      (pss_cons (ps_set (i := 6) sc_knots_beside.nd rfl (.inl rfl) (pe_lst pa_nil))
      (pss_cons (ps_for PassesOwn.never rfl (pi_tup (pe_tup (pa_cons (pv 4) (pa_cons (pv 5) pa_nil)))) (pg_name (i := 7) sc_knots_beside.nd rfl (.inl rfl))
        (pss_cons (ps_set (i := 8) sc_knots_beside.nd rfl (.inl rfl) (c_fn (o_spot_at T) T.g_spot_at (hr.mono (by decide)) (pa_cons (pv 0) (pa_cons (pv 1) (pa_cons (pv 7) pa_nil)))))
        (pss_one (ps_expr (pe_bm PySem.F.plainAttrs_list PySem.F.slot_list_append PySem.F.type_list_append mt_append (pv 6) (pa_cons (pe_tup (pa_cons (pv 8) (pa_cons (pe_callB call_abs (by rfl) T.z_abs (by decide +kernel) (pa_cons (pe_op op_sub (pv 2) (pv 7)) pa_nil)) (pa_cons (pe_callTy call_int1 (by rfl) T.z_int (by decide +kernel) (pa_cons (pe_cmpR op_eq (c_m (pv 0) T.c_Web T.m_Web_state (o_Web_state T) (hr.mono (by decide)) (pa_cons (pv 8) pa_nil)) (pe_glob rfl hi_CRYING_counts ri_CRYING_counts) (nomark _)) pa_nil)) pa_nil)))) pa_nil))))))
      (pss_one (ps_ret (pv 6)))))))), ?_⟩
  dsimp only [tCKw, tM1, tVals, tVar, tC, tB, tAnd, tOr, tNot, tAndV, tOrV, tNotV, tIf, tNext, tSeq, tBreak, tCont, tDrop, tRet, tRetN, tIfS, tNever, gName, gNil, gCons, gTup, gSub, tAsg, tPar, tAug, tTest, tChain, tFld, sFld, tNil, tCons, tTup, tLst, tCall, tMeth, tCB, tBM, tNoPart, tPart, tSl, tOp, tUn, rI, rI0, rU, iList, iTup, iRng1, iRng2, iStr, iEnum, iZip, iItems, iVals, tDGet, tDIn, tDNotIn, sDPut, tDGet2, tDNewK, tDNewT, tYes, fin, List.cons_append, List.nil_append, bx, cxOf, Cx.nox]
  refine ⟨_, rfl, _, rfl, wp, r, W, t, rfl, hw, ok, ht, fun l0 H1 hl0 e1 hl1 => ?_⟩
  have comp : ∀ (H2 : Hp) (cmp : Int → Int → Bool) (te : TT) (σ : L2.St) (Q0 : VK), Ex H1 H2 → (∀ (j : Int) (σ' : L2.St) (Ha : Hp) (Q1 : Bool → Hp → Prop), σ'[7]? = some (some (.int j)) → σ'[2]? = some (some (.int i)) → Q1 (cmp j i) Ha → te σ' Ha Q1) →
      σ[3]? = some (some (.ref l0)) → (wipe σ [7])[2]? = some (some (.int i)) → 7 < σ.length → (∀ v, wipe ((wipe σ [7]).set 7 v) [7] = wipe σ [7]) → (∀ v, ((wipe σ [7]).set 7 (some v))[7]? = some (some v) ∧ ((wipe σ [7]).set 7 (some v))[2]? = some (some (.int i))) →
      (∀ (L : Addr) (H3 : Hp) (ns : List Int), Ex H2 H3 → H3 L = some (.lst (ns.map V.int)) → (∀ m, m ∈ ns ↔ (m ∈ plc t ∧ cmp m i = true)) → Q0 (.ref L) H3) → tLc (iList K (tVar 3)) (gName 7) te (tVar 7) [7] σ H2 Q0 := fun H2 cmp te σ Q0 e2 hte h3 h2' hl7 hwp hst hQ0 => by
    refine ⟨_, h3, l0, rfl, ⟨_, sql (e2 _ _ hl1)⟩, lc_pick (walk_list (xs := (plc t).map V.int)) (fun j => match (plc t)[j]? with | some m => cmp m i | none => false) (fun j _ v => ∃ m, (plc t)[j]? = some m ∧ v = .int m) (by rw [List.length_map, hpll]; omega) (fun H e => sql (e _ _ (e2 _ _ hl1))) (fun _ _ _ _ _ r => r) gm_name (fun j v Ha Hb hj e3 Y => ?_) fun L Ha ys hL e3 hys pk => ?_⟩
    · obtain ⟨rfl, hv⟩ := Y
      rw [List.length_map] at hj
      obtain ⟨m, hm⟩ := at_lt hj
      rw [List.getElem?_map, hm] at hv
      cases hv
      refine ⟨hwp _, fun Qy Qn k1 k2 => hte m _ _ _ (hst _).1 (hst _).2 ?_⟩
      rw [hm] at k1 k2
      cases c : cmp m i with
      | true => exact ⟨_, (hst _).1, k1 c _ _ (Evl.Ex.refl _) ⟨m, rfl, rfl⟩⟩
      | false => exact k2 c _ (Evl.Ex.refl _)
    · obtain ⟨ns, hns⟩ := ints_of (l := ys) fun v hv => by
        obtain ⟨j, hj⟩ := List.getElem?_of_mem hv
        obtain ⟨a, ha, m, _, e⟩ := pr_back pk hj
        exact ⟨m, e⟩
      subst hns
      refine hQ0 L Ha ns e3 hys fun m => ⟨fun hm => ?_, fun ⟨hm, hc⟩ => ?_⟩
      · obtain ⟨j, hj⟩ := List.getElem?_of_mem (List.mem_map_of_mem (f := V.int) hm)
        obtain ⟨a, ha, m', e, e'⟩ := pr_back pk hj
        injection e' with e'
        subst e'
        have := List.mem_of_getElem? ha
        rw [List.mem_filter, e] at this
        exact ⟨List.mem_of_getElem? e, this.2⟩
      · obtain ⟨j, hj⟩ := List.getElem?_of_mem hm
        have : j ∈ (List.range ((plc t).map V.int).length).filter (fun j => match (plc t)[j]? with | some m => cmp m i | none => false) := by
          rw [List.mem_filter, hj, List.mem_range, List.length_map]
          exact ⟨(List.getElem?_eq_some_iff.mp hj).1, hc⟩
        obtain ⟨n, hn⟩ := List.getElem?_of_mem this
        obtain ⟨v, hv, m', e, e'⟩ := pr_at pk hn
        rw [hj] at e
        cases e
        rw [e', List.getElem?_map] at hv
        obtain ⟨z, hz, ez⟩ := Option.map_eq_some_iff.mp hv
        injection ez with ez
        subst ez
        exact List.mem_of_getElem? hz
  refine comp H1 (fun j i => decide (j < i)) _ _ _ (Evl.Ex.refl _) (fun j σ' Ha Q1 q7 q2 k => ⟨_, q7, _, q2, _, _, rfl, rfl, _, rfl, k⟩) rfl rfl (Nat.lt_of_sub_eq_succ rfl) (fun _ => rfl) (fun _ => ⟨rfl, rfl⟩) fun L1 H2 ns e2 hL1 hns => ?_
  refine ⟨L1, ns, rfl, sql hL1, List.length_pos_of_mem ((hns x).mpr ⟨mem.1, decide_eq_true h1⟩), fun m hm hmx => ?_⟩
  have em : m = x := by
    have a1 := hmx x ((hns x).mpr ⟨mem.1, decide_eq_true h1⟩)
    obtain ⟨b1, b2⟩ := (hns m).mp hm
    have b2 := of_decide_eq_true b2
    rcases gap_split tk gp b1 with c | c <;> omega
  subst em
  refine comp H2 (fun j i => decide (i < j)) _ _ _ e2 (fun j σ' Ha Q1 q7 q2 k => ⟨_, q7, _, q2, _, _, rfl, rfl, _, rfl, k⟩) rfl rfl (Nat.lt_of_sub_eq_succ rfl) (fun _ => rfl) (fun _ => ⟨rfl, rfl⟩) fun L2 H3 ns2 e3 hL2 hns2 => ?_
  refine ⟨L2, ns2, rfl, sql hL2, List.length_pos_of_mem ((hns2 y).mpr ⟨mem.2, decide_eq_true h2⟩), fun m2 hm2 hmx2 => ?_⟩
  have em2 : m2 = y := by
    have a1 := hmx2 y ((hns2 y).mpr ⟨mem.2, decide_eq_true h2⟩)
    obtain ⟨b1, b2⟩ := (hns2 m2).mp hm2
    have b2 := of_decide_eq_true b2
    rcases gap_split tk gp b1 with c | c <;> omega
  subst em2
  have e13 := e1.trans (e2.trans e3)
  refine ⟨Nat.zero_le _, fun fl hfl => ?_⟩
  have e4 : Ex H3 (upd H3 fl (.lst [])) := Evl.Ex.new hfl
  have hfn := Evl.fresh_back e13 hfl
  refine ⟨_, rfl, _, rfl, Nat.le_of_ble_eq_true rfl, fun tp htp => ⟨tp, rfl, ⟨_, sqt upd_same⟩, ?_⟩⟩
  have e5 : Ex H3 (upd (upd H3 fl (.lst [])) tp (.tup [.int m, .int m2])) := e4.trans (Evl.Ex.new htp)
  have hf5 : upd (upd H3 fl (.lst [])) tp (.tup [.int m, .int m2]) fl = some (.lst []) := (Evl.Ex.new htp) _ _ upd_same
  have ht5 : upd (upd H3 fl (.lst [])) tp (.tup [.int m, .int m2]) tp = some (.tup [.int m, .int m2]) := upd_same
  generalize upd (upd H3 fl (.lst [])) tp (.tup [.int m, .int m2]) = H5 at e5 hf5 ht5 ⊢
  have e15 := e13.trans e5
  refine for_it (walk_tup (xs := [V.int m, V.int m2])) (fun n σ H' => ∃ x7 x8 bs, σ = [some (.ref wp), some (.str t.nm), some (.int i), some (.ref l0), some (.int m), some (.int m2), some (.ref fl), x7, x8] ∧ Ex H H' ∧ H' tp = some (.tup [.int m, .int m2]) ∧ H' fl = some (.lst (bs.map V.ref)) ∧ Paired (fun b c => BsAt W t i H' b c) bs ([m, m2].take n)) ?_ (fun n σ H' _ ⟨_, _, _, _, _, h1, _⟩ => sqt h1) (fun n v σ H' H6 hn wv yv => ?_) fun σ H6 wv => ?_
  · exact ⟨_, _, [], rfl, e15, ht5, hf5, .nil⟩
  · obtain ⟨x7, x8, bs, rfl, eV, g1, g2, gp⟩ := wv
    obtain ⟨rfl, hv⟩ := yv
    have hn : n < 2 := hn
    have hc : ∃ c, [m, m2][n]? = some c ∧ v = .int c ∧ 0 ≤ c ∧ c ≤ t.len := by
      match n, hn, hv with
      | 0, _, hv => cases hv; exact ⟨m, rfl, rfl, by omega, by omega⟩
      | 1, _, hv => cases hv; exact ⟨m2, rfl, rfl, by omega, by omega⟩
    obtain ⟨c, hc1, rfl, hc2, hc3⟩ := hc
    dsimp only [tCKw, tM1, tVals, tVar, tC, tB, tAnd, tOr, tNot, tAndV, tOrV, tNotV, tIf, tNext, tSeq, tBreak, tCont, tDrop, tRet, tRetN, tIfS, tNever, gName, gNil, gCons, gTup, gSub, tAsg, tPar, tAug, tTest, tChain, tFld, sFld, tNil, tCons, tTup, tLst, tCall, tMeth, tCB, tBM, tNoPart, tPart, tSl, tOp, tUn, rI, rI0, rU, iList, iTup, iRng1, iRng2, iStr, iEnum, iZip, iItems, iVals, tDGet, tDIn, tDNotIn, sDPut, tDGet2, tDNewK, tDNewT, tYes, fin, List.cons_append, List.nil_append, bx, cxOf, Cx.nox]
    refine ⟨_, rfl, _, rfl, _, rfl, wp, r, W, t, c, rfl, hw.mono eV, ok, ht, hc2, hc3, fun yv H7 e7 hyv => ?_⟩
    have eV7 := eV.trans e7
    refine ⟨_, rfl, .inl ⟨rfl, _, sql (e7 _ _ g2)⟩, _, rfl, _, rfl, _, rfl, _, _, rfl, rfl, _, rfl, _, rfl, wp, _, _, rfl, eV7 _ _ w1, rfl, _, rfl, wp, r, W, yv, spotOf t c, rfl, hw.mono eV7, ok, hyv, spotOf_in ok ht hc2 hc3, fun H8 e8 => ⟨rfl, .inr ⟨_, rfl, Nat.le_of_ble_eq_true rfl, fun u hu => ?_⟩⟩⟩
    have e9 : Ex H8 (upd H8 u (.tup [yv, .int (if i - c < 0 then -(i - c) else i - c), .int (if decide (V.int (stOf W (spotOf t c)) = V.int 1) = true then 1 else 0)])) := Evl.Ex.new hu
    have e79 := e7.trans (e8.trans e9)
    have hnew : BsAt W t i (upd H8 u (.tup [yv, .int (if i - c < 0 then -(i - c) else i - c), .int (if decide (V.int (stOf W (spotOf t c)) = V.int 1) = true then 1 else 0)])) u c := by
      refine ⟨yv, ?_, K33M.SpV.mono (fun _ _ q => e9 _ _ (e8 _ _ q)) hyv⟩
      rw [upd_same]
      have ec : (if decide (V.int (stOf W (spotOf t c)) = V.int 1) = true then (1 : Int) else 0) = cryI W (spotOf t c) := by
        unfold cryI
        by_cases q : stOf W (spotOf t c) = 1
        · rw [if_pos q, if_pos (decide_eq_true (by rw [q]))]
        · rw [if_neg q, if_neg (fun z => q (by have := of_decide_eq_true z; injection this))]
      rw [ec]
    have gfl := e79 _ _ g2
    refine ⟨fl, _, _, rfl, rfl, gfl, Evl.sz_lt ?_, _, _, bs ++ [u], rfl, (eV.trans e79).mut hfn, up_keep gfl (e79 _ _ g1) (fun z => nomatch z), by rw [upd_same, List.map_append]; rfl, ?_⟩
    · rw [List.length_map, pr_len gp]
      simp only [List.length_take, List.length_cons, List.length_nil]
      omega
    · rw [List.take_add_one, hc1]
      exact Paired.snoc (pr_mono gp fun _ _ q => (q.mono e79).up gfl) (hnew.up gfl)
  · obtain ⟨x7, x8, bs, rfl, eV, g1, g2, gp⟩ := wv
    have gp : Paired (fun b c => BsAt W t i H6 b c) bs [m, m2] := gp
    cases gp with
    | @cons b1 _ bs _ q1 gp =>
      cases gp with
      | @cons b2 _ bs _ q2 gp =>
        cases gp
        obtain ⟨y1, a1, a2⟩ := q1
        obtain ⟨y2, a3, a4⟩ := q2
        rw [if_neg (by omega)] at a1
        rw [if_pos (by omega), show -(i - m2) = m2 - i by omega] at a3
        exact ⟨_, rfl, hQ fl b1 b2 y1 y2 H6 eV g2 a1 a2 a3 a4⟩
end
end K33


set_option Elab.async false
set_option linter.all false
set_option maxRecDepth 100000
set_option maxHeartbeats 8000000
namespace K33
open PySem PySem.Spec PyProof.Rows L2 K33M
theorem sp_nm {W : Web} (ok : WOk W) {sp : Spot} (h : SpotIn W sp) : SpNm sp := by
  cases sp with
  | p x =>
    obtain ⟨q, hq, e⟩ := List.mem_map.mp h
    exact e ▸ ok.ps.nm q hq
  | h n i =>
    obtain ⟨t, ht, e, _⟩ := h
    exact e ▸ (ok.ts.ok t ht).nm
/-- an untold hearer stands between two neighbouring knots -/
theorem gap_of {W : Web} (ok : WOk W) {t : Tie} (ht : t ∈ W.ts) {i : Int} (h0 : 0 < i) (h1 : i < t.len) (hn : Spot.h t.nm i ∉ spsOf W) : ∃ x y, Gap t x y ∧ x < i ∧ i < y := by
  have hi : i ∉ plc t := fun h => hn (by have := knot_in ok ht h; rwa [spotOf_in_eq h0 h1] at this)
  have key : ∀ n : Nat, n < (plc t).length → (∀ m v, m ≤ n → (plc t)[m]? = some v → v < i) ∨ ∃ x y, Gap t x y ∧ x < i ∧ i < y := by
    intro n
    induction n with
    | zero =>
      intro _
      refine .inl fun m v hm hv => ?_
      have : m = 0 := by omega
      subst this
      have : (plc t)[0]? = some 0 := rfl
      rw [this] at hv
      cases hv
      exact h0
    | succ n ih =>
      intro hl
      rcases ih (by omega) with h | h
      · obtain ⟨y, hy⟩ := at_lt hl
        obtain ⟨x, hx⟩ := at_lt (l := plc t) (i := n) (by omega)
        have hxi := h n x (Nat.le_refl _) hx
        by_cases c : y < i
        · refine .inl fun m v hm hv => ?_
          by_cases cm : m ≤ n
          · exact h m v cm hv
          · have : m = n + 1 := by omega
            subst this
            rw [hy] at hv
            cases hv
            exact c
        · have : y ≠ i := fun e => hi (e ▸ List.mem_of_getElem? hy)
          exact .inr ⟨x, y, ⟨n, hx, hy⟩, hxi, by omega⟩
      · exact .inr h
  have hpll : (plc t).length = t.hs.length + 2 := by simp [plc]
  rcases key (t.hs.length + 1) (by omega) with h | h
  · have : (plc t)[t.hs.length + 1]? = some t.len := by
      show (0 :: (t.hs.map (·.1) ++ [t.len]))[t.hs.length + 1]? = _
      rw [List.getElem?_cons_succ, List.getElem?_append_right (by simp)]
      simp
    have := h _ _ (Nat.le_refl _) this
    omega
  · exact h
structure Way where
  k : Nat
  far : Int
  more : Int
def WayAt (H : Hp) (b : Addr) (v : Way) : Prop := H b = some (.tup [.int (v.k : Int), .int v.far, .int v.more])
def WaysOf (W : Web) (sp : Spot) (ws : List Way) : Prop := (∃ k, (spsOf W)[k]? = some sp ∧ ws = [⟨k, 0, 0⟩]) ∨
  ∃ t ∈ W.ts, ∃ x y i k1 k2, sp = .h t.nm i ∧ Gap t x y ∧ x < i ∧ i < y ∧ (spsOf W)[k1]? = some (spotOf t x) ∧ (spsOf W)[k2]? = some (spotOf t y) ∧ ws = [⟨k1, i - x, cryI W (spotOf t x)⟩, ⟨k2, y - i, cryI W (spotOf t y)⟩]
def sp_Ahead_ways (K : PySem.W.Frag) : Sp := fun vs H Q _ => ∃ (p wp r : Addr) (W : Web) (pl : List (List Pc)) (pw kr : Addr) (y : V) (sp : Spot), vs = [.ref p, y] ∧ AhAt K H p W wp pl pw kr ∧ WebAt (cW K) H wp W r ∧ WOk W ∧ SpV H y sp ∧ SpotIn W sp ∧
  ∀ l bs ws H', Ex H H' → H' l = some (.lst (bs.map V.ref)) → Paired (WayAt H') bs ws → WaysOf W sp ws → Q (.ref l) H'
section
variable {P : Program} {w : World} {K : PySem.W.Frag} {mg : Str → Option Value} {base : Heap}
theorem o_Ahead_ways (T : Tx K mg) : FO P w K mg base 7 (He.ma K (He.ga K "Ahead") "ways") ["self", "spot"] (sp_Ahead_ways K) := def_ok T.f_Ahead_ways sc_Ahead_ways (fun _ _ _ _ _ _ us hl => match us, hl with | [_, _], _ => rfl)
    (fun _ _ _ _ h => by obtain ⟨_, _, _, _, _, _, _, _, _, rfl, _⟩ := h; rfl) fun cdv A outer s H vs Q E hr h => by
  have hu := hu_of hr
  obtain ⟨p, wp, r, W, pl, pw, kr, y, sp, rfl, ha, hw, ok, hy, hs, hQ⟩ := h
  obtain ⟨dx, kx, h1, hkn⟩ := ha.ex
  obtain ⟨kdx, s', nu, pcs, k1, k2, k3⟩ := hkn.ex
  refine ⟨_, (pss_cons (ps_set (i := 2) sc_Ahead_ways.nd rfl (.inl rfl) (c_m (pe_fld (pv 0) rfl) T.c_Knots T.m_Knots_number_of (o_Knots_number_of T) (hr.mono (by decide)) (pa_cons (pv 1) pa_nil)))
      (pss_cons (ps_if (pt_cmpR op_notN (pv 2) pe_non (nomark _)) (pss_one (ps_ret (pe_lst (pa_cons (pe_tup (pa_cons (pv 2) (pa_cons pe_int (pa_cons pe_int pa_nil)))) pa_nil)))) pss_nil)
      (pss_cons (ps_asg (pv 1) (pg_tup rfl (pgs_cons (pg_name (i := 3) sc_Ahead_ways.nd rfl (.inl rfl)) (pgs_cons (pg_name (i := 4) sc_Ahead_ways.nd rfl (.inl rfl)) pgs_nil))))
      (pss_one (ps_ret (pe_lc (own := [("one", 5), ("far", 6), ("more", 7)]) rfl sc_Ahead_ways.nd (pi_list (c_fn (o_knots_beside T) T.g_knots_beside (hr.mono (by decide)) (pa_cons (pe_fld (pv 0) rfl) (pa_cons (pv 3) (pa_cons (pv 4) pa_nil))))) (blkOk_by (by rfl)) (fun _ _ _ _ _ => (pg_tupK (K := K) 3 rfl rfl (pgs_cons (pg_name (i := 5) sc_Ahead_ways.nd rfl (.inl rfl)) (pgs_cons (pg_name (i := 6) sc_Ahead_ways.nd rfl (.inl rfl)) (pgs_cons (pg_name (i := 7) sc_Ahead_ways.nd rfl (.inl rfl)) pgs_nil))))) (fun _ _ _ _ _ => pts_nil) (fun _ _ _ _ _ => (pe_tup (pa_cons (c_m (pe_fldK (K := K) rfl (pv 0) rfl) T.c_Knots T.m_Knots_number_of (o_Knots_number_of T) (hr.mono (by decide)) (pa_cons (pv 5) pa_nil)) (pa_cons (pv 6) (pa_cons (pv 7) pa_nil))))))))))), ?_⟩
  dsimp only [tCKw, tM1, tVals, tVar, tC, tB, tAnd, tOr, tNot, tAndV, tOrV, tNotV, tIf, tNext, tSeq, tBreak, tCont, tDrop, tRet, tRetN, tIfS, tNever, gName, gNil, gCons, gTup, gSub, tAsg, tPar, tAug, tTest, tChain, tFld, sFld, tNil, tCons, tTup, tLst, tCall, tMeth, tCB, tBM, tNoPart, tPart, tSl, tOp, tUn, rI, rI0, rU, iList, iTup, iRng1, iRng2, iStr, iEnum, iZip, iItems, iVals, tDGet, tDIn, tDNotIn, sDPut, tDGet2, tDNewK, tDNewT, tYes, fin, List.cons_append, List.nil_append, bx, cxOf, Cx.nox]
  refine ⟨_, rfl, p, _, _, _, _, rfl, h1, T.c_Ahead, T.n_Ahead_knots, rfl, kx, _, _, rfl, k1, rfl, _, rfl, kx, kdx, s', nu, pcs, pw, kr, spsOf W, y, sp, rfl, k1, k2, spsOf_nm ok, hy, sp_nm ok hs, fun v H1 e1 hv => ?_⟩
  rcases hv with ⟨j, hj, rfl⟩ | ⟨hno, rfl⟩
  · refine ⟨_, rfl, rfl, _, rfl, ?_⟩
    refine ⟨_, rfl, Nat.le_of_ble_eq_true rfl, fun b hb => ⟨Nat.le_of_ble_eq_true rfl, fun l hl => ?_⟩⟩
    exact hQ l [b] [⟨j, 0, 0⟩] _ ((e1.trans (Evl.Ex.new hb)).trans (Evl.Ex.new hl)) upd_same (.cons ((Evl.Ex.new hl) _ _ upd_same) .nil) (.inl ⟨j, hj, rfl⟩)
  · refine ⟨_, rfl, rfl, _, rfl, ?_⟩
    cases sp with
    | p x =>
      exfalso
      apply hno
      obtain ⟨q, hq, e⟩ := List.mem_map.mp hs
      exact List.mem_append_left _ (List.mem_map.mpr ⟨q, hq, by rw [e]⟩)
    | h n i =>
      obtain ⟨b, rfl, hb⟩ := hy
      obtain ⟨t, ht, rfl, hi⟩ := hs
      obtain ⟨x, y, gp, g1, g2⟩ := gap_of ok ht hi.1 hi.2 hno
      have mem : x ∈ plc t ∧ y ∈ plc t := by
        obtain ⟨n, a1, a2⟩ := gp
        exact ⟨List.mem_of_getElem? a1, List.mem_of_getElem? a2⟩
      obtain ⟨r1, r2, r3, r4⟩ := gap_lt (ok.ts.ok t ht) gp
      have hb1 := e1 _ _ hb
      refine ⟨_, rfl, _, _, rfl, sqt hb1, rfl, _, _, rfl, _, _, rfl, rfl, ?_⟩
      refine ⟨_, rfl, p, _, _, _, _, rfl, e1 _ _ h1, T.c_Ahead, T.n_Ahead_ground, rfl, _, rfl, _, rfl, wp, r, W, t, x, y, i, rfl, hw.mono e1, ok, ht, gp, g1, g2, fun l b1 b2 y1 y2 H2 e2 hl hb1 hy1 hb2 hy2 => ⟨l, rfl, ⟨_, sql hl⟩, ?_⟩⟩
      have e12 := e1.trans e2
      have item : ∀ (j : Nat) (v : V) (Hb : Hp), Ex H2 Hb → j < 2 → [V.ref b1, V.ref b2][j]? = some v → ∃ c yv, v = .ref c ∧ Hb c = some (.tup [yv, .int (if j = 0 then i - x else y - i), .int (cryI W (spotOf t (if j = 0 then x else y)))]) ∧ SpV Hb yv (spotOf t (if j = 0 then x else y)) := fun j v Hb e hj hv => by
        match j, hj, hv with
        | 0, _, hv =>
          cases hv
          exact ⟨b1, y1, rfl, e _ _ hb1, K33M.SpV.mono (fun _ _ q => e _ _ q) hy1⟩
        | 1, _, hv =>
          cases hv
          exact ⟨b2, y2, rfl, e _ _ hb2, K33M.SpV.mono (fun _ _ q => e _ _ q) hy2⟩
      refine lc_pick (walk_list (xs := [V.ref b1, V.ref b2])) (fun _ => true) (fun j H v => ∃ c k, v = V.ref c ∧ (spsOf W)[k]? = some (spotOf t (if j = 0 then x else y)) ∧ WayAt H c ⟨k, (if j = 0 then i - x else y - i), cryI W (spotOf t (if j = 0 then x else y))⟩) (Nat.le_of_ble_eq_true rfl) (fun H e => sql (e _ _ hl))
        (fun j v H H' e ⟨c, k, e1, h, a⟩ => ⟨c, k, e1, h, e _ _ a (fun _ z => nomatch z)⟩) gm_tup3 (fun j v Ha Hb hj e3 Y => ?_) fun L Ha ys hL e3 hys pk => ?_
      · obtain ⟨rfl, hv⟩ := Y
        have hj : j < 2 := hj
        obtain ⟨c, yv, rfl, hc, hyv⟩ := item j v Hb e3 hj hv
        have e13 := e12.trans e3
        have hm : (if j = 0 then x else y) ∈ plc t ∧ 0 ≤ (if j = 0 then x else y) ∧ (if j = 0 then x else y) ≤ t.len := by
          split
          · exact ⟨mem.1, by omega, by omega⟩
          · exact ⟨mem.2, by omega, by omega⟩
        generalize (if j = 0 then x else y) = m at hc hyv hm ⊢
        generalize (if j = 0 then i - x else y - i) = far at hc ⊢
        dsimp only [tCKw, tM1, tVals, tVar, tC, tB, tAnd, tOr, tNot, tAndV, tOrV, tNotV, tIf, tNext, tSeq, tBreak, tCont, tDrop, tRet, tRetN, tIfS, tNever, gName, gNil, gCons, gTup, gSub, tAsg, tPar, tAug, tTest, tChain, tFld, sFld, tNil, tCons, tTup, tLst, tCall, tMeth, tCB, tBM, tNoPart, tPart, tSl, tOp, tUn, rI, rI0, rU, iList, iTup, iRng1, iRng2, iStr, iEnum, iZip, iItems, iVals, tDGet, tDIn, tDNotIn, sDPut, tDGet2, tDNewK, tDNewT, tYes, fin, List.cons_append, List.nil_append, bx, cxOf, Cx.nox]
        refine ⟨_, _, rfl, sqt hc, rfl, _, _, rfl, _, _, rfl, _, _, rfl, rfl, rfl, fun Qy Qn k _ => ?_⟩
        refine ⟨_, rfl, p, _, _, _, _, rfl, e13 _ _ h1, T.c_Ahead, T.n_Ahead_knots, rfl, kx, _, _, rfl, e13 _ _ k1, rfl, _, rfl, kx, kdx, s', nu, pcs, pw, kr, spsOf W, yv, spotOf t m, rfl, e13 _ _ k1, k2.mono e13, spsOf_nm ok, hyv, sp_nm ok (spotOf_in ok ht hm.2.1 hm.2.2), fun v H4 e4 hv => ?_⟩
        rcases hv with ⟨kj, hkj, rfl⟩ | ⟨hno, _⟩
        · exact ⟨_, rfl, _, rfl, Nat.le_of_ble_eq_true rfl, fun u hu => k rfl _ _ (e4.trans (Evl.Ex.new hu)) ⟨u, kj, rfl, hkj, upd_same⟩⟩
        · exact absurd (knot_in ok ht hm.1) hno
      · have pk2 := pk.all
        have hr2 : List.range [V.ref b1, V.ref b2].length = [0, 1] := rfl
        rw [hr2] at pk2
        cases pk2 with
        | @cons _ v1 _ vs q1 pk3 =>
          cases pk3 with
          | @cons _ v2 _ vs q2 pk4 =>
            cases pk4
            obtain ⟨c1, kk1, rfl, g3, g4⟩ := q1
            obtain ⟨c2, kk2, rfl, g5, g6⟩ := q2
            exact hQ L [c1, c2] _ Ha (e12.trans e3) hys (.cons g4 (.cons g6 .nil)) (.inr ⟨t, ht, x, y, i, kk1, kk2, rfl, gp, g1, g2, g3, g5, rfl⟩)
end
end K33


set_option Elab.async false
set_option linter.all false
set_option maxRecDepth 100000
set_option maxHeartbeats 8000000
namespace K33
open PySem PySem.Spec PyProof.Rows L2 K33M
noncomputable def stepW (W : Web) (b : Nat) (acc : Int) (v : Way) : Int := if v.far ≤ (b : Int) then most2 acc (v.more + ct W (b - v.far.toNat) (knOf W v.k)) else acc
theorem ways_ct {W : Web} (ok : WOk W) {pl : List (List Pc)} (g : PlG W (FullG W) pl) {sp : Spot} {ws : List Way} (h : WaysOf W sp ws) (b : Nat) : ws.foldl (stepW W b) 0 = ct W b sp := by
  rcases h with ⟨k, hk, rfl⟩ | ⟨t, ht, x, y, i, k1, k2, rfl, gp, g1, g2, h1, h2, rfl⟩
  · show stepW W b 0 ⟨k, 0, 0⟩ = _
    unfold stepW
    rw [if_pos (by show (0 : Int) ≤ _; omega)]
    have e : b - (0 : Int).toNat = b := by simp
    show most2 0 (0 + ct W (b - (0 : Int).toNat) (knOf W k)) = _
    rw [e, knOf_eq hk]
    have nn : 0 ≤ ct W b sp := cnt_nn _ _ _
    unfold most2
    split <;> omega
  · rw [ct_amid ok g ht gp g1 g2]
    obtain ⟨r1, r2, r3, r4⟩ := gap_lt (ok.ts.ok t ht) gp
    have rdf : W.rd = false := by
      have hl := (ok.ts.ok t ht).len
      unfold LenOk at hl
      cases e : W.rd with
      | true => rw [e, if_pos rfl] at hl; omega
      | false => rfl
    have ec : ∀ sp, tau W.rd 0 (stOf W sp) = cryI W sp := fun sp => by
      rw [rdf]
      unfold tau cryI
      simp
    rw [ec, ec]
    show stepW W b (stepW W b 0 ⟨k1, i - x, cryI W (spotOf t x)⟩) ⟨k2, y - i, cryI W (spotOf t y)⟩ = _
    unfold stepW
    simp only [knOf_eq h1, knOf_eq h2]
def sp_Ahead_count (K : PySem.W.Frag) : Sp := fun vs H Q _ => ∃ (Vw : Hp) (p wp r : Addr) (W : Web) (pl : List (List Pc)) (pw kr : Addr) (y : V) (sp : Spot) (b : Nat), vs = [.ref p, y, .int (b : Int)] ∧ Ex Vw H ∧ Vw pw = none ∧ Vw kr = none ∧ AhAt K Vw p W wp pl pw kr ∧ WebAt (cW K) Vw wp W r ∧ WOk W ∧ PlG W (FullG W) pl ∧
  Hot H W pl pw kr ∧ SpV Vw y sp ∧ SpotIn W sp ∧ b ≤ 60 ∧ ∀ H', Ex Vw H' → Hot H' W pl pw kr → Q (.int (ct W b sp)) H'
def sp_Ahead_is_set_by (K : PySem.W.Frag) : Sp := fun vs H Q _ => ∃ (Vw : Hp) (p wp r : Addr) (W : Web) (pl : List (List Pc)) (pw kr : Addr) (y : V) (sp : Spot) (b : Nat), vs = [.ref p, y, .int (b : Int)] ∧ Ex Vw H ∧ Vw pw = none ∧ Vw kr = none ∧ AhAt K Vw p W wp pl pw kr ∧ WebAt (cW K) Vw wp W r ∧ WOk W ∧ PlG W (FullG W) pl ∧
  Hot H W pl pw kr ∧ SpV Vw y sp ∧ SpotIn W sp ∧ b ≤ 60 ∧ ∀ bo H', Ex Vw H' → Hot H' W pl pw kr → (bo = true ↔ 0 < b ∧ ct W (b - 1) sp < ct W b sp) → Q (.bl bo) H'
noncomputable def stAt (W : Web) (b : Nat) (sp : Spot) : Int := sim W.rd (nbOf W) (stOf W) b sp
def sp_Ahead_state (K : PySem.W.Frag) : Sp := fun vs H Q _ => ∃ (Vw : Hp) (p wp r : Addr) (W : Web) (pl : List (List Pc)) (pw kr : Addr) (y : V) (sp : Spot) (b : Nat), vs = [.ref p, y, .int (b : Int)] ∧ Ex Vw H ∧ Vw pw = none ∧ Vw kr = none ∧ AhAt K Vw p W wp pl pw kr ∧ WebAt (cW K) Vw wp W r ∧ WOk W ∧ PlG W (FullG W) pl ∧
  Hot H W pl pw kr ∧ SpV Vw y sp ∧ SpotIn W sp ∧ b ≤ 60 ∧ ∀ H', Ex Vw H' → Hot H' W pl pw kr → Q (.int (stAt W b sp)) H'
section
variable {P : Program} {w : World} {K : PySem.W.Frag} {mg : Str → Option Value} {base : Heap}
theorem o_Ahead_count (T : Tx K mg) : FO P w K mg base 8 (He.ma K (He.ga K "Ahead") "count") ["self", "spot", "beats"] (sp_Ahead_count K) := def_ok T.f_Ahead_count sc_Ahead_count (fun _ _ _ _ _ _ us hl => match us, hl with | [_, _, _], _ => rfl)
    (fun _ _ _ _ h => by obtain ⟨_, _, _, _, _, _, _, _, _, _, _, rfl, _⟩ := h; rfl) fun cdv A outer s H vs Q E hr h => by
  have hu := hu_of hr
  obtain ⟨Vw, p, wp, r, W, pl, pw, kr, y, sp, b, rfl, hV, hVp, hVk, ha, hw, ok, full, hot, hy, hs, hb, hQ⟩ := h
  obtain ⟨dx, kx, h1, hkn⟩ := ha.ex
  obtain ⟨kdx, s', nu, pcs, k1, k2, k3⟩ := hkn.ex
  have plok := plOk_of ok full
  refine ⟨_, (pss_cons (ps_set (i := 3) sc_Ahead_count.nd rfl (.inl rfl) pe_int)
      (pss_cons (ps_for PassesOwn.never rfl (pi_list (c_m (pv 0) T.c_Ahead T.m_Ahead_ways (o_Ahead_ways T) (hr.mono (by decide)) (pa_cons (pv 1) pa_nil))) (pg_tup rfl (pgs_cons (pg_name (i := 4) sc_Ahead_count.nd rfl (.inl rfl)) (pgs_cons (pg_name (i := 5) sc_Ahead_count.nd rfl (.inl rfl)) (pgs_cons (pg_name (i := 6) sc_Ahead_count.nd rfl (.inl rfl)) pgs_nil))))
        (pss_one (ps_if (pt_cmpR op_le (pv 5) (pv 2) (nomark _)) (pss_one (ps_set (i := 3) sc_Ahead_count.nd rfl (.inl rfl) (pe_callB (call_max2 rfl) (by rfl) T.z_max (by decide +kernel) (pa_cons (pv 3) (pa_cons (pe_op op_add (pv 6) (c_m (pe_fld (pv 0) rfl) T.c_Knots T.m_Knots_most_rise (o_Knots_most_rise T) (hr.mono (by decide)) (pa_cons (pv 4) (pa_cons (pe_op op_sub (pv 2) (pv 5)) pa_nil)))) pa_nil))))) pss_nil)))
      (pss_one (ps_ret (pv 3))))), ?_⟩
  dsimp only [tCKw, tM1, tVals, tVar, tC, tB, tAnd, tOr, tNot, tAndV, tOrV, tNotV, tIf, tNext, tSeq, tBreak, tCont, tDrop, tRet, tRetN, tIfS, tNever, gName, gNil, gCons, gTup, gSub, tAsg, tPar, tAug, tTest, tChain, tFld, sFld, tNil, tCons, tTup, tLst, tCall, tMeth, tCB, tBM, tNoPart, tPart, tSl, tOp, tUn, rI, rI0, rU, iList, iTup, iRng1, iRng2, iStr, iEnum, iZip, iItems, iVals, tDGet, tDIn, tDNotIn, sDPut, tDGet2, tDNewK, tDNewT, tYes, fin, List.cons_append, List.nil_append, bx, cxOf, Cx.nox]
  refine ⟨_, rfl, p, _, _, rfl, hV _ _ h1, rfl, _, rfl, p, wp, r, W, pl, pw, kr, y, sp, rfl, ha.mono hV, hw.mono hV, ok, K33M.SpV.mono (fun _ _ q => hV _ _ q) hy, hs, fun L bs ws H1 e1 hL hbs hws => ⟨L, rfl, ⟨_, sql hL⟩, ?_⟩⟩
  have hV1 := hV.trans e1
  have hot1 := hot.mono e1
  have hlw := pr_len hbs
  have wne : ws ≠ [] := by
    rcases hws with ⟨k, _, rfl⟩ | ⟨t, _, x, y, i, q1, q2, _, _, _, _, _, _, rfl⟩
    · exact fun z => nomatch z
    · exact fun z => nomatch z
  have wfar : ∀ v ∈ ws, 0 ≤ v.far ∧ v.k < (spsOf W).length := fun v hv => by
    rcases hws with ⟨k, hk, rfl⟩ | ⟨t, _, x, y, i, q1, q2, _, _, g1, g2, g3, g4, rfl⟩
    · have : v = ⟨k, 0, 0⟩ := by simpa using hv
      subst this
      exact ⟨Int.le_refl _, (List.getElem?_eq_some_iff.mp hk).1⟩
    · rcases List.mem_cons.mp hv with e | hv
      · subst e
        exact ⟨by show 0 ≤ i - x; omega, (List.getElem?_eq_some_iff.mp g3).1⟩
      · have : v = ⟨q2, y - i, cryI W (spotOf t y)⟩ := by simpa using hv
        subst this
        exact ⟨by show 0 ≤ y - i; omega, (List.getElem?_eq_some_iff.mp g4).1⟩
  have wl : ws.length ≤ 2 := by
    rcases hws with ⟨k, _, rfl⟩ | ⟨t, _, x, y, i, q1, q2, _, _, _, _, _, _, rfl⟩ <;> simp
  obtain ⟨⟨as, p1, p2, p3⟩, kvs, kk1, kk2⟩ := id hot1
  have nLp : L ≠ pw := fun z => by
    rw [z, p1] at hL
    have e : as.map V.ref = bs.map V.ref := by injection hL with hL; injection hL
    cases hws0 : ws with
    | nil => exact wne hws0
    | cons v ws' =>
      rw [hws0] at hbs
      cases hbs with
      | @cons b0 _ bs' _ q _ =>
        cases as with
        | nil => cases e
        | cons a0 as' =>
          have e0 : a0 = b0 := by
            have := congrArg List.head? e
            simp only [List.map_cons, List.head?_cons, Option.some.injEq] at this
            injection this
          obtain ⟨rs, g, _⟩ := p3 0 a0 rfl
          rw [e0] at g
          have q : H1 b0 = some _ := q
          rw [hid_ex _ _ g] at q
          cases q
  have nLk : L ≠ kr := fun z => by rw [z, kk1] at hL; cases hL
  have v1 : ∀ {a : Addr} {o : HO}, H1 a = some o → a ≠ pw → a ≠ kr → hid kr (hid pw H1) a = some o := fun h n1 n2 => by rw [hid_ne n2, hid_ne n1]; exact h
  have vt : ∀ {a : Addr} {zs : List V}, H1 a = some (.tup zs) → hid kr (hid pw H1) a = some (.tup zs) := fun h => v1 h (fun z => by rw [z, p1] at h; cases h) (fun z => by rw [z, kk1] at h; cases h)
  have hE2 : Ex (hid kr (hid pw H1)) H1 := hid_ex.trans hid_ex
  have hV2 : Ex Vw (hid kr (hid pw H1)) := ex_hid (ex_hid hV1 hVp) hVk
  have hp2 : hid kr (hid pw H1) pw = none := by
    by_cases c : pw = kr
    · rw [c, hid_same]
    · rw [hid_ne c, hid_same]
  have hk2 : hid kr (hid pw H1) kr = none := hid_same
  have hL2 := v1 hL nLp nLk
  have hbs2 : Paired (WayAt (hid kr (hid pw H1))) bs ws := pr_mono hbs fun _ _ q => vt q
  generalize hid kr (hid pw H1) = V2 at hE2 hV2 hp2 hk2 hL2 hbs2
  refine for_it (walk_list (xs := bs.map V.ref)) (fun n σ H' => ∃ f x4 x5 x6, σ = [some (.ref p), some y, some (.int (b : Int)), some (.int f), x4, x5, x6] ∧ Ex V2 H' ∧ Hot H' W pl pw kr ∧ f = (ws.take n).foldl (stepW W b) 0) ?_ (fun n σ H' _ ⟨_, _, _, _, _, e, _⟩ => sql (e _ _ hL2)) (fun n v σ H' H3 hn wv yv => ?_) fun σ H3 wv => ?_
  · exact ⟨0, _, _, _, rfl, hE2, hot1, rfl⟩
  · obtain ⟨f, x4, x5, x6, rfl, eV, hh, rfl⟩ := wv
    obtain ⟨rfl, hv⟩ := yv
    rw [List.length_map] at hn
    obtain ⟨bn, hbn⟩ := at_lt hn
    rw [List.getElem?_map, hbn] at hv
    cases hv
    obtain ⟨wy, hwy, hat⟩ := pr_at hbs2 hbn
    have hat3 := eV _ _ hat
    obtain ⟨f0, fk⟩ := wfar wy (List.mem_of_getElem? hwy)
    have htk : ws.take (n + 1) = ws.take n ++ [wy] := by rw [List.take_add_one, hwy]; rfl
    dsimp only [tCKw, tM1, tVals, tVar, tC, tB, tAnd, tOr, tNot, tAndV, tOrV, tNotV, tIf, tNext, tSeq, tBreak, tCont, tDrop, tRet, tRetN, tIfS, tNever, gName, gNil, gCons, gTup, gSub, tAsg, tPar, tAug, tTest, tChain, tFld, sFld, tNil, tCons, tTup, tLst, tCall, tMeth, tCB, tBM, tNoPart, tPart, tSl, tOp, tUn, rI, rI0, rU, iList, iTup, iRng1, iRng2, iStr, iEnum, iZip, iItems, iVals, tDGet, tDIn, tDNotIn, sDPut, tDGet2, tDNewK, tDNewT, tYes, fin, List.cons_append, List.nil_append, bx, cxOf, Cx.nox]
    refine ⟨_, _, rfl, sqt hat3, rfl, _, _, rfl, _, _, rfl, _, _, rfl, rfl, ?_⟩
    refine ⟨_, rfl, _, rfl, _, _, rfl, rfl, ⟨_, rfl, ?_⟩⟩
    by_cases c : wy.far ≤ (b : Int)
    · rw [decide_eq_true c]
      have ecast : (b : Int) - wy.far = ((b - wy.far.toNat : Nat) : Int) := by omega
      refine ⟨_, rfl, _, rfl, _, rfl, p, _, _, _, _, rfl, (hV2.trans eV) _ _ h1, T.c_Ahead, T.n_Ahead_knots, rfl, kx, _, _, rfl, (hV2.trans eV) _ _ k1, rfl, _, rfl, _, rfl, _, rfl, _, _, rfl, rfl, V2, kx, kdx, s', nu, pcs, pw, kr, wy.k, b - wy.far.toNat, (spsOf W).length, pl, ?_, eV, hp2, hk2, hV2 _ _ k1, k3.mono hV2, plok, hh.pow, hh.known, fk, by omega, fun m H4 e4 hp4 hk4 hm => ?_⟩
      · rw [← ecast]
      · refine ⟨_, _, rfl, rfl, _, _, rfl, _, _, _, _, rfl, e4, ⟨hp4, hk4⟩, ?_⟩
        obtain ⟨spk, hspk⟩ := at_lt fk
        rw [htk, List.foldl_append]
        show (if wy.more + (m : Int) > _ then wy.more + (m : Int) else _) = stepW W b _ wy
        unfold stepW
        rw [if_pos c, knOf_eq hspk, ct_knot ok full hspk hm]
        rfl
    · rw [decide_eq_false c]
      refine ⟨_, _, _, _, rfl, eV, hh, ?_⟩
      rw [htk, List.foldl_append]
      show _ = stepW W b _ wy
      unfold stepW
      rw [if_neg c]
  · obtain ⟨f, x4, x5, x6, rfl, eV, hh, rfl⟩ := wv
    rw [List.length_map, hlw, List.take_length, ways_ct ok full hws]
    dsimp only [tCKw, tM1, tVals, tVar, tC, tB, tAnd, tOr, tNot, tAndV, tOrV, tNotV, tIf, tNext, tSeq, tBreak, tCont, tDrop, tRet, tRetN, tIfS, tNever, gName, gNil, gCons, gTup, gSub, tAsg, tPar, tAug, tTest, tChain, tFld, sFld, tNil, tCons, tTup, tLst, tCall, tMeth, tCB, tBM, tNoPart, tPart, tSl, tOp, tUn, rI, rI0, rU, iList, iTup, iRng1, iRng2, iStr, iEnum, iZip, iItems, iVals, tDGet, tDIn, tDNotIn, sDPut, tDGet2, tDNewK, tDNewT, tYes, fin, List.cons_append, List.nil_append, bx, cxOf, Cx.nox]
    exact ⟨_, rfl, hQ _ (hV2.trans eV) hh⟩
theorem o_Ahead_is_set_by (T : Tx K mg) : FO P w K mg base 9 (He.ma K (He.ga K "Ahead") "is_set_by") ["self", "spot", "beat"] (sp_Ahead_is_set_by K) := def_ok T.f_Ahead_is_set_by sc_Ahead_is_set_by (fun _ _ _ _ _ _ us hl => match us, hl with | [_, _, _], _ => rfl)
    (fun _ _ _ _ h => by obtain ⟨_, _, _, _, _, _, _, _, _, _, _, rfl, _⟩ := h; rfl) fun cdv A outer s H vs Q E hr h => by
  have hu := hu_of hr
  obtain ⟨Vw, p, wp, r, W, pl, pw, kr, y, sp, b, rfl, hV, hVp, hVk, ha, hw, ok, full, hot, hy, hs, hb, hQ⟩ := h
  obtain ⟨dx, kx, h1, hkn⟩ := ha.ex
  refine ⟨_, (pss_one (ps_ret (pe_and (pe_cmpR op_gt (pv 2) pe_int (nomark _)) (pe_one (pe_cmpR op_gt (c_m (pv 0) T.c_Ahead T.m_Ahead_count (o_Ahead_count T) (hr.mono (by decide)) (pa_cons (pv 1) (pa_cons (pv 2) pa_nil))) (c_m (pv 0) T.c_Ahead T.m_Ahead_count (o_Ahead_count T) (hr.mono (by decide)) (pa_cons (pv 1) (pa_cons (pe_op op_sub (pv 2) pe_int) pa_nil))) (nomark _)))))), ?_⟩
  dsimp only [tCKw, tM1, tVals, tVar, tC, tB, tAnd, tOr, tNot, tAndV, tOrV, tNotV, tIf, tNext, tSeq, tBreak, tCont, tDrop, tRet, tRetN, tIfS, tNever, gName, gNil, gCons, gTup, gSub, tAsg, tPar, tAug, tTest, tChain, tFld, sFld, tNil, tCons, tTup, tLst, tCall, tMeth, tCB, tBM, tNoPart, tPart, tSl, tOp, tUn, rI, rI0, rU, iList, iTup, iRng1, iRng2, iStr, iEnum, iZip, iItems, iVals, tDGet, tDIn, tDNotIn, sDPut, tDGet2, tDNewK, tDNewT, tYes, fin, List.cons_append, List.nil_append, bx, cxOf, Cx.nox]
  refine ⟨_, rfl, _, _, rfl, rfl, _, rfl, ?_⟩
  by_cases c : 0 < b
  · rw [decide_eq_true (show (0 : Int) < (b : Int) by omega)]
    have ecast : (b : Int) - 1 = ((b - 1 : Nat) : Int) := by omega
    refine ⟨_, rfl, p, _, _, rfl, hV _ _ h1, rfl, _, rfl, _, rfl, Vw, p, wp, r, W, pl, pw, kr, y, sp, b, rfl, hV, hVp, hVk, ha, hw, ok, full, hot, hy, hs, hb, fun H1 e1 hot1 => ?_⟩
    refine ⟨_, rfl, p, _, _, rfl, e1 _ _ h1, rfl, _, rfl, _, rfl, _, _, rfl, rfl, Vw, p, wp, r, W, pl, pw, kr, y, sp, b - 1, ?_, e1, hVp, hVk, ha, hw, ok, full, hot1, hy, hs, by omega, fun H2 e2 hot2 => ⟨_, _, rfl, rfl, hQ _ _ e2 hot2 ?_⟩⟩
    · rw [← ecast]
    · rw [decide_eq_true_iff]
      exact ⟨fun h => ⟨c, h⟩, fun h => h.2⟩
  · rw [decide_eq_false (show ¬ (0 : Int) < (b : Int) by omega)]
    exact hQ false _ hV hot ⟨(fun z => nomatch z), (fun h => absurd h.1 c)⟩
end
end K33


set_option Elab.async false
set_option linter.all false
set_option maxRecDepth 100000
set_option maxHeartbeats 8000000
namespace K33
open PySem PySem.Spec PyProof.Rows L2 K33M
theorem stAt_rounds {W : Web} (ok : WOk W) (h : W.rd = true) (b : Nat) (sp : Spot) : stAt W b sp = (stOf W sp + ct W b sp) % 3 := by
  unfold stAt ct
  rw [h]
  exact sim_rounds (stOf_tri ok) sp b
theorem stAt_cries {W : Web} (ok : WOk W) (h : W.rd = false) (n : Nat) (sp : Spot) : stAt W (n + 1) sp = if ct W n sp < ct W (n + 1) sp then 1 else if (n = 0 ∧ stOf W sp = 1) ∨ (0 < n ∧ ct W (n - 1) sp < ct W n sp) then 2 else 0 := by
  unfold stAt ct
  rw [h]
  rw [sim_cries (stOf_tri ok) sp n]
  split
  · rfl
  · cases n with
    | zero =>
      have e : wasSet false (nbOf W) (stOf W) sp 0 ↔ ((0 = 0 ∧ stOf W sp = 1) ∨ (0 < 0 ∧ cnt false (nbOf W) (stOf W) (0 - 1) sp < cnt false (nbOf W) (stOf W) 0 sp)) :=
        ⟨fun h => .inl ⟨rfl, h⟩, fun h => h.elim (fun h => h.2) fun h => absurd h.1 (Nat.lt_irrefl _)⟩
      simp only [e]
    | succ n =>
      have e : wasSet false (nbOf W) (stOf W) sp (n + 1) ↔ ((n + 1 = 0 ∧ stOf W sp = 1) ∨ (0 < n + 1 ∧ cnt false (nbOf W) (stOf W) (n + 1 - 1) sp < cnt false (nbOf W) (stOf W) (n + 1) sp)) :=
        ⟨fun h => .inr ⟨Nat.succ_pos _, h⟩, fun h => h.elim (fun h => absurd h.1 (Nat.succ_ne_zero _)) fun h => h.2⟩
      simp only [e]
def sp_state_behind (K : PySem.W.Frag) : Sp := fun vs H Q _ => ∃ (Vw : Hp) (wp r : Addr) (W : Web) (y : V) (sp : Spot) (b : Nat), vs = [.ref wp, y, .int (b : Int)] ∧ Ex Vw H ∧ Vw r = none ∧ WebAt (cW K) Vw wp W r ∧ WOk W ∧ Cache K W wp r Vw H ∧ SpV Vw y sp ∧ SpotIn W sp ∧ b ≤ 60 ∧
  ∀ Vw' H', Ex Vw Vw' → Ex Vw' H' → Vw' r = none → Cache K W wp r Vw' H' → Q (.int (stAt W b sp)) H'
section
variable {P : Program} {w : World} {K : PySem.W.Frag} {mg : Str → Option Value} {base : Heap}
theorem o_Ahead_state (T : Tx K mg) : FO P w K mg base 10 (He.ma K (He.ga K "Ahead") "state") ["self", "spot", "beats"] (sp_Ahead_state K) := def_ok T.f_Ahead_state sc_Ahead_state (fun _ _ _ _ _ _ us hl => match us, hl with | [_, _, _], _ => rfl)
    (fun _ _ _ _ h => by obtain ⟨_, _, _, _, _, _, _, _, _, _, _, rfl, _⟩ := h; rfl) fun cdv A outer s H vs Q E hr h => by
  have hu := hu_of hr
  obtain ⟨_, hi_CRYING_counts, ri_CRYING_counts⟩ := T.i_CRYING_counts
  obtain ⟨_, hi_HOARSE, ri_HOARSE⟩ := T.i_HOARSE
  obtain ⟨_, hi_STATES, ri_STATES⟩ := T.i_STATES
  obtain ⟨Vw, p, wp, r, W, pl, pw, kr, y, sp, b, rfl, hV, hVp, hVk, ha, hw, ok, full, hot, hy, hs, hb, hQ⟩ := h
  obtain ⟨dx, kx, h1, hkn⟩ := ha.ex
  obtain ⟨wdx, wds, wdt, tas, w1, w2, w3, w4⟩ := hw.ex
  refine ⟨_, (pss_cons (ps_set (i := 3) sc_Ahead_state.nd rfl (.inl rfl) (c_m (pe_fld (pv 0) rfl) T.c_Web T.m_Web_state (o_Web_state T) (hr.mono (by decide)) (pa_cons (pv 1) pa_nil)))
      (pss_cons (ps_if (pt_val (c_m0 (pe_fld (pv 0) rfl) T.c_Web T.m_Web_rounds (o_Web_rounds T) (hr.mono (by decide)))) (pss_one (ps_ret (pe_op op_mod (pe_op op_add (pv 3) (c_m (pv 0) T.c_Ahead T.m_Ahead_count (o_Ahead_count T) (hr.mono (by decide)) (pa_cons (pv 1) (pa_cons (pv 2) pa_nil)))) (pe_glob rfl hi_STATES ri_STATES)))) pss_nil)
      (pss_cons (ps_if (pt_cmpR op_eq (pv 2) pe_int (nomark _)) (pss_one (ps_ret (pv 3))) pss_nil)
      (pss_cons (ps_if (pt_val (c_m (pv 0) T.c_Ahead T.m_Ahead_is_set_by (o_Ahead_is_set_by T) (hr.mono (by decide)) (pa_cons (pv 1) (pa_cons (pv 2) pa_nil)))) (pss_one (ps_ret (pe_glob rfl hi_CRYING_counts ri_CRYING_counts))) pss_nil)
      (pss_cons (ps_if (PW.pt (pw_or (pt_val (c_m (pv 0) T.c_Ahead T.m_Ahead_is_set_by (o_Ahead_is_set_by T) (hr.mono (by decide)) (pa_cons (pv 1) (pa_cons (pe_op op_sub (pv 2) pe_int) pa_nil)))) (pw_or1 (PW.pt (pw_and (pt_cmpR op_eq (pv 2) pe_int (nomark _)) (pw_and1 (pt_cmpR op_eq (pv 3) (pe_glob rfl hi_CRYING_counts ri_CRYING_counts) (nomark _)))))))) (pss_one (ps_ret (pe_glob rfl hi_HOARSE ri_HOARSE))) pss_nil)
      (pss_one (ps_ret pe_int))))))), ?_⟩
  dsimp only [tCKw, tM1, tVals, tVar, tC, tB, tAnd, tOr, tNot, tAndV, tOrV, tNotV, tIf, tNext, tSeq, tBreak, tCont, tDrop, tRet, tRetN, tIfS, tNever, gName, gNil, gCons, gTup, gSub, tAsg, tPar, tAug, tTest, tChain, tFld, sFld, tNil, tCons, tTup, tLst, tCall, tMeth, tCB, tBM, tNoPart, tPart, tSl, tOp, tUn, rI, rI0, rU, iList, iTup, iRng1, iRng2, iStr, iEnum, iZip, iItems, iVals, tDGet, tDIn, tDNotIn, sDPut, tDGet2, tDNewK, tDNewT, tYes, fin, List.cons_append, List.nil_append, bx, cxOf, Cx.nox]
  refine ⟨_, rfl, p, _, _, _, _, rfl, hV _ _ h1, T.c_Ahead, T.n_Ahead_ground, rfl, wp, _, _, rfl, hV _ _ w1, rfl, _, rfl, wp, r, W, y, sp, rfl, hw.mono hV, ok, K33M.SpV.mono (fun _ _ q => hV _ _ q) hy, hs, fun H1 e1 => ?_⟩
  have hV1 := hV.trans e1
  have hot1 := hot.mono e1
  refine ⟨_, rfl, p, _, _, _, _, rfl, hV1 _ _ h1, T.c_Ahead, T.n_Ahead_ground, rfl, wp, _, _, rfl, hV1 _ _ w1, rfl, wp, r, W, rfl, hw.mono hV1, fun H2 e2 => ⟨_, rfl, ?_⟩⟩
  have hV2 := hV1.trans e2
  have hot2 := hot1.mono e2
  cases erd : W.rd with
  | true =>
    refine ⟨_, rfl, _, rfl, p, _, _, rfl, hV2 _ _ h1, rfl, _, rfl, _, rfl, Vw, p, wp, r, W, pl, pw, kr, y, sp, b, rfl, hV2, hVp, hVk, ha, hw, ok, full, hot2, hy, hs, hb, fun H3 e3 hot3 => ⟨_, _, rfl, rfl, _, _, rfl, rfl, by decide, ?_⟩⟩
    rw [← stAt_rounds ok erd]
    exact hQ _ e3 hot3
  | false =>
    refine ⟨_, rfl, rfl, _, rfl, ?_⟩
    by_cases c0 : b = 0
    · subst c0
      rw [decide_eq_true (show V.int ((0 : Nat) : Int) = V.int 0 from rfl)]
      exact ⟨_, rfl, hQ _ hV2 hot2⟩
    · rw [decide_eq_false (show ¬ V.int (b : Int) = V.int 0 by intro z; injection z; omega)]
      obtain ⟨n, rfl⟩ : ∃ n, b = n + 1 := ⟨b - 1, by omega⟩
      have hres := stAt_cries ok erd n sp
      have ecast : ((n + 1 : Nat) : Int) - 1 = (n : Int) := by omega
      refine ⟨_, rfl, p, _, _, rfl, hV2 _ _ h1, rfl, _, rfl, _, rfl, Vw, p, wp, r, W, pl, pw, kr, y, sp, n + 1, rfl, hV2, hVp, hVk, ha, hw, ok, full, hot2, hy, hs, hb, fun bo H3 e3 hot3 hbo => ⟨_, rfl, ?_⟩⟩
      cases bo with
      | true =>
        have q := hQ _ e3 hot3
        rw [hres, if_pos (by have := hbo.mp rfl; exact this.2)] at q
        exact q
      | false =>
        have hn1 : ¬ ct W n sp < ct W (n + 1) sp := fun h => Bool.noConfusion (hbo.mpr ⟨Nat.succ_pos _, h⟩)
        rw [if_neg hn1] at hres
        refine ⟨_, rfl, p, _, _, rfl, e3 _ _ h1, rfl, _, rfl, _, rfl, _, _, rfl, rfl, Vw, p, wp, r, W, pl, pw, kr, y, sp, n, ?_, e3, hVp, hVk, ha, hw, ok, full, hot3, hy, hs, by omega, fun bo2 H4 e4 hot4 hbo2 => ⟨_, rfl, ?_⟩⟩
        · rw [← ecast]
        cases bo2 with
        | true =>
          have q := hQ _ e4 hot4
          rw [hres, if_pos (.inr (hbo2.mp rfl))] at q
          exact q
        | false =>
          refine ⟨_, rfl, rfl, _, rfl, ?_⟩
          by_cases c1 : n = 0
          · subst c1
            rw [decide_eq_true (show V.int ((0 + 1 : Nat) : Int) = V.int 1 from rfl)]
            refine ⟨_, rfl, rfl, _, rfl, ?_⟩
            by_cases c2 : stOf W sp = 1
            · rw [decide_eq_true (show V.int (stOf W sp) = V.int 1 by rw [c2])]
              have q := hQ _ e4 hot4
              rw [hres, if_pos (.inl ⟨rfl, c2⟩)] at q
              exact q
            · rw [decide_eq_false (show ¬ V.int (stOf W sp) = V.int 1 by intro z; injection z; exact c2 (by assumption))]
              have q := hQ _ e4 hot4
              rw [hres, if_neg (fun h => h.elim (fun h => c2 h.2) fun h => absurd h.1 (Nat.lt_irrefl _))] at q
              exact q
          · rw [decide_eq_false (show ¬ V.int ((n + 1 : Nat) : Int) = V.int 1 by intro z; injection z; omega)]
            have q := hQ _ e4 hot4
            rw [hres, if_neg (fun h => h.elim (fun h => c1 h.1) fun h => Bool.noConfusion (hbo2.mpr h))] at q
            exact q
theorem o_state_behind (T : Tx K mg) : FO P w K mg base 14 (He.ga K "state_behind") ["web", "spot", "beats"] (sp_state_behind K) := def_ok T.f_state_behind sc_state_behind (fun _ _ _ _ _ _ us hl => match us, hl with | [_, _, _], _ => rfl)
    (fun _ _ _ _ h => by obtain ⟨_, _, _, _, _, _, _, rfl, _⟩ := h; rfl) fun cdv A outer s H vs Q E hr h => by
  have hu := hu_of hr
  obtain ⟨Vw, wp, r, W, y, sp, b, rfl, hV, hVr, hw, ok, hc, hy, hs, hb, hQ⟩ := h
  refine ⟨_, (pss_cons (ps_expr (c_fn (o_want_spot T) T.g_want_spot (hr.mono (by decide)) (pa_cons (pv 0) (pa_cons (pv 1) pa_nil))))
      (pss_cons (ps_expr (c_fn (o_want_count T) T.g_want_count (hr.mono (by decide)) (pa_cons (pv 2) pa_nil)))
      (pss_one (ps_ret (c_m (c_fn (o_ahead_of T) T.g_ahead_of (hr.mono (by decide)) (pa_cons (pv 0) pa_nil)) T.c_Ahead T.m_Ahead_state (o_Ahead_state T) (hr.mono (by decide)) (pa_cons (pv 1) (pa_cons (pv 2) pa_nil))))))), ?_⟩
  dsimp only [tCKw, tM1, tVals, tVar, tC, tB, tAnd, tOr, tNot, tAndV, tOrV, tNotV, tIf, tNext, tSeq, tBreak, tCont, tDrop, tRet, tRetN, tIfS, tNever, gName, gNil, gCons, gTup, gSub, tAsg, tPar, tAug, tTest, tChain, tFld, sFld, tNil, tCons, tTup, tLst, tCall, tMeth, tCB, tBM, tNoPart, tPart, tSl, tOp, tUn, rI, rI0, rU, iList, iTup, iRng1, iRng2, iStr, iEnum, iZip, iItems, iVals, tDGet, tDIn, tDNotIn, sDPut, tDGet2, tDNewK, tDNewT, tYes, fin, List.cons_append, List.nil_append, bx, cxOf, Cx.nox]
  refine ⟨_, rfl, _, rfl, wp, r, W, y, sp, rfl, hw.mono hV, ok, K33M.SpV.mono (fun _ _ q => hV _ _ q) hy, hs, fun H1 e1 => ?_⟩
  refine ⟨_, rfl, (b : Int), rfl, by omega, fun H2 e2 => ?_⟩
  have hV2 := (hV.trans e1).trans e2
  have hc2 : Cache K W wp r Vw H2 := by
    rcases hc with h | ⟨ah, pl, pw, kr, a1, a2, a3, a4, a5, a6, a7⟩
    · exact .inl (e2 _ _ (e1 _ _ h))
    · exact .inr ⟨ah, pl, pw, kr, e2 _ _ (e1 _ _ a1), a2, a3, a4, a5, a6, (a7.mono e1).mono e2⟩
  refine ⟨_, rfl, Vw, wp, r, W, rfl, hV2, hVr, hw, ok, hc2, fun ah pl pw kr V3 H3 eV3 eH3 h3r hr3 haa full hp3 hk3 hne hot3 => ?_⟩
  obtain ⟨dx, kx, g1, hkn⟩ := haa.ex
  have hhp : hid kr (hid pw H3) pw = none := by
    by_cases c : pw = kr
    · rw [c, hid_same]
    · rw [hid_ne c, hid_same]
  have eX : Ex V3 (hid kr (hid pw H3)) := ex_hid (ex_hid eH3 hp3) hk3
  have hrX : hid kr (hid pw H3) r = some (.lst [.ref ah]) := by rw [hid_ne hne.2.symm, hid_ne hne.1.symm]; exact hr3
  refine ⟨ah, _, _, rfl, eH3 _ _ g1, rfl, _, rfl, _, rfl, hid kr (hid pw H3), ah, wp, r, W, pl, pw, kr, y, sp, b, rfl, hid_ex.trans hid_ex, hhp, hid_same, haa.mono eX, hw.mono (eV3.trans eX), ok, full, hot3, K33M.SpV.mono (fun _ _ q => eX _ _ (eV3 _ _ q)) hy, hs, hb, fun H4 e4 hot4 => ?_⟩
  exact hQ V3 H4 eV3 (eX.trans e4) h3r (.inr ⟨ah, pl, pw, kr, e4 _ _ hrX, haa, full, hp3, hk3, hne, hot4⟩)
end
end K33


set_option Elab.async false
set_option linter.all false
set_option maxRecDepth 100000
set_option maxHeartbeats 8000000
/-! The law's own defs. -/
namespace K33
open PySem PySem.Spec PyProof.Rows L2 K33M
def Pot (H : Hp) (p : Addr) : Prop := ∃ a b : Int, H p = some (.lst [.int a, .int b]) ∧ 0 ≤ a ∧ 0 ≤ b ∧ b < 2147483648
def sp_law_pot (K : PySem.W.Frag) : Sp := fun vs H Q _ => ∃ (s : Addr) (xs : List Int) (k : Nat), vs = [.ref s, .int (k : Int)] ∧ SqL K H s (xs.map .int) ∧ k ≤ 2 ∧ ∀ p H', Ex H H' → H p = none → Pot H' p → Q (.ref p) H'
def sp_law_take : Sp := fun vs H Q _ => ∃ (p : Addr) (n : Nat), vs = [.ref p, .int (n : Int)] ∧ Pot H p ∧ 0 < n ∧ n < 1073741824 ∧ ∀ (d : Nat) H', d < n → Ex (hid p H) H' → Pot H' p → Q (.int (d : Int)) H'
section
variable {P : Program} {w : World} {K : PySem.W.Frag} {mg : Str → Option Value} {base : Heap}
theorem o_law_take (T : Tx K mg) : FO P w K mg base 1 (He.ga K "_law_take") ["_law_pot_here", "_law_many"] sp_law_take := def_ok T.f_law_take sc_law_take (fun _ _ _ _ _ _ us hl => match us, hl with | [_, _], _ => rfl)
    (fun _ _ _ _ h => by obtain ⟨_, _, rfl, _⟩ := h; rfl) fun cdv A outer s H vs Q E hr h => by
  have hu := hu_of hr
  obtain ⟨p, n, rfl, ⟨a, b, hp, ha, hb, hb2⟩, hn, hn2, hQ⟩ := h
  refine ⟨_, (pss_cons (ps_if (pt_cmpR op_gt (pe_ix ix_list (pv 0) pe_int (fun _ _ => rfl)) pe_int (nomark _)) (pss_cons (ps_asg (pe_callB call_divmod (by rfl) T.z_divmod (by decide +kernel) (pa_cons (pe_ix ix_list (pv 0) pe_int (fun _ _ => rfl)) (pa_cons (pv 1) pa_nil))) (pg_tup rfl (pgs_cons (pg_sub (pv 0) pe_int set_list) (pgs_cons (pg_name (i := 2) sc_law_take.nd rfl (.inl rfl)) pgs_nil))))
        (pss_one (ps_ret (pv 2)))) pss_nil)
      (pss_cons (ps_asg (pe_op op_mod (pe_op op_add (pe_op op_mul (pe_ix ix_list (pv 0) pe_int (fun _ _ => rfl)) pe_int) pe_int) pe_int) (pg_sub (pv 0) pe_int set_list))
      (pss_one (ps_ret (pe_op op_mod (pe_op op_fdiv (pe_op op_mod (pe_op op_mul (pe_ix ix_list (pv 0) pe_int (fun _ _ => rfl)) (pe_ix ix_list (pv 0) pe_int (fun _ _ => rfl))) pe_int) pe_int) (pv 1)))))), ?_⟩
  dsimp only [tCKw, tM1, tVals, tVar, tC, tB, tAnd, tOr, tNot, tAndV, tOrV, tNotV, tIf, tNext, tSeq, tBreak, tCont, tDrop, tRet, tRetN, tIfS, tNever, gName, gNil, gCons, gTup, gSub, tAsg, tPar, tAug, tTest, tChain, tFld, sFld, tNil, tCons, tTup, tLst, tCall, tMeth, tCB, tBM, tNoPart, tPart, tSl, tOp, tUn, rI, rI0, rU, iList, iTup, iRng1, iRng2, iStr, iEnum, iZip, iItems, iVals, tDGet, tDIn, tDNotIn, sDPut, tDGet2, tDNewK, tDNewT, tYes, fin, List.cons_append, List.nil_append, bx, cxOf, Cx.nox]
  have sq : ∀ H' (x y : Int), H' p = some (.lst [.int x, .int y]) → SqL K H' p [.int x, .int y] := fun H' x y h => .inl (.inl h)
  refine ⟨_, rfl, p, _, _, _, rfl, rfl, sq _ _ _ hp, rfl, _, _, rfl, rfl, _, rfl, ?_⟩
  by_cases c : 0 < a
  · rw [decide_eq_true (show a > 0 from c)]
    refine ⟨_, rfl, p, _, _, _, rfl, rfl, sq _ _ _ hp, rfl, _, rfl, _, _, rfl, ?_, fun t ht => ?_⟩
    · exact ⟨by omega, by omega⟩
    have ntp : p ≠ t := fun z => by rw [z, ht] at hp; cases hp
    refine ⟨_, _, rfl, .inl (.inl upd_same), rfl, _, _, rfl, _, rfl, ⟨p, _, 0, 0, rfl, rfl, by rw [upd_ne ntp]; exact hp, rfl, _, _, rfl, rfl, _, rfl, ?_⟩⟩
    have hm := Int.emod_nonneg a (show (n : Int) ≠ 0 by omega)
    have hm2 := Int.emod_lt_of_pos a (show (0 : Int) < n by omega)
    obtain ⟨d, hd⟩ : ∃ d : Nat, a % (n : Int) = d := ⟨(a % (n : Int)).toNat, (Int.toNat_of_nonneg hm).symm⟩
    rw [hd]
    exact hQ d _ (by omega) ((hid_ex.trans (Evl.Ex.new ht)).mut hid_same) ⟨_, _, upd_same, Int.ediv_nonneg ha (by omega), hb, hb2⟩
  · rw [decide_eq_false (show ¬ a > 0 from c)]
    refine ⟨_, rfl, p, _, _, _, rfl, rfl, sq _ _ _ hp, rfl, ?_⟩
    refine ⟨_, _, rfl, rfl, .inr ⟨by decide, by decide⟩, _, _, rfl, rfl, _, _, rfl, rfl, by decide, _, rfl, p, _, 1, 1, rfl, rfl, hp, rfl, ?_⟩
    have hm := Int.emod_nonneg (b * 44029 + 10133) (show (2147483587 : Int) ≠ 0 by decide)
    have hm2 := Int.emod_lt_of_pos (b * 44029 + 10133) (show (0 : Int) < 2147483587 by decide)
    generalize (b * 44029 + 10133) % 2147483587 = c at hm hm2 ⊢
    refine ⟨_, rfl, p, _, _, _, rfl, rfl, sq _ a c upd_same, rfl, _, rfl, p, _, _, _, rfl, rfl, sq _ a c upd_same, rfl, _, _, rfl, rfl, .inl ⟨by omega, by omega⟩, _, _, rfl, rfl, by decide, _, _, rfl, rfl, ⟨by decide, by decide⟩, _, rfl, _, _, rfl, rfl, by omega, ?_⟩
    generalize c * c % 2147483549 / 11 = e
    have hm := Int.emod_nonneg e (show (n : Int) ≠ 0 by omega)
    have hm2 := Int.emod_lt_of_pos e (show (0 : Int) < n by omega)
    obtain ⟨d, hd⟩ : ∃ d : Nat, e % (n : Int) = d := ⟨(e % (n : Int)).toNat, (Int.toNat_of_nonneg hm).symm⟩
    rw [hd]
    exact hQ d _ (by omega) (hid_ex.mut hid_same) ⟨_, _, upd_same, ha, by omega, by omega⟩
theorem o_law_pot (T : Tx K mg) : FO P w K mg base 1 (He.ga K "_law_pot") ["_law_script", "_law_k"] (sp_law_pot K) := def_ok T.f_law_pot sc_law_pot (fun _ _ _ _ _ _ us hl => match us, hl with | [_, _], _ => rfl)
    (fun _ _ _ _ h => by obtain ⟨_, _, _, rfl, _⟩ := h; rfl) fun cdv A outer s H vs Q E hr h => by
  have hu := hu_of hr
  obtain ⟨p, xs, k, rfl, hp, hk, hQ⟩ := h
  refine ⟨_, (pss_cons (ps_set (i := 2) sc_law_pot.nd rfl (.inl rfl) pe_int)
      (pss_cons (ps_if (pt_cmpR op_lt (pv 1) (pe_callB call_len_seq (by rfl) T.z_len (by decide +kernel) (pa_cons (pv 0) pa_nil)) (nomark _)) (pss_one (ps_set (i := 2) sc_law_pot.nd rfl (.inl rfl) (pe_callB call_abs (by rfl) T.z_abs (by decide +kernel) (pa_cons (pe_ix ix_list (pv 0) (pv 1) (fun _ _ => rfl)) pa_nil)))) pss_nil)
      (pss_one (ps_ret (pe_lst (pa_cons (pe_callB (call_max2 rfl) (by rfl) T.z_max (by decide +kernel) (pa_cons pe_int (pa_cons (pe_op op_sub (pv 2) (pe_op op_pow pe_int pe_int)) pa_nil))) (pa_cons (pe_op op_add (pe_op op_mod (pe_op op_pow (pe_op op_add (pe_op op_add (pe_op op_mod (pv 2) pe_int) (pe_op op_mul pe_int (pv 1))) pe_int) pe_int) pe_int) pe_int) pa_nil))))))), ?_⟩
  dsimp only [tCKw, tM1, tVals, tVar, tC, tB, tAnd, tOr, tNot, tAndV, tOrV, tNotV, tIf, tNext, tSeq, tBreak, tCont, tDrop, tRet, tRetN, tIfS, tNever, gName, gNil, gCons, gTup, gSub, tAsg, tPar, tAug, tTest, tChain, tFld, sFld, tNil, tCons, tTup, tLst, tCall, tMeth, tCB, tBM, tNoPart, tPart, tSl, tOp, tUn, rI, rI0, rU, iList, iTup, iRng1, iRng2, iStr, iEnum, iZip, iItems, iVals, tDGet, tDIn, tDNotIn, sDPut, tDGet2, tDNewK, tDNewT, tYes, fin, List.cons_append, List.nil_append, bx, cxOf, Cx.nox]
  have last : ∀ c : Int, 0 ≤ c → ∀ q, H q = none → Q (.ref q) (upd H q (.lst [.int (if c - 10 ^ 18 > 0 then c - 10 ^ 18 else 0), .int (((c % 2147483543 + 101 * k + 5) ^ 2) % 2147483497 + 1)])) := fun c hc q hq => by
    refine hQ _ _ (Evl.Ex.new hq) hq ⟨_, _, upd_same, ?_, ?_, ?_⟩
    · split
      · omega
      · omega
    · have := Int.emod_nonneg ((c % 2147483543 + 101 * k + 5) ^ 2) (show (2147483497 : Int) ≠ 0 by decide)
      omega
    · have := Int.emod_lt_of_pos ((c % 2147483543 + 101 * k + 5) ^ 2) (show (0 : Int) < 2147483497 by decide)
      omega
  refine ⟨_, rfl, _, rfl, p, _, rfl, .inl hp, _, _, rfl, rfl, _, rfl, ?_⟩
  by_cases c : k < xs.length
  · rw [decide_eq_true (by simpa using c)]
    refine ⟨_, rfl, _, rfl, p, _, _, .int (xs.getD k 0), rfl, rfl, hp, ?_, _, rfl, _, rfl, _, _, rfl, rfl, ⟨by decide, by decide, by decide⟩, _, _, rfl, rfl, _, _, rfl, _, rfl, _, _, rfl, rfl, by decide, ?_⟩
    · refine atI_nat ?_
      rw [List.getElem?_map, List.getD_eq_getElem?_getD, List.getElem?_eq_getElem c]
      rfl
    have h0 : (0 : Int) ≤ (if xs.getD k 0 < 0 then -xs.getD k 0 else xs.getD k 0) := by split <;> omega
    generalize (if xs.getD k 0 < 0 then -xs.getD k 0 else xs.getD k 0) = cc at h0 ⊢
    refine ⟨_, rfl, _, _, rfl, rfl, .inl ⟨by decide, by decide⟩, _, _, rfl, rfl, _, _, rfl, rfl, _, _, rfl, rfl, ⟨by decide, by decide, ?_⟩, _, _, rfl, rfl, by decide, _, _, rfl, rfl, Nat.le_of_ble_eq_true rfl, last cc h0⟩
    have := Int.emod_nonneg cc (show (2147483543 : Int) ≠ 0 by decide)
    have := Int.emod_lt_of_pos cc (show (0 : Int) < 2147483543 by decide)
    omega
  · rw [decide_eq_false (by simpa using c)]
    refine ⟨_, rfl, _, _, rfl, rfl, ⟨by decide, by decide, by decide⟩, _, _, rfl, rfl, _, _, rfl, _, rfl, _, _, rfl, rfl, by decide, _, rfl, _, _, rfl, rfl, .inl ⟨by decide, by decide⟩, _, _, rfl, rfl, _, _, rfl, rfl, _, _, rfl, rfl, ⟨by decide, by decide, ?_⟩, _, _, rfl, rfl, by decide, _, _, rfl, rfl, Nat.le_of_ble_eq_true rfl, last 0 (Int.le_refl _)⟩
    have : (0 % 2147483543 : Int) = 0 := rfl
    omega
end
end K33


set_option Elab.async false
set_option linter.all false
set_option maxRecDepth 100000
set_option maxHeartbeats 8000000
namespace K33
open PySem PySem.Spec PyProof.Rows L2 K33M
theorem ExL.pot {H H' : Hp} {p : Addr} (hp : Pot H p) (e : Ex (hid p H) H') : ExL H H' := fun a o h n => by
  refine e a o ?_
  by_cases c : a = p
  · obtain ⟨x, y, h2, _⟩ := hp
    rw [c, h2] at h
    cases h
    exact absurd rfl (n _)
  · rw [hid_ne c]
    exact h
theorem Pot.mono {H H' : Hp} {p : Addr} (e : Ex H H') (h : Pot H p) : Pot H' p := let ⟨a, b, h1, h2⟩ := h; ⟨a, b, e _ _ h1, h2⟩
theorem Pot.new {H : Hp} {p : Addr} (h : Pot H p) {D : Addr} (hD : H D = none) : D ≠ p := fun z => by
  obtain ⟨a, b, h1, _⟩ := h
  rw [z, h1] at hD
  cases hD
theorem Pot.put {H : Hp} {p D : Addr} {o : HO} (h : Pot H p) (n : D ≠ p) : Pot (upd H D o) p := let ⟨a, b, h1, h2⟩ := h; ⟨a, b, by rw [upd_ne n.symm]; exact h1, h2⟩
/-- a comprehension that takes from the pot -/
theorem lc_pot {J : It} {n : Nat} {G : Hp → Prop} {Y : Nat → Hp → V → Hp → Prop} (w : Walk J n G Y) {p : Addr} {g : TG} {tt : TT} {te : TE} {vs : List Nat} {σ : L2.St} {H1 : Hp} {Qd : Addr → Hp → Prop} (sel : Nat → Bool) (R : Nat → Hp → V → Prop) (hn : n ≤ 40000) (hp : Pot H1 p)
    (hG : ∀ H, Ex (hid p H1) H → G H) (mo : ∀ i y H H', ExL H H' → R i H y → R i H' y)
    (gm : ∀ x σ' H' (A B : L2.St → Hp → Prop), (∀ σ2 H2, A σ2 H2 → B σ2 H2) → g x σ' H' A → g x σ' H' B)
    (st : ∀ i x H H', i < n → Ex (hid p H1) H → Pot H p → Y i H x H' → g x (wipe σ vs) H' fun σ2 H2 => wipe σ2 vs = wipe σ vs ∧ ∀ (Qy : VK) (Qn : Hp → Prop), (sel i = true → ∀ y H4, Ex (hid p H) H4 → Pot H4 p → R i H4 y → Qy y H4) → (sel i = false → ∀ H3, Ex (hid p H) H3 → Pot H3 p → Qn H3) →
      tt σ2 H2 fun b H3 => if b = true then te σ2 H3 Qy else Qn H3)
    (hd : ∀ D H ys, H1 D = none → Ex (hid p H1) H → Pot H p → H D = some (.lst ys) → Picks n sel R H ys → Qd D H) (D : Addr) (hD : H1 D = none) :
    ∃ W : Nat → Nat → Hp → Prop, (∃ m, W 0 m (upd H1 D (.lst []))) ∧ ∀ i m H, W i m H →
      (J.stop i H ∧ Qd D H) ∨ (J.go i H ∧ ∃ Nx : Hp → Prop, (∀ H', Nx H' → ∃ m', m' < m ∧ W (i + 1) m' H') ∧ ∀ x H', J.yld i H x H' → g x (wipe σ vs) H' fun σ2 H2 => wipe σ2 vs = wipe σ vs ∧ tt σ2 H2 fun b H3 =>
        if b = true then te σ2 H3 fun y H4 => ∃ acc, H4 D = some (.lst acc) ∧ acc.length < sizeLine ∧ Nx (upd H4 D (.lst (acc ++ [y]))) else Nx H3) := by
  have nD := hp.new hD
  refine lc_it w (fun i H => Ex (hid p H1) H ∧ Pot H p ∧ ∃ ys, H D = some (.lst ys) ∧ Picks i sel R H ys) ⟨hid_ex.trans (Evl.Ex.new hD), hp.put nD, [], upd_same, Picks.none⟩ (fun i H _ p => hG H p.1) (fun i x H H' hi pp y => ?_) fun H pp => ?_
  · obtain ⟨e, hpo, ys, hy, pk⟩ := pp
    refine gm _ _ _ _ _ (fun σ2 H2 q => ⟨q.1, ?_⟩) (st i x H H' hi e hpo y)
    have hD1 : hid p H1 D = none := by rw [hid_ne nD]; exact hD
    refine q.2 _ _ (fun s y H4 e4 hp4 r => ⟨ys, e4 D _ (by rw [hid_ne nD]; exact hy), Evl.sz_lt (by have := pk.len; omega), ?_, hp4.put nD, ys ++ [y], upd_same, ?_⟩) fun s H3 e3 hp3 => ?_
    · exact ((ex_hid e hid_same).trans e4).mut hD1
    · have l : ExL H4 (upd H4 D (.lst (ys ++ [y]))) := ExL.upd (e4 D _ (by rw [hid_ne nD]; exact hy))
      exact (pk.mono fun i y r => mo i y _ _ ((ExL.pot hpo e4).trans l) r).yes s (mo i y _ _ l r)
    · exact ⟨(ex_hid e hid_same).trans e3, hp3, ys, e3 D _ (by rw [hid_ne nD]; exact hy), (pk.mono fun i y r => mo i y _ _ (ExL.pot hpo e3) r).no s⟩
  · obtain ⟨e, hpo, ys, hy, pk⟩ := pp
    exact hd D H ys hD e hpo hy pk
theorem lc_te {wi : TI} {g : TG} {tt : TT} {te : TE} {vs : List Nat} {σ : L2.St} {H : Hp} {Q : VK} (h : ∀ te' tt', te' = te → tt' = tt → wi σ H fun J H1 => ∀ D, H1 D = none →
    ∃ W : Nat → Nat → Hp → Prop, (∃ m, W 0 m (upd H1 D (.lst []))) ∧ ∀ i m H, W i m H →
      (J.stop i H ∧ Q (.ref D) H) ∨ (J.go i H ∧ ∃ Nx : Hp → Prop, (∀ H', Nx H' → ∃ m', m' < m ∧ W (i + 1) m' H') ∧ ∀ x H', J.yld i H x H' → g x (wipe σ vs) H' fun σ2 H2 => wipe σ2 vs = wipe σ vs ∧ tt' σ2 H2 fun b H3 =>
        if b = true then te' σ2 H3 fun y H4 => ∃ acc, H4 D = some (.lst acc) ∧ acc.length < sizeLine ∧ Nx (upd H4 D (.lst (acc ++ [y]))) else Nx H3)) : tLc wi g tt te vs σ H Q := h te tt rfl rfl
theorem seq1 {a b : TS} {D : Ends} {σ : L2.St} {H : Hp} (h : ∀ d', d' = b → tSeq a d' D σ H) : tSeq a b D σ H := h _ rfl
theorem seq2 {a b c : TS} {D : Ends} {σ : L2.St} {H : Hp} (h : ∀ d', d' = c → tSeq a (tSeq b d') D σ H) : tSeq a (tSeq b c) D σ H := h _ rfl
theorem seq3 {a b c d : TS} {D : Ends} {σ : L2.St} {H : Hp} (h : ∀ d', d' = d → tSeq a (tSeq b (tSeq c d')) D σ H) : tSeq a (tSeq b (tSeq c d)) D σ H := h _ rfl
theorem seq4 {a b c d e : TS} {D : Ends} {σ : L2.St} {H : Hp} (h : ∀ d', d' = e → tSeq a (tSeq b (tSeq c (tSeq d d'))) D σ H) : tSeq a (tSeq b (tSeq c (tSeq d e))) D σ H := h _ rfl
/-! ### names -/
def One (y : Str) : Prop := ∃ c, c ∈ letters.cps.toList ∧ y = ⟨#[c]⟩
theorem glue_ones : ∀ (ys : List Str) (acc : Array Nat), (∀ y ∈ ys, One y) → (ys.foldl (fun acc p => acc ++ (Str.ofString "").cps ++ p.cps) acc).size = acc.size + ys.length ∧
    ((∀ c ∈ acc.toList, c ∈ letters.cps.toList) → ∀ c ∈ (ys.foldl (fun acc p => acc ++ (Str.ofString "").cps ++ p.cps) acc).toList, c ∈ letters.cps.toList)
  | [], acc, _ => ⟨rfl, fun h => h⟩
  | y :: ys, acc, h => by
    obtain ⟨c, hc, rfl⟩ := h y List.mem_cons_self
    obtain ⟨h1, h2⟩ := glue_ones ys (acc ++ (Str.ofString "").cps ++ #[c]) fun y m => h y (List.mem_cons_of_mem _ m)
    have e : (acc ++ (Str.ofString "").cps ++ #[c]).toList = acc.toList ++ [c] := by
      have : (Str.ofString "").cps = #[] := rfl
      rw [this]
      simp
    have e2 : (acc ++ (Str.ofString "").cps ++ #[c]).size = acc.size + 1 := by
      rw [← Array.length_toList, e]
      simp
    refine ⟨?_, fun ha => ?_⟩
    · rw [List.foldl_cons]
      rw [h1, e2, List.length_cons]
      omega
    · rw [List.foldl_cons]
      refine h2 fun d hd => ?_
      rw [e] at hd
      rcases List.mem_append.mp hd with hd | hd
      · exact ha d hd
      · rw [List.mem_singleton.mp hd]
        exact hc
theorem join_ones {ys : List Str} (h : ∀ y ∈ ys, One y) (lo : 1 ≤ ys.length) (hi : ys.length ≤ 8) : NameOk (Txt.join "" ys) := by
  cases ys with
  | nil => exact absurd lo (by decide)
  | cons y ys =>
    obtain ⟨c, hc, rfl⟩ := h y List.mem_cons_self
    obtain ⟨h1, h2⟩ := glue_ones ys #[c] fun y m => h y (List.mem_cons_of_mem _ m)
    have e : (Txt.join "" (⟨#[c]⟩ :: ys)).cps = ys.foldl (fun acc p => acc ++ (Str.ofString "").cps ++ p.cps) #[c] := rfl
    have el : (Txt.join "" (⟨#[c]⟩ :: ys)).length = ys.length + 1 := by
      show (Txt.join "" (⟨#[c]⟩ :: ys)).cps.size = _
      rw [e, h1]
      show 1 + _ = _
      omega
    refine ⟨by omega, by rw [el]; exact hi, fun d hd => ?_⟩
    rw [e] at hd
    refine h2 (fun d hd => ?_) d hd
    rw [List.mem_singleton.mp hd]
    exact hc
theorem cut8 {a b : Str} (ha : NameOk a) (hb : NameOk b) : NameOk (cutS (a ++ b) none (some 8)) := by
  have e : (cutS (a ++ b) none (some 8)).cps.toList = (a.cps.toList ++ b.cps.toList).take (HT.sIx (a ++ b).length (a ++ b).length (some 8)) := by
    unfold cutS
    simp [HT.sIx, Str.cps_append]
  have hl : (a ++ b).length = a.length + b.length := Str.length_append a b
  have ex : HT.sIx (a ++ b).length (a ++ b).length (some 8) = min 8 (a ++ b).length := by
    simp [HT.sIx]
    try omega
  have el : (cutS (a ++ b) none (some 8)).length = min 8 (a.length + b.length) := by
    show (cutS (a ++ b) none (some 8)).cps.size = _
    rw [← Array.length_toList, e, ex, hl, List.length_take, List.length_append]
    have e1 : a.cps.toList.length = a.length := rfl
    have e2 : b.cps.toList.length = b.length := rfl
    omega
  refine ⟨by rw [el]; have := ha.lo; omega, by rw [el]; omega, fun c hc => ?_⟩
  rw [e] at hc
  rcases List.mem_append.mp (List.mem_of_mem_take hc) with h | h
  · exact ha.al c h
  · exact hb.al c h
def withQ (c : Nat) : Str := ⟨#[c]⟩ ++ (Str.ofString "q")
theorem withQ_ok {c : Nat} (h : c ∈ letters.cps.toList) : NameOk (withQ c) := by
  have e : (withQ c).cps.toList = [c, 113] := rfl
  refine ⟨Nat.le_of_ble_eq_true rfl, Nat.le_of_ble_eq_true rfl, fun d hd => ?_⟩
  rw [e] at hd
  rcases List.mem_cons.mp hd with rfl | hd
  · exact h
  · rw [List.mem_singleton.mp hd]
    decide
theorem withQ_inj {c d : Nat} (h : withQ c = withQ d) : c = d := by
  have : (withQ c).cps.toList = (withQ d).cps.toList := by rw [h]
  have e : [c, 113] = [d, 113] := this
  cases e
  rfl
theorem sub_len {α : Type} [DecidableEq α] : ∀ {l m : List α}, l.Nodup → (∀ x ∈ l, x ∈ m) → l.length ≤ m.length
  | [], _, _, _ => Nat.zero_le _
  | a :: l, m, nd, h => by
    rw [List.nodup_cons] at nd
    have ha := h a List.mem_cons_self
    have := sub_len (m := m.erase a) nd.2 fun x hx => (List.mem_erase_of_ne fun z => nd.1 (by rw [← z]; exact hx)).mpr (h x (List.mem_cons_of_mem _ hx))
    rw [List.length_erase_of_mem ha] at this
    have := List.length_pos_of_mem ha
    rw [List.length_cons]
    omega
theorem some_left (ns : List Str) (h : ns.length < 26) : (((letters.cps.toList).map withQ).filter fun x => !ns.contains x) ≠ [] := fun z => by
  have hs : ((letters.cps.toList).map withQ) ⊆ ns := fun x hx => by
    by_cases c : x ∈ ns
    · exact c
    · have : x ∈ (((letters.cps.toList).map withQ).filter fun x => !ns.contains x) := List.mem_filter.mpr ⟨hx, by simpa using c⟩
      rw [z] at this
      cases this
  have nd : ((letters.cps.toList).map withQ).Nodup := nodup_map (fun _ _ => withQ_inj) (by decide)
  have := sub_len nd hs
  rw [List.length_map] at this
  have e : letters.cps.toList.length = 26 := by decide
  omega
theorem flat_strs (ns : List Str) : (ns.map V.str).all flatV = true := by
  rw [List.all_eq_true]
  intro v hv
  obtain ⟨x, _, rfl⟩ := List.mem_map.mp hv
  rfl
theorem inV_strs (x : Str) (ns : List Str) : inV (.str x) (ns.map .str) = decide (x ∈ ns) := by
  have e : ∀ y, eqV (.str y) (.str x) = decide (y = x) := fun y => by
    first | rfl | (show (y == x) = _; by_cases c : y = x <;> simp [c])
  unfold inV
  by_cases c : x ∈ ns
  · rw [decide_eq_true c, List.any_eq_true]
    exact ⟨_, List.mem_map_of_mem c, by rw [e]; simp⟩
  · rw [decide_eq_false c, List.any_eq_false]
    intro v hv
    obtain ⟨y, hy, rfl⟩ := List.mem_map.mp hv
    rw [e]
    simpa using fun z : y = x => c (z ▸ hy)
theorem dp_strs {K : PySem.W.Frag} {H : Hp} : ∀ ns : List Str, DpAll K H (ns.map .str) (ns.map .str)
  | [] => .nil
  | x :: ns => .cons (.str x) (dp_strs ns)
theorem canLay_strs : ∀ ns : List Str, (∀ x ∈ ns, NameOk x) → PyData.canLayAll0 (ns.map .str) = true ∧ PyData.depthAll (ns.map .str) ≤ 1
  | [], _ => by simp [PyData.canLayAll0, PyData.depthAll]
  | x :: ns, h => by
    obtain ⟨h1, h2⟩ := canLay_strs ns fun y m => h y (List.mem_cons_of_mem _ m)
    simp only [List.map_cons, PyData.canLayAll0, PyData.canLay0, strOk_nm (h x List.mem_cons_self), PyData.depthAll, PyData.depth, h1, Bool.and_self, true_and]
    omega
theorem shaped_strs (ns : List Str) (h : ∀ x ∈ ns, NameOk x) : SeqAt.shaped (.list (ns.map .str)) = true := by
  obtain ⟨h1, h2⟩ := canLay_strs ns h
  unfold SeqAt.shaped
  simp only [PyData.canLay0, PyData.depth, h1, Bool.true_and]
  exact decide_eq_true (by omega)
theorem last_str (n0 : Str) (ns : List Str) : ∃ z, z ∈ n0 :: ns ∧ atI ((n0 :: ns).map V.str) (-1) = some (.str z) := by
  refine ⟨(n0 :: ns).getLast (List.cons_ne_nil _ _), List.getLast_mem _, ?_⟩
  have e := List.dropLast_concat_getLast (List.cons_ne_nil n0 ns)
  have e2 : (n0 :: ns).map V.str = ((n0 :: ns).dropLast.map V.str) ++ [.str ((n0 :: ns).getLast (List.cons_ne_nil _ _))] := by
    rw [← List.map_singleton, ← List.map_append, e]
  rw [e2]
  exact atI_last _ _
def sp_law_name (K : PySem.W.Frag) : Sp := fun vs H Q _ => ∃ (p l : Addr) (ns : List Str), vs = [.ref p, .ref l] ∧ Pot H p ∧ H l = some (.lst (ns.map .str)) ∧ l ≠ p ∧ (∀ x ∈ ns, NameOk x) ∧ ns.length < 26 ∧ ∀ x H', NameOk x → x ∉ ns → Ex (hid p H) H' → Pot H' p → Q (.str x) H'
section
variable {P : Program} {w : World} {K : PySem.W.Frag} {mg : Str → Option Value} {base : Heap}
theorem o_law_name (T : Tx K mg) : FO P w K mg base 2 (He.ga K "_law_name") ["_law_pot_here", "_law_taken"] (sp_law_name K) := def_ok T.f_law_name sc_law_name (fun _ _ _ _ _ _ us hl => match us, hl with | [_, _], _ => rfl)
    (fun _ _ _ _ h => by obtain ⟨_, _, _, rfl, _⟩ := h; rfl) fun cdv A outer s H vs Q E hr h => by
  have hu := hu_of hr
  obtain ⟨p, l, ns, rfl, hp, hl, nlp, hok, hns, hQ⟩ := h
  refine ⟨_, (pss_cons (ps_set (i := 2) sc_law_name.nd rfl (.inr rfl) pe_str)
      (pss_cons (ps_set (i := 3) sc_law_name.nd rfl (.inl rfl) (pe_join pe_str (pe_lc (own := [("_law_k", 4)]) rfl sc_law_name.nd (pi_range1 (by rfl) T.z_range (pa_cons (pe_ix ix_list (pe_lst (pa_cons pe_int (pa_cons pe_int (pa_cons pe_int (pa_cons pe_int pa_nil))))) (c_fn (o_law_take T) T.g_law_take (hr.mono (by decide)) (pa_cons (pv 0) (pa_cons pe_int pa_nil))) (fun _ _ => rfl)) pa_nil)) (blkOk_by (by rfl)) (fun _ _ _ _ _ => (pg_name (i := 4) sc_law_name.nd rfl (.inl rfl))) (fun _ _ _ _ _ => pts_nil) (fun _ _ _ _ _ => (pe_item_str (pv 2) (c_fn (o_law_take T) T.g_law_take (hr.mono (by decide)) (pa_cons (pv 0) (pa_cons pe_int pa_nil))) (fun _ _ => rfl))))))
      (pss_cons (ps_if (PW.pt (pw_and (pt_cmpR (op_neD hr.units) (pv 1) (pe_lst pa_nil) (nomark _)) (pw_and1 (pt_cmpR op_eq (c_fn (o_law_take T) T.g_law_take (hr.mono (by decide)) (pa_cons (pv 0) (pa_cons pe_int pa_nil))) pe_int (nomark _))))) (pss_one (ps_set (i := 3) sc_law_name.nd rfl (.inl rfl) (pe_slice sl_str (pe_op op_add_str (pe_ix ix_list (pv 1) (pe_un un_neg pe_int) (fun _ _ => rfl)) (pv 3)) po_none (po_some pe_int)))) pss_nil)
      (pss_cons (ps_if (pt_cmpR op_in_seq (pv 3) (pv 1) (by rfl)) (pss_one (ps_set (i := 3) sc_law_name.nd rfl (.inl rfl) (pe_ix ix_list (pe_lc (own := [("_law_one", 6)]) rfl sc_law_name.nd (pi_list (pe_lc (own := [("_law_letter", 5)]) rfl sc_law_name.nd (pi_str (pv 2)) (blkOk_by (by rfl)) (fun _ _ _ _ _ => (pg_name (i := 5) sc_law_name.nd rfl (.inl rfl))) (fun _ _ _ _ _ => pts_nil) (fun _ _ _ _ _ => (pe_op op_add_str (pv 5) pe_str)))) (blkOk_by (by rfl)) (fun _ _ _ _ _ => (pg_name (i := 6) sc_law_name.nd rfl (.inl rfl))) (fun _ _ _ _ _ => (pts_one (pt_cmpR (op_notIn_seqK (K := K) rfl) (pv 6) (pv 1) (by rfl)))) (fun _ _ _ _ _ => (pv 6))) pe_int (fun _ _ => rfl)))) pss_nil)
      (pss_one (ps_ret (pv 3))))))), ?_⟩
  refine seq3 fun tl htl => ?_
  dsimp only [tCKw, tM1, tVals, tVar, tC, tB, tAnd, tOr, tNot, tAndV, tOrV, tNotV, tIf, tNext, tSeq, tBreak, tCont, tDrop, tRet, tRetN, tIfS, tNever, gName, gNil, gCons, gTup, gSub, tAsg, tPar, tAug, tTest, tChain, tFld, sFld, tNil, tCons, tTup, tLst, tCall, tMeth, tCB, tBM, tNoPart, tPart, tSl, tOp, tUn, rI, rI0, rU, iList, iTup, iRng1, iRng2, iStr, iEnum, iZip, iItems, iVals, tDGet, tDIn, tDNotIn, sDPut, tDGet2, tDNewK, tDNewT, tYes, fin, List.cons_append, List.nil_append, bx, cxOf, Cx.nox]
  refine ⟨⟨_, rfl⟩, ?_⟩
  refine lc_te fun te tt hte htt => ?_
  dsimp only [tCKw, tM1, tVals, tVar, tC, tB, tAnd, tOr, tNot, tAndV, tOrV, tNotV, tIf, tNext, tSeq, tBreak, tCont, tDrop, tRet, tRetN, tIfS, tNever, gName, gNil, gCons, gTup, gSub, tAsg, tPar, tAug, tTest, tChain, tFld, sFld, tNil, tCons, tTup, tLst, tCall, tMeth, tCB, tBM, tNoPart, tPart, tSl, tOp, tUn, rI, rI0, rU, iList, iTup, iRng1, iRng2, iStr, iEnum, iZip, iItems, iVals, tDGet, tDIn, tDNotIn, sDPut, tDGet2, tDNewK, tDNewT, tYes, fin, List.cons_append, List.nil_append, bx, cxOf, Cx.nox]
  refine ⟨Nat.le_of_ble_eq_true rfl, fun q hq => ⟨_, rfl, p, 4, rfl, hp.mono (Evl.Ex.new hq), by decide, by decide, fun d H1 hd e1 hp1 => ?_⟩⟩
  have nqp := hp.new hq
  have e1' : Ex (hid p H) H1 := (hid_mono (Evl.Ex.new hq)).trans e1
  have hq1 : H1 q = some (.lst [.int 1, .int 2, .int 3, .int 8]) := e1 _ _ (by rw [hid_ne nqp, upd_same])
  obtain ⟨m, hm, hm1, hm2⟩ : ∃ m : Nat, atI [V.int 1, .int 2, .int 3, .int 8] (d : Int) = some (.int (m : Int)) ∧ 1 ≤ m ∧ m ≤ 8 := by
    match d, hd with
    | 0, _ => exact ⟨1, rfl, by decide, by decide⟩
    | 1, _ => exact ⟨2, rfl, by decide, by decide⟩
    | 2, _ => exact ⟨3, rfl, by decide, by decide⟩
    | 3, _ => exact ⟨8, rfl, by decide, by decide⟩
    | d + 4, h => exact absurd h (by omega)
  refine ⟨q, _, _, _, rfl, rfl, sql hq1, hm, _, rfl, by omega, by omega, ?_⟩
  rw [Int.toNat_natCast]
  refine lc_pot (walk_range (lo := 0) (n := m)) (fun _ => true) (fun _ _ y => ∃ z, One z ∧ y = .str z) (by omega) hp1 (fun _ _ => True.intro) (fun _ _ _ _ _ r => r) gm_name (fun i y H2 H' hi e2 hp2 Y => ?_) fun D H2 ys hD e2 hp2 hys pk => ?_
  · obtain ⟨rfl, rfl⟩ := Y
    refine ⟨rfl, fun Qy Qn k _ => ?_⟩
    subst hte htt
    dsimp only [tCKw, tM1, tVals, tVar, tC, tB, tAnd, tOr, tNot, tAndV, tOrV, tNotV, tIf, tNext, tSeq, tBreak, tCont, tDrop, tRet, tRetN, tIfS, tNever, gName, gNil, gCons, gTup, gSub, tAsg, tPar, tAug, tTest, tChain, tFld, sFld, tNil, tCons, tTup, tLst, tCall, tMeth, tCB, tBM, tNoPart, tPart, tSl, tOp, tUn, rI, rI0, rU, iList, iTup, iRng1, iRng2, iStr, iEnum, iZip, iItems, iVals, tDGet, tDIn, tDNotIn, sDPut, tDGet2, tDNewK, tDNewT, tYes, fin, List.cons_append, List.nil_append, bx, cxOf, Cx.nox]
    refine ⟨_, rfl, _, rfl, p, 26, rfl, hp2, by decide, by decide, fun d2 H3 hd2 e3 hp3 => ?_⟩
    have hlen : letters.length = 26 := rfl
    refine ⟨letters, _, letters.cps[d2]'(by show d2 < letters.length; omega), rfl, rfl, by omega, by omega, by rw [hlen]; omega, by rw [Int.toNat_natCast]; exact Array.getElem?_eq_getElem _, ?_⟩
    exact k rfl _ _ e3 hp3 ⟨_, ⟨_, Array.getElem_mem_toList _, rfl⟩, rfl⟩
  have el : ys.length = m := by
    have := pr_len pk.all
    rw [List.length_range] at this
    omega
  obtain ⟨zs, ezs, hzs⟩ : ∃ zs : List Str, ys = zs.map .str ∧ ∀ z ∈ zs, One z := by
    have pk2 := pk.all
    generalize List.range m = rs at pk2
    clear el hys pk
    induction pk2 with
    | nil => exact ⟨[], rfl, fun _ h => nomatch h⟩
    | cons h _ ih =>
      obtain ⟨z, hz, rfl⟩ := h
      obtain ⟨zs, rfl, h2⟩ := ih
      exact ⟨z :: zs, rfl, fun y m => by
        rcases List.mem_cons.mp m with rfl | m
        · exact hz
        · exact h2 y m⟩
  subst ezs
  rw [List.length_map] at el
  have hx := join_ones hzs (by omega) (by omega)
  have esum : (zs.map (·.length)).sum = zs.length := by
    clear el hys pk hx
    induction zs with
    | nil => rfl
    | cons z zs ih =>
      obtain ⟨c, _, rfl⟩ := hzs z List.mem_cons_self
      rw [List.map_cons, List.sum_cons, ih fun y m => hzs y (List.mem_cons_of_mem _ m), List.length_cons]
      show 1 + _ = _
      omega
  refine ⟨_, D, zs, rfl, rfl, .inl (sql hys), ?_, ?_⟩
  · rw [esum]
    show _ + _ * 0 ≤ _
    omega
  generalize Txt.join (Str.ofString "") zs = x at hx ⊢
  have e2' : Ex (hid p H) H2 := (ex_hid e1' hid_same).trans e2
  have hl2 : H2 l = some (.lst (ns.map .str)) := e2' _ _ (by rw [hid_ne nlp]; exact hl)
  have dpn : ∀ H', H' l = some (.lst (ns.map .str)) → Dp K H' (.ref l) (.list (ns.map .str)) := fun H' h => by
    exact .lst (sql h) (dp_strs ns)
  have tail : ∀ (x : Str) (H3 : Hp), NameOk x → Ex (hid p H) H3 → Pot H3 p → tl (fin Q) [some (.ref p), some (.ref l), some (.str letters), some (.str x), none, none, none] H3 := fun x H3 hx e3 hp3 => by
    subst htl
    dsimp only [tCKw, tM1, tVals, tVar, tC, tB, tAnd, tOr, tNot, tAndV, tOrV, tNotV, tIf, tNext, tSeq, tBreak, tCont, tDrop, tRet, tRetN, tIfS, tNever, gName, gNil, gCons, gTup, gSub, tAsg, tPar, tAug, tTest, tChain, tFld, sFld, tNil, tCons, tTup, tLst, tCall, tMeth, tCB, tBM, tNoPart, tPart, tSl, tOp, tUn, rI, rI0, rU, iList, iTup, iRng1, iRng2, iStr, iEnum, iZip, iItems, iVals, tDGet, tDIn, tDNotIn, sDPut, tDGet2, tDNewK, tDNewT, tYes, fin, List.cons_append, List.nil_append, bx, cxOf, Cx.nox]
    have hl3 : H3 l = some (.lst (ns.map .str)) := e3 _ _ (by rw [hid_ne nlp]; exact hl)
    refine ⟨_, rfl, _, rfl, l, _, rfl, .inl (sql hl3), rfl, flat_strs ns, _, rfl, ?_⟩
    rw [if_neg Bool.false_ne_true, inV_strs]
    by_cases c : x ∈ ns
    · rw [decide_eq_true c]
      rw [if_pos rfl]
      refine lc_te fun te tt hte htt => ?_
      dsimp only [iList]
      refine lc_te fun te2 tt2 hte2 htt2 => ?_
      dsimp only [tCKw, tM1, tVals, tVar, tC, tB, tAnd, tOr, tNot, tAndV, tOrV, tNotV, tIf, tNext, tSeq, tBreak, tCont, tDrop, tRet, tRetN, tIfS, tNever, gName, gNil, gCons, gTup, gSub, tAsg, tPar, tAug, tTest, tChain, tFld, sFld, tNil, tCons, tTup, tLst, tCall, tMeth, tCB, tBM, tNoPart, tPart, tSl, tOp, tUn, rI, rI0, rU, iList, iTup, iRng1, iRng2, iStr, iEnum, iZip, iItems, iVals, tDGet, tDIn, tDNotIn, sDPut, tDGet2, tDNewK, tDNewT, tYes, fin, List.cons_append, List.nil_append, bx, cxOf, Cx.nox]
      refine ⟨_, rfl, letters, rfl, lc_pick walk_str (fun _ => true) (fun i _ y => ∃ c, letters.cps[i]? = some c ∧ y = .str (withQ c)) (by decide) (fun _ _ => True.intro) (fun _ _ _ _ _ r => r) gm_name (fun i y H1 H' hi e Y => ?_) fun D H4 ys hD e4 hys pk => ?_⟩
      · obtain ⟨rfl, c, hc, rfl⟩ := Y
        refine ⟨rfl, fun Qy Qn k _ => ?_⟩
        subst hte2 htt2
        dsimp only [tCKw, tM1, tVals, tVar, tC, tB, tAnd, tOr, tNot, tAndV, tOrV, tNotV, tIf, tNext, tSeq, tBreak, tCont, tDrop, tRet, tRetN, tIfS, tNever, gName, gNil, gCons, gTup, gSub, tAsg, tPar, tAug, tTest, tChain, tFld, sFld, tNil, tCons, tTup, tLst, tCall, tMeth, tCB, tBM, tNoPart, tPart, tSl, tOp, tUn, rI, rI0, rU, iList, iTup, iRng1, iRng2, iStr, iEnum, iZip, iItems, iVals, tDGet, tDIn, tDNotIn, sDPut, tDGet2, tDNewK, tDNewT, tYes, fin, List.cons_append, List.nil_append, bx, cxOf, Cx.nox]
        exact ⟨_, rfl, _, _, rfl, rfl, Evl.sz_of (Nat.le_of_ble_eq_true rfl), k rfl _ _ (Evl.Ex.refl _) ⟨c, hc, rfl⟩⟩
      have eys : ys = (letters.cps.toList.map withQ).map .str := by
        rw [List.map_map]
        refine (paired_eq (pr_range (l := letters.cps.toList) (S := fun c y => y = .str (withQ c)) pk.all fun i a b h1 h2 => ?_))
        obtain ⟨c, hc, rfl⟩ := h2
        rw [Array.getElem?_toList, hc] at h1
        cases h1
        rfl
      subst eys
      have nDp := hp3.new hD
      have hl4 : H4 l = some (.lst (ns.map .str)) := e4 _ _ hl3
      refine ⟨D, rfl, ⟨_, sql hys⟩, lc_pick (g := gName 6) walk_list (fun i => !ns.contains (((letters.cps.toList.map withQ)).getD i "")) (fun i _ y => y = .str ((letters.cps.toList.map withQ).getD i "")) (by decide) (fun H e => sql (e _ _ hys)) (fun _ _ _ _ _ r => r) gm_name (fun i y H5 H' hi e Y => ?_) fun D2 H5 ys hD2 e5 hys2 pk2 => ?_⟩
      · obtain ⟨rfl, hy⟩ := Y
        rw [List.getElem?_map] at hy
        obtain ⟨c, hc, rfl⟩ := Option.map_eq_some_iff.mp hy
        have ec : (letters.cps.toList.map withQ).getD i "" = c := by rw [List.getD_eq_getElem?_getD, hc]; rfl
        rw [ec]
        refine ⟨rfl, fun Qy Qn k kn => ?_⟩
        subst hte htt
        dsimp only [tCKw, tM1, tVals, tVar, tC, tB, tAnd, tOr, tNot, tAndV, tOrV, tNotV, tIf, tNext, tSeq, tBreak, tCont, tDrop, tRet, tRetN, tIfS, tNever, gName, gNil, gCons, gTup, gSub, tAsg, tPar, tAug, tTest, tChain, tFld, sFld, tNil, tCons, tTup, tLst, tCall, tMeth, tCB, tBM, tNoPart, tPart, tSl, tOp, tUn, rI, rI0, rU, iList, iTup, iRng1, iRng2, iStr, iEnum, iZip, iItems, iVals, tDGet, tDIn, tDNotIn, sDPut, tDGet2, tDNewK, tDNewT, tYes, fin, List.cons_append, List.nil_append, bx, cxOf, Cx.nox]
        refine ⟨_, rfl, _, rfl, l, _, rfl, .inl (sql (e _ _ hl4)), rfl, flat_strs ns, _, rfl, ?_⟩
        rw [if_pos rfl, inV_strs]
        by_cases m : c ∈ ns
        · rw [decide_eq_true m]
          exact kn (by simpa using m) _ (Evl.Ex.refl _)
        · rw [decide_eq_false m]
          exact ⟨_, rfl, k (by simpa using m) _ _ (Evl.Ex.refl _) rfl⟩
      have eq2 := pk2.eq
      have e26 : ((letters.cps.toList.map withQ).map V.str).length = 26 := by decide
      rw [e26] at eq2
      cases er : (List.range 26).filter (fun i => !ns.contains ((letters.cps.toList.map withQ).getD i "")) with
      | nil =>
        exfalso
        refine some_left ns hns (List.eq_nil_iff_forall_not_mem.mpr fun z hz => ?_)
        obtain ⟨h1, h2⟩ := List.mem_filter.mp hz
        obtain ⟨i, hi, ei⟩ := List.mem_iff_getElem.mp h1
        have hi26 : i < 26 := by
          have e : (letters.cps.toList.map withQ).length = 26 := by decide
          omega
        have : i ∈ (List.range 26).filter (fun i => !ns.contains ((letters.cps.toList.map withQ).getD i "")) := by
          refine List.mem_filter.mpr ⟨List.mem_range.mpr hi26, ?_⟩
          rw [List.getD_eq_getElem?_getD, List.getElem?_eq_getElem hi, Option.getD_some, ei]
          exact h2
        rw [er] at this
        cases this
      | cons i0 r =>
        rw [er] at eq2
        have hi0 : i0 ∈ (List.range 26).filter (fun i => !ns.contains ((letters.cps.toList.map withQ).getD i "")) := by rw [er]; exact List.mem_cons_self
        obtain ⟨h1, h2⟩ := List.mem_filter.mp hi0
        have h1 := List.mem_range.mp h1
        obtain ⟨c, hc, ec⟩ : ∃ c, c ∈ letters.cps.toList ∧ (letters.cps.toList.map withQ).getD i0 "" = withQ c := by
          have e : letters.cps.toList.length = 26 := by decide
          refine ⟨letters.cps.toList[i0], List.getElem_mem _, ?_⟩
          rw [List.getD_eq_getElem?_getD, List.getElem?_map, List.getElem?_eq_getElem (by omega)]
          rfl
        rw [ec] at h2
        have hl5 : H5 D2 = some (.lst ys) := hys2
        refine ⟨D2, ys, 0, .str (withQ c), rfl, rfl, sql hys2, ?_, _, rfl, ?_⟩
        · rw [eq2, List.map_cons, ec]
          exact atI_nat (j := 0) rfl
        · exact hQ _ _ (withQ_ok hc) (by simpa using h2) (((e3.trans e4).trans e5)) (hp3.mono (e4.trans e5))
    · rw [decide_eq_false c]
      exact ⟨_, rfl, hQ x H3 hx c e3 hp3⟩
  refine ⟨_, rfl, Nat.le_of_ble_eq_true rfl, fun t ht => ⟨_, _, dpn _ ((Evl.Ex.new ht) _ _ hl2), .lst (sql upd_same) .nil, shaped_strs ns hok, rfl, ?_⟩⟩
  have e3 : Ex (hid p H) (upd H2 t (.lst [])) := e2'.trans (Evl.Ex.new ht)
  have hl3 := (Evl.Ex.new (o := .lst []) ht) _ _ hl2
  have hp3 : Pot (upd H2 t (.lst [])) p := hp2.mono (Evl.Ex.new ht)
  have eEq : PyData.eqv (.list (ns.map .str)) (.list []) = ns.isEmpty := by cases ns <;> rfl
  rw [eEq]
  generalize upd H2 t (.lst []) = H3 at e3 hl3 hp3
  cases ns with
  | nil => exact ⟨_, rfl, tail x _ hx e3 hp3⟩
  | cons n0 ns0 =>
    refine ⟨_, rfl, _, rfl, p, 4, rfl, hp3, by decide, by decide, fun d2 H4 hd2 e4 hp4 => ⟨rfl, _, rfl, ?_⟩⟩
    have e4' : Ex (hid p H) H4 := (ex_hid e3 hid_same).trans e4
    by_cases c : d2 = 0
    · subst c
      rw [decide_eq_true (show V.int ((0 : Nat) : Int) = V.int 0 from rfl)]
      have hl4 : H4 l = some (.lst ((n0 :: ns0).map .str)) := e4 _ _ (by rw [hid_ne nlp]; exact hl3)
      obtain ⟨z, hz, ez⟩ := last_str n0 ns0
      have hzn := hok z hz
      refine ⟨_, rfl, _, rfl, l, _, _, _, rfl, rfl, sql hl4, ez, _, rfl, _, _, rfl, rfl, Evl.sz_of (by have := hzn.hi; have := hx.hi; omega), _, rfl, ⟨_, rfl, Evl.sz_of (by rw [Str.length_append]; have := hzn.hi; have := hx.hi; omega), ?_⟩⟩
      exact tail _ _ (cut8 hzn hx) e4' hp4
    · rw [decide_eq_false (show ¬ V.int (d2 : Int) = V.int 0 by intro z; injection z; omega)]
      exact tail x _ hx e4' hp4
end
end K33


set_option Elab.async false
set_option linter.all false
set_option maxRecDepth 100000
set_option maxHeartbeats 8000000
namespace K33
open PySem PySem.Spec PyProof.Rows L2 K33M
def sp_law_length : Sp := fun vs H Q _ => ∃ (p : Addr) (way : Nat), vs = [.ref p, .int (way : Int)] ∧ Pot H p ∧ way < 2 ∧ ∀ (l : Nat) H', 2 ≤ l → l ≤ 12 → Ex (hid p H) H' → Pot H' p → Q (.int (l : Int)) H'
def sp_law_hearers : Sp := fun vs H Q _ => ∃ (p : Addr) (len many : Nat), vs = [.ref p, .int (len : Int), .int (many : Int)] ∧ Pot H p ∧ 2 ≤ len ∧ len ≤ 12 ∧ many ≤ 4 ∧ ∀ v hs H', HsAt H' v hs → HsOk len hs → hs.length ≤ many → Ex (hid p H) H' → Pot H' p → Q v H'
theorem seq6 {a b c d e f : TS} {D : Ends} {σ : L2.St} {H : Hp} (h : ∀ t3 t4 t5 t6, t6 = f → t5 = tSeq e t6 → t4 = tSeq d t5 → t3 = tSeq c t4 → tSeq a (tSeq b t3) D σ H) : tSeq a (tSeq b (tSeq c (tSeq d (tSeq e f)))) D σ H := h _ _ _ _ rfl rfl rfl rfl
structure HrD (len n : Nat) (kvs : List (Key × V)) : Prop where
  nd : (kvs.map (·.1)).Nodup
  ok : ∀ k v, (k, v) ∈ kvs → ∃ i j : Int, k = .inl i ∧ v = .int j ∧ 0 < i ∧ i < len ∧ 1 ≤ j ∧ j ≤ 2
  hi : kvs.length ≤ n
theorem HrD.none {len n : Nat} : HrD len n [] := ⟨List.nodup_nil, fun _ _ h => (nomatch h), Nat.zero_le _⟩
theorem HrD.mono {len n m : Nat} {kvs : List (Key × V)} (h : HrD len n kvs) (l : n ≤ m) : HrD len m kvs := ⟨h.nd, h.ok, Nat.le_trans h.hi l⟩
theorem HrD.put {len n : Nat} {kvs : List (Key × V)} (h : HrD len n kvs) {i j : Int} (h1 : 0 < i) (h2 : i < len) (h3 : 1 ≤ j) (h4 : j ≤ 2) : HrD len (n + 1) (putK kvs (.inl i) (.int j)) :=
  ⟨nodup_putK _ _ h.nd, fun k v m => by
    rcases mem_putK h.nd m with ⟨rfl, rfl⟩ | m
    · exact ⟨i, j, rfl, rfl, h1, h2, h3, h4⟩
    · exact h.ok k v m, Nat.le_trans (length_putK _ _ _) (Nat.succ_le_succ h.hi)⟩
theorem HrD.prs {len n : Nat} {kvs : List (Key × V)} (h : HrD len n kvs) : ∃ prs : List (Int × Int), kvs = prs.map (fun p => (.inl p.1, .int p.2)) ∧ (prs.map (·.1)).Nodup ∧ (∀ q ∈ prs, 0 < q.1 ∧ q.1 < len ∧ 1 ≤ q.2 ∧ q.2 ≤ 2) ∧ prs.length ≤ n := by
  obtain ⟨prs, e, h2⟩ : ∃ prs : List (Int × Int), kvs = prs.map (fun p => (.inl p.1, .int p.2)) ∧ ∀ q ∈ prs, 0 < q.1 ∧ q.1 < len ∧ 1 ≤ q.2 ∧ q.2 ≤ 2 := by
    have ok := h.ok
    clear h
    induction kvs with
    | nil => exact ⟨[], rfl, fun _ h => (nomatch h)⟩
    | cons kv kvs ih =>
      obtain ⟨prs, rfl, h2⟩ := ih fun k v m => ok k v (List.mem_cons_of_mem _ m)
      obtain ⟨k, v⟩ := kv
      obtain ⟨i, j, rfl, rfl, q⟩ := ok k v List.mem_cons_self
      exact ⟨(i, j) :: prs, rfl, fun x m => by
        rcases List.mem_cons.mp m with rfl | m
        · exact q
        · exact h2 x m⟩
  subst e
  refine ⟨prs, rfl, ?_, h2, by have := h.hi; rwa [List.length_map] at this⟩
  have nd := h.nd
  rw [List.map_map] at nd
  exact List.pairwise_map.mpr ((List.pairwise_map.mp nd).imp fun ne z => ne (by show (Sum.inl _ : Key) = Sum.inl _; rw [z]))
section
variable {P : Program} {w : World} {K : PySem.W.Frag} {mg : Str → Option Value} {base : Heap}
theorem o_law_length (T : Tx K mg) : FO P w K mg base 2 (He.ga K "_law_length") ["_law_pot_here", "_law_way"] sp_law_length := def_ok T.f_law_length sc_law_length (fun _ _ _ _ _ _ us hl => match us, hl with | [_, _], _ => rfl)
    (fun _ _ _ _ h => by obtain ⟨_, _, rfl, _⟩ := h; rfl) fun cdv A outer s H vs Q E hr h => by
  have hu := hu_of hr
  obtain ⟨p, way, rfl, hp, hw, hQ⟩ := h
  refine ⟨_, (pss_cons (ps_if (pt_cmpR op_lt (pv 1) pe_int (nomark _)) (pss_one (ps_ret (pe_op op_add pe_int (c_fn (o_law_take T) T.g_law_take (hr.mono (by decide)) (pa_cons (pv 0) (pa_cons (pe_ix ix_list (pe_lst (pa_cons pe_int (pa_cons pe_int (pa_cons pe_int pa_nil)))) (pv 1) (fun _ _ => rfl)) pa_nil)))))) pss_nil)
      (pss_cons (ps_set (i := 2) sc_law_length.nd rfl (.inl rfl) (pe_op op_add pe_int (c_fn (o_law_take T) T.g_law_take (hr.mono (by decide)) (pa_cons (pv 0) (pa_cons (pe_op op_sub (pe_op op_pow pe_int pe_int) pe_int) pa_nil)))))
      (pss_cons (ps_set (i := 3) sc_law_length.nd rfl (.inl rfl) (pe_lst (pa_cons (pv 2) (pa_cons (pe_op op_sub (pe_op op_pow pe_int pe_int) (c_fn (o_law_take T) T.g_law_take (hr.mono (by decide)) (pa_cons (pv 0) (pa_cons pe_int pa_nil)))) (pa_cons (pe_op op_add (pe_op op_mul pe_int (pe_op op_pow pe_int pe_int)) (c_fn (o_law_take T) T.g_law_take (hr.mono (by decide)) (pa_cons (pv 0) (pa_cons pe_int pa_nil)))) (pa_cons (pe_op op_add pe_int (c_fn (o_law_take T) T.g_law_take (hr.mono (by decide)) (pa_cons (pv 0) (pa_cons pe_int pa_nil)))) pa_nil))))))
      (pss_one (ps_ret (pe_ix ix_list (pv 3) (c_fn (o_law_take T) T.g_law_take (hr.mono (by decide)) (pa_cons (pv 0) (pa_cons pe_int pa_nil))) (fun _ _ => rfl))))))), ?_⟩
  dsimp only [tCKw, tM1, tVals, tVar, tC, tB, tAnd, tOr, tNot, tAndV, tOrV, tNotV, tIf, tNext, tSeq, tBreak, tCont, tDrop, tRet, tRetN, tIfS, tNever, gName, gNil, gCons, gTup, gSub, tAsg, tPar, tAug, tTest, tChain, tFld, sFld, tNil, tCons, tTup, tLst, tCall, tMeth, tCB, tBM, tNoPart, tPart, tSl, tOp, tUn, rI, rI0, rU, iList, iTup, iRng1, iRng2, iStr, iEnum, iZip, iItems, iVals, tDGet, tDIn, tDNotIn, sDPut, tDGet2, tDNewK, tDNewT, tYes, fin, List.cons_append, List.nil_append, bx, cxOf, Cx.nox]
  refine ⟨_, rfl, _, _, rfl, rfl, _, rfl, ?_⟩
  rw [decide_eq_true (by omega), if_pos rfl]
  refine ⟨_, rfl, Nat.le_of_ble_eq_true rfl, fun q hq => ⟨_, rfl, ?_⟩⟩
  have nqp := hp.new hq
  obtain ⟨n, hn, hn1, hn2⟩ : ∃ n : Nat, atI [V.int 4, .int 11, .int 39] (way : Int) = some (.int (n : Int)) ∧ 1 ≤ n ∧ n ≤ 11 := by
    match way, hw with
    | 0, _ => exact ⟨4, rfl, by decide, by decide⟩
    | 1, _ => exact ⟨11, rfl, by decide, by decide⟩
    | d + 2, h => exact absurd h (by omega)
  refine ⟨q, _, _, _, rfl, rfl, sql upd_same, hn, p, n, rfl, hp.mono (Evl.Ex.new hq), by omega, by omega, fun d H1 hd e1 hp1 => ⟨_, _, rfl, rfl, ?_⟩⟩
  have := hQ (2 + d) H1 (by omega) (by omega) ((hid_mono (Evl.Ex.new hq)).trans e1) hp1
  simpa using this
theorem o_law_hearers (T : Tx K mg) : FO P w K mg base 2 (He.ga K "_law_hearers") ["_law_pot_here", "_law_length_here", "_law_many"] sp_law_hearers := def_ok T.f_law_hearers sc_law_hearers (fun _ _ _ _ _ _ us hl => match us, hl with | [_, _, _], _ => rfl)
    (fun _ _ _ _ h => by obtain ⟨_, _, _, rfl, _⟩ := h; rfl) fun cdv A outer s H vs Q E hr h => by
  have hu := hu_of hr
  obtain ⟨p, len, many, rfl, hp, hl1, hl2, hm, hQ⟩ := h
  refine ⟨_, (pss_cons (ps_set (i := 3) sc_law_hearers.nd rfl (.inl rfl) pe_dnewK)
      (pss_cons (ps_set (i := 4) sc_law_hearers.nd rfl (.inl rfl) (c_fn (o_law_take T) T.g_law_take (hr.mono (by decide)) (pa_cons (pv 0) (pa_cons pe_int pa_nil))))
      (pss_cons (ps_if (pt_cmpR op_in_seq (pv 4) (pe_tup (pa_cons pe_int (pa_cons pe_int pa_nil))) (by rfl)) (pss_one (ps_for PassesOwn.never rfl (pi_range1 (by rfl) T.z_range (pa_cons (c_fn (o_law_take T) T.g_law_take (hr.mono (by decide)) (pa_cons (pv 0) (pa_cons (pe_op op_add (pv 2) pe_int) pa_nil))) pa_nil)) (pg_name (i := 5) sc_law_hearers.nd rfl (.inl rfl))
          (pss_one (ps_dput hu (pv 3) (pe_op op_add pe_int (c_fn (o_law_take T) T.g_law_take (hr.mono (by decide)) (pa_cons (pv 0) (pa_cons (pe_op op_sub (pv 1) pe_int) pa_nil)))) (pe_op op_add pe_int (c_fn (o_law_take T) T.g_law_take (hr.mono (by decide)) (pa_cons (pv 0) (pa_cons pe_int pa_nil)))) rfl)))) pss_nil)
      (pss_cons (ps_if (PW.pt (pw_and (pt_cmpR op_eq (pv 4) pe_int (nomark _)) (pw_and1 (pt_cmpR op_gt (pv 2) pe_int (nomark _))))) (pss_one (ps_dput hu (pv 3) (pe_ix ix_list (pe_lst (pa_cons pe_int (pa_cons (pe_op op_sub (pv 1) pe_int) pa_nil))) (c_fn (o_law_take T) T.g_law_take (hr.mono (by decide)) (pa_cons (pv 0) (pa_cons pe_int pa_nil))) (fun _ _ => rfl)) (pe_op op_add pe_int (c_fn (o_law_take T) T.g_law_take (hr.mono (by decide)) (pa_cons (pv 0) (pa_cons pe_int pa_nil)))) rfl)) pss_nil)
      (pss_cons (ps_if (pt_cmpR op_eq (pv 4) pe_int (nomark _)) (pss_cons (ps_par (i := 6) (j := 7) rfl sc_law_hearers.nd rfl rfl (by decide) rfl rfl (pa_cons (pe_op op_add pe_int (c_fn (o_law_take T) T.g_law_take (hr.mono (by decide)) (pa_cons (pv 0) (pa_cons (pe_op op_sub (pv 1) pe_int) pa_nil)))) (pa_cons (pe_ix ix_list (pe_lst (pa_cons pe_int (pa_cons (pe_un un_neg pe_int) pa_nil))) (c_fn (o_law_take T) T.g_law_take (hr.mono (by decide)) (pa_cons (pv 0) (pa_cons pe_int pa_nil))) (fun _ _ => rfl)) pa_nil)) (by rfl))
        (pss_one (ps_while PassesOwn.never (PW.pt (pw_and (pt_cmpR op_lt (pe_op op_add (pe_callB call_lenD (by rfl) T.z_len (by decide +kernel) (pa_cons (pv 3) pa_nil)) pe_int) (pv 2) (nomark _)) (pw_and (pt_chain op_lt op_lt pe_int (pv 6) (pv 1)) (pw_and1 (pt_chain op_lt op_lt pe_int (pe_op op_sub (pv 6) (pv 7)) (pv 1)))))) (pss_cons (ps_asg (pe_tup (pa_cons pe_int (pa_cons pe_int pa_nil))) (pg_tup rfl (pgs_cons (pg_sub (pv 3) (pv 6) (set_dict hu)) (pgs_cons (pg_sub (pv 3) (pe_op op_sub (pv 6) (pv 7)) (set_dict hu)) pgs_nil))))
          (pss_one (ps_set (i := 6) sc_law_hearers.nd rfl (.inl rfl) (pe_op op_sub (pv 6) (pe_op op_mul pe_int (pv 7))))))))) pss_nil)
      (pss_one (ps_ret (pe_callTy call_tupleF (by rfl) T.z_tuple (by decide +kernel) (pa_cons (pe_callB (cr_sortedDI rfl) (by rfl) T.z_sorted (by decide +kernel) (pa_cons (pe_itemsV (pv 3)) pa_nil)) pa_nil))))))))), ?_⟩
  refine seq6 fun t3 t4 t5 t6 h6 h5 h4 h3 => ?_
  dsimp only [tCKw, tM1, tVals, tVar, tC, tB, tAnd, tOr, tNot, tAndV, tOrV, tNotV, tIf, tNext, tSeq, tBreak, tCont, tDrop, tRet, tRetN, tIfS, tNever, gName, gNil, gCons, gTup, gSub, tAsg, tPar, tAug, tTest, tChain, tFld, sFld, tNil, tCons, tTup, tLst, tCall, tMeth, tCB, tBM, tNoPart, tPart, tSl, tOp, tUn, rI, rI0, rU, iList, iTup, iRng1, iRng2, iStr, iEnum, iZip, iItems, iVals, tDGet, tDIn, tDNotIn, sDPut, tDGet2, tDNewK, tDNewT, tYes, fin, List.cons_append, List.nil_append, bx, cxOf, Cx.nox]
  refine fun D hD => ⟨_, rfl, p, 5, rfl, hp.mono (Evl.Ex.new hD), by decide, by decide, fun way H1 hw e1 hp1 => ?_⟩
  have nDp := hp.new hD
  have hD' : hid p H D = none := by rw [hid_ne nDp]; exact hD
  have e1' : Ex (hid p H) H1 := (hid_mono (Evl.Ex.new hD)).trans e1
  have hD1 : H1 D = some (.dK []) := e1 _ _ (by rw [hid_ne nDp, upd_same])
  have tail6 : ∀ (H' : Hp) (kvs : List (Key × V)) (a b c : Option V), Ex (hid p H) H' → Pot H' p → H' D = some (.dK kvs) → HrD len many kvs → t6 (fin Q) [some (.ref p), some (.int (len : Int)), some (.int (many : Int)), some (.ref D), some (.int (way : Int)), a, b, c] H' := fun H' kvs a b c e' hp' hD' hk => by
    subst h6
    dsimp only [tCKw, tM1, tVals, tVar, tC, tB, tAnd, tOr, tNot, tAndV, tOrV, tNotV, tIf, tNext, tSeq, tBreak, tCont, tDrop, tRet, tRetN, tIfS, tNever, gName, gNil, gCons, gTup, gSub, tAsg, tPar, tAug, tTest, tChain, tFld, sFld, tNil, tCons, tTup, tLst, tCall, tMeth, tCB, tBM, tNoPart, tPart, tSl, tOp, tUn, rI, rI0, rU, iList, iTup, iRng1, iRng2, iStr, iEnum, iZip, iItems, iVals, tDGet, tDIn, tDNotIn, sDPut, tDGet2, tDNewK, tDNewT, tYes, fin, List.cons_append, List.nil_append, bx, cxOf, Cx.nox]
    obtain ⟨prs, rfl, hpr⟩ := hk.prs
    refine ⟨_, rfl, D, _, rfl, .inl hD', fun v hv => ⟨v, D, prs, rfl, upd_same, (Evl.Ex.new hv) _ _ hD', fun H2 l ts prs' e2 hl hperm hpw hts hpd => ⟨l, _, rfl, sql hts, fun r H3 hr htf ⟨o, ho⟩ => ?_⟩⟩⟩
    have e3 : Ex H2 H3 := by rw [ho]; exact Evl.Ex.new hr
    refine hQ _ prs' H3 ⟨r, ts, rfl, htf, pr_mono hpd fun a b q => e3 _ _ q⟩ ?_ ?_ ((e'.trans ((Evl.Ex.new hv).trans e2)).trans e3) (hp'.mono (((Evl.Ex.new hv).trans e2).trans e3))
    · refine ⟨?_, fun q m => hpr.2.1 q (hperm.mem_iff.mp m)⟩
      have nd2 : (prs'.map (·.1)).Nodup := (hperm.map _).nodup_iff.mpr hpr.1
      refine (hpw.and (List.pairwise_map.mp nd2)).imp fun {x y} ⟨h1, h2⟩ => ?_
      unfold SrtO.lexB at h1
      rw [if_neg (fun z => h2 z.symm)] at h1
      have := of_decide_eq_false h1
      omega
    · rw [hperm.length_eq]
      exact hpr.2.2
  have tail5 : ∀ (H' : Hp) (kvs : List (Key × V)) (a b c : Option V), Ex (hid p H) H' → Pot H' p → H' D = some (.dK kvs) → HrD len many kvs → (way = 4 → kvs = []) → t5 (fin Q) [some (.ref p), some (.int (len : Int)), some (.int (many : Int)), some (.ref D), some (.int (way : Int)), a, b, c] H' := fun H' kvs a b c e' hp' hD' hk hz => by
    subst h5
    dsimp only [tCKw, tM1, tVals, tVar, tC, tB, tAnd, tOr, tNot, tAndV, tOrV, tNotV, tIf, tNext, tSeq, tBreak, tCont, tDrop, tRet, tRetN, tIfS, tNever, gName, gNil, gCons, gTup, gSub, tAsg, tPar, tAug, tTest, tChain, tFld, sFld, tNil, tCons, tTup, tLst, tCall, tMeth, tCB, tBM, tNoPart, tPart, tSl, tOp, tUn, rI, rI0, rU, iList, iTup, iRng1, iRng2, iStr, iEnum, iZip, iItems, iVals, tDGet, tDIn, tDNotIn, sDPut, tDGet2, tDNewK, tDNewT, tYes, fin, List.cons_append, List.nil_append, bx, cxOf, Cx.nox]
    refine ⟨_, rfl, rfl, _, rfl, ?_⟩
    by_cases c4 : way = 4
    · rw [decide_eq_true (show V.int (way : Int) = V.int 4 by rw [c4]; rfl), if_pos rfl]
      obtain rfl := hz c4
      refine ⟨_, rfl, _, rfl, _, _, rfl, rfl, p, len - 1, ?_, hp', by omega, by omega, fun d H2 hd e2 hp2 => ?_⟩
      · rw [show ((len - 1 : Nat) : Int) = (len : Int) - 1 by omega]
      refine ⟨_, _, rfl, rfl, _, rfl, Nat.le_of_ble_eq_true rfl, fun q hq => ⟨_, rfl, p, 2, rfl, hp2.mono (Evl.Ex.new hq), by decide, by decide, fun d2 H3 hd2 e3 hp3 => ?_⟩⟩
      have nqp := hp2.new hq
      obtain ⟨on, hon, hon2⟩ : ∃ on : Int, atI [V.int 1, .int (-1)] (d2 : Int) = some (.int on) ∧ (on = 1 ∨ on = -1) := by
        match d2, hd2 with
        | 0, _ => exact ⟨1, rfl, .inl rfl⟩
        | 1, _ => exact ⟨-1, rfl, .inr rfl⟩
        | d + 2, h => exact absurd h (by omega)
      have e3' : Ex (hid p H2) H3 := (hid_mono (Evl.Ex.new hq)).trans e3
      have e4 : Ex (hid p H) H3 := (ex_hid ((ex_hid e' hid_same).trans e2) hid_same).trans e3'
      have hD3 : H3 D = some (.dK []) := e3' _ _ (by rw [hid_ne nDp]; exact e2 _ _ (by rw [hid_ne nDp]; exact hD'))
      refine ⟨q, _, _, _, rfl, rfl, sql (e3 _ _ (by rw [hid_ne nqp, upd_same])), hon, _, _, rfl, ?_⟩
      refine ⟨fun m σ H' => ∃ (kvs : List (Key × V)) (pl : Int) (x5 : Option V), σ = [some (.ref p), some (.int (len : Int)), some (.int (many : Int)), some (.ref D), some (.int (way : Int)), x5, some (.int pl), some (.int on)] ∧ Ex (hid p H) H' ∧ Pot H' p ∧ H' D = some (.dK kvs) ∧ HrD len many kvs ∧ m = (if on = 1 then pl else len - pl).toNat, ⟨_, [], _, a, rfl, e4, hp3, hD3, HrD.none, rfl⟩, fun m σ H' w => ?_⟩
      obtain ⟨kvs, pl, x5, rfl, e5, hp5, hD5, hk5, rfl⟩ := w
      dsimp only [tCKw, tM1, tVals, tVar, tC, tB, tAnd, tOr, tNot, tAndV, tOrV, tNotV, tIf, tNext, tSeq, tBreak, tCont, tDrop, tRet, tRetN, tIfS, tNever, gName, gNil, gCons, gTup, gSub, tAsg, tPar, tAug, tTest, tChain, tFld, sFld, tNil, tCons, tTup, tLst, tCall, tMeth, tCB, tBM, tNoPart, tPart, tSl, tOp, tUn, rI, rI0, rU, iList, iTup, iRng1, iRng2, iStr, iEnum, iZip, iItems, iVals, tDGet, tDIn, tDNotIn, sDPut, tDGet2, tDNewK, tDNewT, tYes, fin, List.cons_append, List.nil_append, bx, cxOf, Cx.nox]
      refine ⟨_, rfl, D, _, rfl, hD5, _, _, rfl, rfl, _, rfl, _, _, rfl, rfl, _, rfl, ?_⟩
      by_cases g1 : kvs.length + 1 < many
      · rw [decide_eq_true (by omega), if_pos rfl]
        refine ⟨_, rfl, _, _, rfl, rfl, _, rfl, ?_⟩
        by_cases g2 : 0 < pl
        · rw [decide_eq_true g2, if_pos rfl]
          refine ⟨_, rfl, _, _, rfl, rfl, _, rfl, ?_⟩
          by_cases g3 : pl < len
          · rw [decide_eq_true g3, if_pos rfl]
            refine ⟨_, rfl, _, rfl, _, _, rfl, rfl, _, _, rfl, rfl, _, rfl, ?_⟩
            by_cases g4 : 0 < pl - on
            · rw [decide_eq_true g4, if_pos rfl]
              refine ⟨_, rfl, _, _, rfl, rfl, _, rfl, ?_⟩
              by_cases g5 : pl - on < len
              · rw [decide_eq_true g5, if_pos rfl]
                refine ⟨_, fun σ2 H2 z => z, Nat.le_of_ble_eq_true rfl, fun t ht => ⟨t, _, rfl, sqt upd_same, rfl, _, _, rfl, _, rfl, _, rfl, ?_⟩⟩
                have ntD : D ≠ t := fun z => by rw [z, ht] at hD5; cases hD5
                have ey : Ex H' (upd H' t (.tup [.int 1, .int 2])) := Evl.Ex.new ht
                have hDt := ey _ _ hD5
                have hpt := hp5.mono ey
                have e5t := e5.trans ey
                generalize upd H' t (.tup [.int 1, .int 2]) = Ht at hDt hpt e5t
                have hk0 : HrD len kvs.length kvs := ⟨hk5.nd, hk5.ok, Nat.le_refl _⟩
                have hk1 := hk0.put (i := pl) (j := 1) g2 g3 (by omega) (by omega)
                have hk2 := hk1.put (i := pl - on) (j := 2) g4 g5 (by omega) (by omega)
                refine ⟨D, _, rfl, DPut.k (k := .inl pl) hDt (Evl.sz_lt (by omega)), _, _, rfl, _, rfl, _, rfl, _, rfl, _, _, rfl, rfl, ⟨D, _, rfl, DPut.k (k := .inl (pl - on)) upd_same (Evl.sz_lt (by have := hk1.hi; omega)), rfl, _, rfl, _, rfl, _, _, rfl, rfl, .inl ⟨by decide, by decide⟩, _, _, rfl, rfl, _, ?_, _, _, x5, rfl, (e5t.mut ‹hid p H D = none›).mut ‹hid p H D = none›, (hpt.put nDp).put nDp, upd_same, hk2.mono (by omega), rfl⟩⟩
                rcases hon2 with rfl | rfl
                · rw [if_pos rfl, if_pos rfl]
                  omega
                · rw [if_neg (by decide), if_neg (by decide)]
                  omega
              · rw [decide_eq_false g5]
                exact tail6 _ _ _ _ _ e5 hp5 hD5 hk5
            · rw [decide_eq_false g4]
              exact ⟨_, rfl, tail6 _ _ _ _ _ e5 hp5 hD5 hk5⟩
          · rw [decide_eq_false g3]
            exact tail6 _ _ _ _ _ e5 hp5 hD5 hk5
        · rw [decide_eq_false g2]
          exact ⟨_, rfl, tail6 _ _ _ _ _ e5 hp5 hD5 hk5⟩
      · rw [decide_eq_false (by omega)]
        exact tail6 _ _ _ _ _ e5 hp5 hD5 hk5
    · rw [decide_eq_false (show ¬ V.int (way : Int) = V.int 4 by intro z; injection z; omega)]
      exact tail6 _ _ _ _ _ e' hp' hD' hk
  have tail4 : ∀ (H' : Hp) (kvs : List (Key × V)) (a b c : Option V), Ex (hid p H) H' → Pot H' p → H' D = some (.dK kvs) → HrD len many kvs → (way = 3 ∨ way = 4 → kvs = []) → t4 (fin Q) [some (.ref p), some (.int (len : Int)), some (.int (many : Int)), some (.ref D), some (.int (way : Int)), a, b, c] H' := fun H' kvs a b c e' hp' hD' hk hz => by
    subst h4
    dsimp only [tCKw, tM1, tVals, tVar, tC, tB, tAnd, tOr, tNot, tAndV, tOrV, tNotV, tIf, tNext, tSeq, tBreak, tCont, tDrop, tRet, tRetN, tIfS, tNever, gName, gNil, gCons, gTup, gSub, tAsg, tPar, tAug, tTest, tChain, tFld, sFld, tNil, tCons, tTup, tLst, tCall, tMeth, tCB, tBM, tNoPart, tPart, tSl, tOp, tUn, rI, rI0, rU, iList, iTup, iRng1, iRng2, iStr, iEnum, iZip, iItems, iVals, tDGet, tDIn, tDNotIn, sDPut, tDGet2, tDNewK, tDNewT, tYes, fin, List.cons_append, List.nil_append, bx, cxOf, Cx.nox]
    refine ⟨_, rfl, rfl, _, rfl, ?_⟩
    by_cases c4 : way = 3
    · rw [decide_eq_true (show V.int (way : Int) = V.int 3 by rw [c4]; rfl), if_pos rfl]
      refine ⟨_, rfl, _, _, rfl, rfl, _, rfl, ?_⟩
      by_cases c5 : 0 < many
      · rw [decide_eq_true (by omega), if_pos rfl]
        obtain rfl := hz (.inl c4)
        refine ⟨_, rfl, p, 2, rfl, hp', by decide, by decide, fun d H2 hd e2 hp2 => ⟨_, _, rfl, rfl, ?_⟩⟩
        refine ⟨_, rfl, _, rfl, _, _, rfl, rfl, Nat.le_of_ble_eq_true rfl, fun q hq => ⟨_, rfl, p, 2, rfl, hp2.mono (Evl.Ex.new hq), by decide, by decide, fun d2 H3 hd2 e3 hp3 => ?_⟩⟩
        have nqp := hp2.new hq
        obtain ⟨on, hon, hon1, hon2⟩ : ∃ on : Int, atI [V.int 1, .int ((len : Int) - 1)] (d2 : Int) = some (.int on) ∧ 0 < on ∧ on < len := by
          match d2, hd2 with
          | 0, _ => exact ⟨1, rfl, by omega, by omega⟩
          | 1, _ => exact ⟨(len : Int) - 1, rfl, by omega, by omega⟩
          | d + 2, h => exact absurd h (by omega)
        have e3' : Ex (hid p H2) H3 := (hid_mono (Evl.Ex.new hq)).trans e3
        have e4 : Ex (hid p H) H3 := (ex_hid ((ex_hid e' hid_same).trans e2) hid_same).trans e3'
        have hD3 : H3 D = some (.dK []) := e3' _ _ (by rw [hid_ne nDp]; exact e2 _ _ (by rw [hid_ne nDp]; exact hD'))
        refine ⟨q, _, _, _, rfl, rfl, sql (e3 _ _ (by rw [hid_ne nqp, upd_same])), hon, D, _, rfl, DPut.k (k := .inl on) hD3 (by decide), ?_⟩
        exact tail5 _ _ _ _ _ (e4.mut ‹hid p H D = none›) (hp3.put nDp) upd_same (((HrD.none (n := 0)).put hon1 hon2 (by omega) (by omega)).mono (by omega)) fun z => absurd (c4.symm.trans z) (by decide)
      · rw [decide_eq_false (by omega)]
        exact tail5 _ _ _ _ _ e' hp' hD' hk fun z => hz (.inr z)
    · rw [decide_eq_false (show ¬ V.int (way : Int) = V.int 3 by intro z; injection z; omega)]
      exact tail5 _ _ _ _ _ e' hp' hD' hk fun z => hz (.inr z)
  subst h3
  dsimp only [tCKw, tM1, tVals, tVar, tC, tB, tAnd, tOr, tNot, tAndV, tOrV, tNotV, tIf, tNext, tSeq, tBreak, tCont, tDrop, tRet, tRetN, tIfS, tNever, gName, gNil, gCons, gTup, gSub, tAsg, tPar, tAug, tTest, tChain, tFld, sFld, tNil, tCons, tTup, tLst, tCall, tMeth, tCB, tBM, tNoPart, tPart, tSl, tOp, tUn, rI, rI0, rU, iList, iTup, iRng1, iRng2, iStr, iEnum, iZip, iItems, iVals, tDGet, tDIn, tDNotIn, sDPut, tDGet2, tDNewK, tDNewT, tYes, fin, List.cons_append, List.nil_append, bx, cxOf, Cx.nox]
  refine ⟨_, rfl, Nat.le_of_ble_eq_true rfl, fun t ht => ⟨t, _, rfl, .inr (sqt upd_same), rfl, rfl, _, rfl, ?_⟩⟩
  have e2 : Ex H1 (upd H1 t (.tup [.int 1, .int 2])) := Evl.Ex.new ht
  generalize upd H1 t (.tup [.int 1, .int 2]) = H2 at e2
  have e2' := e1'.trans e2
  have hp2 := hp1.mono e2
  have hD2 := e2 _ _ hD1
  by_cases c12 : way = 1 ∨ way = 2
  · have ein : (if false = true then !inV (V.int (way : Int)) [V.int 1, V.int 2] else inV (V.int (way : Int)) [V.int 1, V.int 2]) = true := by
      rcases c12 with rfl | rfl <;> rfl
    rw [ein, if_pos rfl]
    refine ⟨_, rfl, _, rfl, _, _, rfl, rfl, p, many + 1, rfl, hp2, by omega, by omega, fun n H3 hn e3 hp3 => ⟨_, rfl, by omega, by omega, ?_⟩⟩
    rw [Int.toNat_natCast]
    refine for_it (walk_range (lo := 0) (n := n)) (fun i σ H' => ∃ (kvs : List (Key × V)) (x5 : Option V), σ = [some (.ref p), some (.int (len : Int)), some (.int (many : Int)), some (.ref D), some (.int (way : Int)), x5, none, none] ∧ Ex (hid p H) H' ∧ Pot H' p ∧ H' D = some (.dK kvs) ∧ HrD len i kvs) ?_ (fun _ _ _ _ _ => True.intro) (fun i x σ H' H'' hi w Y => ?_) fun σ H' w => ?_
    · exact ⟨[], none, rfl, (ex_hid e2' hid_same).trans e3, hp3, e3 _ _ (by rw [hid_ne nDp]; exact hD2), HrD.none⟩
    · obtain ⟨kvs, x5, rfl, e5, hp5, hD5, hk5⟩ := w
      obtain ⟨rfl, rfl⟩ := Y
      dsimp only [tCKw, tM1, tVals, tVar, tC, tB, tAnd, tOr, tNot, tAndV, tOrV, tNotV, tIf, tNext, tSeq, tBreak, tCont, tDrop, tRet, tRetN, tIfS, tNever, gName, gNil, gCons, gTup, gSub, tAsg, tPar, tAug, tTest, tChain, tFld, sFld, tNil, tCons, tTup, tLst, tCall, tMeth, tCB, tBM, tNoPart, tPart, tSl, tOp, tUn, rI, rI0, rU, iList, iTup, iRng1, iRng2, iStr, iEnum, iZip, iItems, iVals, tDGet, tDIn, tDNotIn, sDPut, tDGet2, tDNewK, tDNewT, tYes, fin, List.cons_append, List.nil_append, bx, cxOf, Cx.nox]
      refine ⟨_, rfl, p, 2, rfl, hp5, by decide, by decide, fun d H6 hd e6 hp6 => ⟨_, _, rfl, rfl, _, rfl, _, rfl, _, rfl, _, _, rfl, rfl, p, len - 1, ?_, hp6, by omega, by omega, fun d3 H7 hd3 e7 hp7 => ?_⟩⟩
      · rw [show ((len - 1 : Nat) : Int) = (len : Int) - 1 by omega]
      have hD7 : H7 D = some (.dK kvs) := e7 _ _ (by rw [hid_ne nDp]; exact e6 _ _ (by rw [hid_ne nDp]; exact hD5))
      have e7' : Ex (hid p H) H7 := (ex_hid ((ex_hid e5 hid_same).trans e6) hid_same).trans e7
      refine ⟨_, _, rfl, rfl, D, _, rfl, DPut.k (k := .inl (1 + (d3 : Int))) hD7 (Evl.sz_lt (by have := hk5.hi; omega)), ?_⟩
      exact ⟨_, _, rfl, e7'.mut hD', hp7.put nDp, upd_same, hk5.put (by omega) (by omega) (by omega) (by omega)⟩
    · obtain ⟨kvs, x5, rfl, e5, hp5, hD5, hk5⟩ := w
      exact tail4 _ _ _ _ _ e5 hp5 hD5 (hk5.mono (by omega)) fun z => by omega
  · have ein : (if false = true then !inV (V.int (way : Int)) [V.int 1, V.int 2] else inV (V.int (way : Int)) [V.int 1, V.int 2]) = false := by
      match way, hw, c12 with
      | 0, _, _ => rfl
      | 1, _, h => exact absurd (.inl rfl) h
      | 2, _, h => exact absurd (.inr rfl) h
      | 3, _, _ => rfl
      | 4, _, _ => rfl
      | w + 5, h, _ => exact absurd h (by omega)
    rw [ein]
    exact tail4 _ _ _ _ _ e2' hp2 hD2 HrD.none fun _ => rfl
end
end K33


set_option Elab.async false
set_option linter.all false
set_option maxRecDepth 100000
set_option maxHeartbeats 8000000
namespace K33
open PySem PySem.Spec PyProof.Rows L2 K33M
def sp_law_persons (K : PySem.W.Frag) : Sp := fun vs H Q _ => ∃ (p : Addr) (n : Nat), vs = [.ref p, .int (n : Int)] ∧ Pot H p ∧ 1 ≤ n ∧ n ≤ 8 ∧ ∀ l as ps H', H' l = some (.lst (as.map V.ref)) → H l = none → PsAt H' as ps → PsOk ps → ps.length = n → Ex (hid p H) H' → Pot H' p → Q (.ref l) H'
theorem ps_of {H : Hp} : ∀ {ns : List Str} {ys : List V}, Paired (fun (x : Str) y => ∃ (t : Addr) (st : Int), y = .ref t ∧ H t = some (.tup [.str x, .int st]) ∧ 0 ≤ st ∧ st ≤ 2) ns ys → ∃ (as : List Addr) (ps : List (Str × Int)), ys = as.map V.ref ∧ PsAt H as ps ∧ ps.map (·.1) = ns ∧ ∀ q ∈ ps, 0 ≤ q.2 ∧ q.2 ≤ 2
  | _, _, .nil => ⟨[], [], rfl, .nil, rfl, fun _ h => (nomatch h)⟩
  | _, _, .cons h t => by
    obtain ⟨as, ps, rfl, h2, rfl, h4⟩ := ps_of t
    obtain ⟨a, st, rfl, h5, h6⟩ := h
    exact ⟨a :: as, (_, st) :: ps, rfl, .cons h5 h2, rfl, fun q m => by
      rcases List.mem_cons.mp m with rfl | m
      · exact h6
      · exact h4 q m⟩
section
variable {P : Program} {w : World} {K : PySem.W.Frag} {mg : Str → Option Value} {base : Heap}
theorem o_law_persons (T : Tx K mg) : FO P w K mg base 3 (He.ga K "_law_persons") ["_law_pot_here", "_law_many"] (sp_law_persons K) := def_ok T.f_law_persons sc_law_persons (fun _ _ _ _ _ _ us hl => match us, hl with | [_, _], _ => rfl)
    (fun _ _ _ _ h => by obtain ⟨_, _, rfl, _⟩ := h; rfl) fun cdv A outer s H vs Q E hr h => by
  have hu := hu_of hr
  obtain ⟨p, n, rfl, hp, hn1, hn2, hQ⟩ := h
  refine ⟨_, (pss_cons (ps_set (i := 2) sc_law_persons.nd rfl (.inl rfl) (pe_lst pa_nil))
      (pss_cons (ps_for PassesOwn.never rfl (pi_range1 (by rfl) T.z_range (pa_cons (pv 1) pa_nil)) (pg_name (i := 3) sc_law_persons.nd rfl (.inl rfl))
        (pss_one (ps_expr (pe_bm PySem.F.plainAttrs_list PySem.F.slot_list_append PySem.F.type_list_append mt_append (pv 2) (pa_cons (c_fn (o_law_name T) T.g_law_name (hr.mono (by decide)) (pa_cons (pv 0) (pa_cons (pv 2) pa_nil))) pa_nil)))))
      (pss_one (ps_ret (pe_lc (own := [("_law_name_here", 4)]) rfl sc_law_persons.nd (pi_list (pv 2)) (blkOk_by (by rfl)) (fun _ _ _ _ _ => (pg_name (i := 4) sc_law_persons.nd rfl (.inl rfl))) (fun _ _ _ _ _ => pts_nil) (fun _ _ _ _ _ => (pe_tup (pa_cons (pv 4) (pa_cons (pe_ix (ix_listK (K := K) rfl) (pe_lst (pa_cons pe_int (pa_cons pe_int (pa_cons pe_int (pa_cons pe_int pa_nil))))) (c_fn (o_law_take T) T.g_law_take (hr.mono (by decide)) (pa_cons (pv 0) (pa_cons pe_int pa_nil))) (fun _ _ => rfl)) pa_nil))))))))), ?_⟩
  refine seq2 fun tl htl => ?_
  dsimp only [tCKw, tM1, tVals, tVar, tC, tB, tAnd, tOr, tNot, tAndV, tOrV, tNotV, tIf, tNext, tSeq, tBreak, tCont, tDrop, tRet, tRetN, tIfS, tNever, gName, gNil, gCons, gTup, gSub, tAsg, tPar, tAug, tTest, tChain, tFld, sFld, tNil, tCons, tTup, tLst, tCall, tMeth, tCB, tBM, tNoPart, tPart, tSl, tOp, tUn, rI, rI0, rU, iList, iTup, iRng1, iRng2, iStr, iEnum, iZip, iItems, iVals, tDGet, tDIn, tDNotIn, sDPut, tDGet2, tDNewK, tDNewT, tYes, fin, List.cons_append, List.nil_append, bx, cxOf, Cx.nox]
  refine ⟨Nat.le_of_ble_eq_true rfl, fun D hD => ?_⟩
  have nDp := hp.new hD
  have hD' : hid p H D = none := by rw [hid_ne nDp]; exact hD
  have tail : ∀ (H' : Hp) (ns : List Str) (a b : Option V), Ex (hid p H) H' → Pot H' p → H' D = some (.lst (ns.map .str)) → (∀ x ∈ ns, NameOk x) → ns.Nodup → ns.length = n → tl (fin Q) [some (.ref p), some (.int (n : Int)), some (.ref D), a, b] H' := fun H' ns a b e' hp' hD' hok hnd hl => by
    subst htl
    dsimp only [tRet]
    refine lc_te fun te tt hte htt => ?_
    dsimp only [tCKw, tM1, tVals, tVar, tC, tB, tAnd, tOr, tNot, tAndV, tOrV, tNotV, tIf, tNext, tSeq, tBreak, tCont, tDrop, tRet, tRetN, tIfS, tNever, gName, gNil, gCons, gTup, gSub, tAsg, tPar, tAug, tTest, tChain, tFld, sFld, tNil, tCons, tTup, tLst, tCall, tMeth, tCB, tBM, tNoPart, tPart, tSl, tOp, tUn, rI, rI0, rU, iList, iTup, iRng1, iRng2, iStr, iEnum, iZip, iItems, iVals, tDGet, tDIn, tDNotIn, sDPut, tDGet2, tDNewK, tDNewT, tYes, fin, List.cons_append, List.nil_append, bx, cxOf, Cx.nox]
    refine ⟨_, rfl, D, rfl, ⟨_, sql hD'⟩, lc_pot (g := gName 4) (walk_list (a := D) (xs := ns.map .str)) (fun _ => true) (fun i H y => ∃ (t : Addr) (st : Int), y = .ref t ∧ H t = some (.tup [.str (ns.getD i ""), .int st]) ∧ 0 ≤ st ∧ st ≤ 2) (by rw [List.length_map]; omega) hp' (fun H e => sql (e _ _ (by rw [hid_ne nDp]; exact hD'))) (fun i y H H' e ⟨t, st, h1, h2, h3⟩ => ⟨t, st, h1, e _ _ h2 (fun _ z => nomatch z), h3⟩) gm_name (fun i y H2 H' hi e2 hp2 Y => ?_) fun D2 H2 ys hD2 e2 hp2 hys pk => ?_⟩
    · obtain ⟨rfl, hy⟩ := Y
      rw [List.getElem?_map] at hy
      obtain ⟨c, hc, rfl⟩ := Option.map_eq_some_iff.mp hy
      have ec : ns.getD i "" = c := by rw [List.getD_eq_getElem?_getD, hc]; rfl
      rw [ec]
      refine ⟨rfl, fun Qy Qn k kn => ?_⟩
      subst hte htt
      dsimp only [tCKw, tM1, tVals, tVar, tC, tB, tAnd, tOr, tNot, tAndV, tOrV, tNotV, tIf, tNext, tSeq, tBreak, tCont, tDrop, tRet, tRetN, tIfS, tNever, gName, gNil, gCons, gTup, gSub, tAsg, tPar, tAug, tTest, tChain, tFld, sFld, tNil, tCons, tTup, tLst, tCall, tMeth, tCB, tBM, tNoPart, tPart, tSl, tOp, tUn, rI, rI0, rU, iList, iTup, iRng1, iRng2, iStr, iEnum, iZip, iItems, iVals, tDGet, tDIn, tDNotIn, sDPut, tDGet2, tDNewK, tDNewT, tYes, fin, List.cons_append, List.nil_append, bx, cxOf, Cx.nox]
      refine ⟨_, rfl, Nat.le_of_ble_eq_true rfl, fun q hq => ⟨_, rfl, p, 4, rfl, hp2.mono (Evl.Ex.new hq), by decide, by decide, fun d2 H3 hd2 e3 hp3 => ?_⟩⟩
      have nqp := hp2.new hq
      obtain ⟨on, hon, hon2⟩ : ∃ on : Int, atI [V.int 0, .int 0, .int 1, .int 2] (d2 : Int) = some (.int on) ∧ 0 ≤ on ∧ on ≤ 2 := by
        match d2, hd2 with
        | 0, _ => exact ⟨0, rfl, by decide⟩
        | 1, _ => exact ⟨0, rfl, by decide⟩
        | 2, _ => exact ⟨1, rfl, by decide⟩
        | 3, _ => exact ⟨2, rfl, by decide⟩
        | d + 4, h => exact absurd h (by omega)
      have e3' : Ex (hid p H') H3 := (hid_mono (Evl.Ex.new hq)).trans e3
      refine ⟨q, _, _, _, rfl, rfl, sql (e3 _ _ (by rw [hid_ne nqp, upd_same])), hon, Nat.le_of_ble_eq_true rfl, fun t ht => ?_⟩
      exact k rfl _ _ (e3'.trans (Evl.Ex.new ht)) (hp3.mono (Evl.Ex.new ht)) ⟨t, on, rfl, upd_same, hon2⟩
    rw [List.length_map] at pk
    obtain ⟨as, ps, rfl, h2, h3, h4⟩ := ps_of (pr_range (l := ns) (S := fun (x : Str) y => ∃ (t : Addr) (st : Int), y = .ref t ∧ H2 t = some (.tup [.str x, .int st]) ∧ 0 ≤ st ∧ st ≤ 2) pk.all fun i a b h1 h2 => by
      rw [List.getD_eq_getElem?_getD, h1] at h2
      exact h2)
    have el : ps.length = n := by
      rw [← hl, ← h3, List.length_map]
    have hDn : H D2 = none := by
      cases e : H D2 with
      | none => rfl
      | some o =>
        have : D2 ≠ p := hp'.new hD2
        rw [e' _ _ (by rw [hid_ne this]; exact e)] at hD2
        cases hD2
    exact hQ D2 as ps H2 hys hDn h2 ⟨by omega, by omega, by rw [h3]; exact hnd, fun q m => hok _ (by rw [← h3]; exact List.mem_map_of_mem m), h4⟩ el ((ex_hid e' hid_same).trans e2) hp2
  refine ⟨_, rfl, _, rfl, by omega, by omega, ?_⟩
  rw [Int.toNat_natCast]
  refine for_it (walk_range (lo := 0) (n := n)) (fun i σ H' => ∃ (ns : List Str) (x5 : Option V), σ = [some (.ref p), some (.int (n : Int)), some (.ref D), x5, none] ∧ Ex (hid p H) H' ∧ Pot H' p ∧ H' D = some (.lst (ns.map .str)) ∧ (∀ x ∈ ns, NameOk x) ∧ ns.Nodup ∧ ns.length = i) ?_ (fun _ _ _ _ _ => True.intro) (fun i x σ H' H'' hi w Y => ?_) fun σ H' w => ?_
  · exact ⟨[], none, rfl, hid_ex.trans (Evl.Ex.new hD), hp.mono (Evl.Ex.new hD), upd_same, fun _ h => (nomatch h), List.nodup_nil, rfl⟩
  · obtain ⟨ns, x5, rfl, e5, hp5, hD5, hok, hnd, hl⟩ := w
    obtain ⟨rfl, rfl⟩ := Y
    dsimp only [tCKw, tM1, tVals, tVar, tC, tB, tAnd, tOr, tNot, tAndV, tOrV, tNotV, tIf, tNext, tSeq, tBreak, tCont, tDrop, tRet, tRetN, tIfS, tNever, gName, gNil, gCons, gTup, gSub, tAsg, tPar, tAug, tTest, tChain, tFld, sFld, tNil, tCons, tTup, tLst, tCall, tMeth, tCB, tBM, tNoPart, tPart, tSl, tOp, tUn, rI, rI0, rU, iList, iTup, iRng1, iRng2, iStr, iEnum, iZip, iItems, iVals, tDGet, tDIn, tDNotIn, sDPut, tDGet2, tDNewK, tDNewT, tYes, fin, List.cons_append, List.nil_append, bx, cxOf, Cx.nox]
    refine ⟨_, rfl, .inl ⟨rfl, _, sql hD5⟩, _, rfl, _, rfl, p, D, ns, rfl, hp5, hD5, nDp, hok, by omega, fun x H6 hx hn e6 hp6 => ?_⟩
    have hD6 : H6 D = some (.lst (ns.map .str)) := e6 _ _ (by rw [hid_ne nDp]; exact hD5)
    have e6' : Ex (hid p H) H6 := (ex_hid e5 hid_same).trans e6
    refine ⟨D, _, _, rfl, rfl, hD6, Evl.sz_lt (by rw [List.length_map]; omega), ns ++ [x], _, rfl, e6'.mut hD', hp6.put nDp, by rw [upd_same, List.map_append]; rfl, fun y m => ?_, ?_, by rw [List.length_append, hl]; rfl⟩
    · rcases List.mem_append.mp m with m | m
      · exact hok y m
      · rw [List.mem_singleton.mp m]
        exact hx
    · refine List.nodup_append.mpr ⟨hnd, List.nodup_cons.mpr ⟨fun h => (nomatch h), List.nodup_nil⟩, fun a ha b hb z => hn ?_⟩
      rw [← List.mem_singleton.mp hb, ← z]
      exact ha
  · obtain ⟨ns, x5, rfl, e5, hp5, hD5, hok, hnd, hl⟩ := w
    exact tail _ _ _ _ e5 hp5 hD5 hok hnd hl
end
end K33


set_option Elab.async false
set_option linter.all false
set_option maxRecDepth 100000
set_option maxHeartbeats 8000000
namespace K33
open PySem PySem.Spec PyProof.Rows L2 K33M
def sp_law_tie (K : PySem.W.Frag) : Sp := fun vs H Q _ => ∃ (p lp lt : Addr) (as : List Addr) (ps : List (Str × Int)) (ns : List Str) (way left : Nat), vs = [.ref p, .ref lp, .ref lt, .int (way : Int), .int (left : Int)] ∧ Pot H p ∧ lp ≠ p ∧ lt ≠ p ∧ H lp = some (.lst (as.map V.ref)) ∧ PsAt H as ps ∧ PsOk ps ∧ 2 ≤ ps.length ∧ H lt = some (.lst (ns.map .str)) ∧ (∀ x ∈ ns, NameOk x) ∧ ns.length < 26 ∧ way < 2 ∧ left ≤ 4 ∧
  ∀ a t H', Tie5 H' a t → NameOk t.nm → t.nm ∉ ns → t.one ∈ ps.map (·.1) → t.other ∈ ps.map (·.1) → t.one ≠ t.other → 2 ≤ t.len → t.len ≤ 12 → HsOk t.len t.hs → t.hs.length ≤ left → Ex (hid p H) H' → Pot H' p → Q (.ref a) H'
section
variable {P : Program} {w : World} {K : PySem.W.Frag} {mg : Str → Option Value} {base : Heap}
theorem o_law_tie (T : Tx K mg) : FO P w K mg base 3 (He.ga K "_law_tie") ["_law_pot_here", "_law_persons_here", "_law_taken", "_law_way", "_law_left"] (sp_law_tie K) := def_ok T.f_law_tie sc_law_tie (fun _ _ _ _ _ _ us hl => match us, hl with | [_, _, _, _, _], _ => rfl)
    (fun _ _ _ _ h => by obtain ⟨_, _, _, _, _, _, _, _, rfl, _⟩ := h; rfl) fun cdv A outer s H vs Q E hr h => by
  have hu := hu_of hr
  obtain ⟨p, lp, lt, as, ps, ns, way, left, rfl, hp, nlp, nlt, hlp, hps, pok, h2, hlt, hok, hns, hw, hlf, hQ⟩ := h
  refine ⟨_, (pss_cons (ps_set (i := 5) sc_law_tie.nd rfl (.inl rfl) (c_fn (o_law_take T) T.g_law_take (hr.mono (by decide)) (pa_cons (pv 0) (pa_cons (pe_callB call_len_seq (by rfl) T.z_len (by decide +kernel) (pa_cons (pv 1) pa_nil)) pa_nil))))
      (pss_cons (ps_set (i := 6) sc_law_tie.nd rfl (.inl rfl) (pe_op op_mod (pe_op op_add (pe_op op_add (pv 5) pe_int) (c_fn (o_law_take T) T.g_law_take (hr.mono (by decide)) (pa_cons (pv 0) (pa_cons (pe_op op_sub (pe_callB call_len_seq (by rfl) T.z_len (by decide +kernel) (pa_cons (pv 1) pa_nil)) pe_int) pa_nil)))) (pe_callB call_len_seq (by rfl) T.z_len (by decide +kernel) (pa_cons (pv 1) pa_nil))))
      (pss_cons (ps_set (i := 7) sc_law_tie.nd rfl (.inl rfl) (c_fn (o_law_length T) T.g_law_length (hr.mono (by decide)) (pa_cons (pv 0) (pa_cons (pv 3) pa_nil))))
      (pss_one (ps_ret (pe_tup (pa_cons (c_fn (o_law_name T) T.g_law_name (hr.mono (by decide)) (pa_cons (pv 0) (pa_cons (pv 2) pa_nil))) (pa_cons (pe_ix ix_tup (pe_ix ix_list (pv 1) (pv 5) (fun _ _ => rfl)) pe_int (fun _ _ => rfl)) (pa_cons (pe_ix ix_tup (pe_ix ix_list (pv 1) (pv 6) (fun _ _ => rfl)) pe_int (fun _ _ => rfl)) (pa_cons (pv 7) (pa_cons (c_fn (o_law_hearers T) T.g_law_hearers (hr.mono (by decide)) (pa_cons (pv 0) (pa_cons (pv 7) (pa_cons (pv 4) pa_nil)))) pa_nil))))))))))), ?_⟩
  dsimp only [tCKw, tM1, tVals, tVar, tC, tB, tAnd, tOr, tNot, tAndV, tOrV, tNotV, tIf, tNext, tSeq, tBreak, tCont, tDrop, tRet, tRetN, tIfS, tNever, gName, gNil, gCons, gTup, gSub, tAsg, tPar, tAug, tTest, tChain, tFld, sFld, tNil, tCons, tTup, tLst, tCall, tMeth, tCB, tBM, tNoPart, tPart, tSl, tOp, tUn, rI, rI0, rU, iList, iTup, iRng1, iRng2, iStr, iEnum, iZip, iItems, iVals, tDGet, tDIn, tDNotIn, sDPut, tDGet2, tDNewK, tDNewT, tYes, fin, List.cons_append, List.nil_append, bx, cxOf, Cx.nox]
  have elen : (as.map V.ref).length = ps.length := by rw [List.length_map]; exact pr_len hps
  have h8 := pok.hi
  refine ⟨_, rfl, _, rfl, lp, _, rfl, .inl (sql hlp), p, ps.length, by rw [← elen], hp, by omega, by omega, fun one H1 h1 e1 hp1 => ?_⟩
  have hlpV : ∀ {H' : Hp}, Ex (hid p H) H' → H' lp = some (.lst (as.map V.ref)) := fun e => e _ _ (by rw [hid_ne nlp]; exact hlp)
  have hltV : ∀ {H' : Hp}, Ex (hid p H) H' → H' lt = some (.lst (ns.map .str)) := fun e => e _ _ (by rw [hid_ne nlt]; exact hlt)
  have hpsV : ∀ {H' : Hp}, Ex (hid p H) H' → PsAt H' as ps := fun e => pr_mono hps fun a q h => e _ _ (by
    rw [hid_ne fun z => ?_]
    · exact h
    · obtain ⟨x, y, h1, _⟩ := hp
      rw [z, h1] at h
      cases h)
  refine ⟨_, rfl, _, _, rfl, rfl, _, rfl, _, rfl, lp, _, rfl, .inl (sql (hlpV e1)), _, _, rfl, rfl, p, ps.length - 1, ?_, hp1, by omega, by omega, fun oth H2 ho e2 hp2 => ?_⟩
  · rw [elen]
    rw [show ((ps.length - 1 : Nat) : Int) = (ps.length : Int) - 1 by omega]
  have e2' := (ex_hid e1 hid_same).trans e2
  refine ⟨_, _, rfl, rfl, _, rfl, lp, _, rfl, .inl (sql (hlpV e2')), _, _, rfl, rfl, by rw [elen]; omega, ?_⟩
  rw [elen]
  have em : ((one : Int) + 1 + (oth : Int)) % (ps.length : Int) = (((one + 1 + oth) % ps.length : Nat) : Int) := by rw [Int.natCast_emod, Int.natCast_add, Int.natCast_add]; rfl
  rw [em]
  have hlt2 : (one + 1 + oth) % ps.length < ps.length := Nat.mod_lt _ (by omega)
  have hne2 : (one + 1 + oth) % ps.length ≠ one := fun z => by
    by_cases c : one + 1 + oth < ps.length
    · rw [Nat.mod_eq_of_lt c] at z
      omega
    · rw [Nat.mod_eq_sub_mod (by omega), Nat.mod_eq_of_lt (by omega)] at z
      omega
  generalize (one + 1 + oth) % ps.length = two at hlt2 hne2 ⊢
  refine ⟨_, rfl, _, rfl, p, way, rfl, hp2, hw, fun l H3 hl1 hl2 e3 hp3 => ?_⟩
  have e3' := (ex_hid e2' hid_same).trans e3
  refine ⟨_, rfl, _, rfl, p, lt, ns, rfl, hp3, hltV e3', nlt, hok, hns, fun x H4 hx hxn e4 hp4 => ?_⟩
  have e4' := (ex_hid e3' hid_same).trans e4
  obtain ⟨q1, hq1⟩ : ∃ q, ps[one]? = some q := ⟨_, List.getElem?_eq_getElem h1⟩
  obtain ⟨q2, hq2⟩ : ∃ q, ps[two]? = some q := ⟨_, List.getElem?_eq_getElem hlt2⟩
  obtain ⟨a1, ha1, hb1⟩ := pr_back (hpsV e4') hq1
  obtain ⟨a2, ha2, hb2⟩ := pr_back (hpsV e4') hq2
  refine ⟨_, rfl, _, rfl, ⟨lp, _, _, _, rfl, rfl, sql (hlpV e4'), atI_nat (by rw [List.getElem?_map, ha1]; rfl), ?_⟩⟩
  refine ⟨a1, _, _, _, rfl, rfl, sqt hb1, atI_nat (j := 0) rfl, _, rfl, _, rfl, ⟨lp, _, _, _, rfl, rfl, sql (hlpV e4'), atI_nat (by rw [List.getElem?_map, ha2]; rfl), ?_⟩⟩
  refine ⟨a2, _, _, _, rfl, rfl, sqt hb2, atI_nat (j := 0) rfl, _, rfl, _, rfl, _, rfl, _, rfl, p, l, left, rfl, hp4, hl1, hl2, hlf, fun v hs H5 hhs hho hhl e5 hp5 => ?_⟩
  have e5' := (ex_hid e4' hid_same).trans e5
  refine ⟨Nat.le_of_ble_eq_true rfl, fun a ha => ?_⟩
  have eN : Ex H5 (upd H5 a (.tup [.str x, .str q1.1, .str q2.1, .int (l : Int), v])) := Evl.Ex.new ha
  refine hQ a ⟨x, q1.1, q2.1, l, hs⟩ _ ⟨v, upd_same, hhs.mono eN⟩ hx hxn (List.mem_map_of_mem (List.mem_of_getElem? hq1)) (List.mem_map_of_mem (List.mem_of_getElem? hq2)) (fun z => hne2 ?_) (by show (2 : Int) ≤ (l : Int); omega) (by show (l : Int) ≤ 12; omega) hho hhl (e5'.trans eN) (hp5.mono eN)
  have z : q1.1 = q2.1 := z
  refine (List.getElem?_inj (l := ps.map (·.1)) (by rw [List.length_map]; exact hlt2) pok.nd).mp ?_
  rw [List.getElem?_map, List.getElem?_map, hq1, hq2]
  show some q2.1 = some q1.1
  rw [z]
end
end K33


set_option Elab.async false
set_option linter.all false
set_option maxRecDepth 100000
set_option maxHeartbeats 4000000
/-! All spots of a web, as the law lays them; the plain rule over them. -/
namespace K33
open PySem PySem.Spec PyProof.Rows L2 K33M
def inT (t : Tie) : List Spot := (List.range (t.len - 1).toNat).map fun (i : Nat) => Spot.h t.nm (1 + (i : Int))
def allT (ts : List Tie) : List Spot := ts.flatMap inT
def allS (W : Web) : List Spot := W.ps.map (fun q => Spot.p q.1) ++ allT W.ts
theorem inT_mem {t : Tie} {sp : Spot} : sp ∈ inT t ↔ ∃ i : Int, sp = .h t.nm i ∧ 0 < i ∧ i < t.len := by
  unfold inT
  constructor
  · intro h
    obtain ⟨i, hi, rfl⟩ := List.mem_map.mp h
    have := List.mem_range.mp hi
    exact ⟨_, rfl, by omega, by omega⟩
  · rintro ⟨i, rfl, h1, h2⟩
    refine List.mem_map.mpr ⟨(i - 1).toNat, List.mem_range.mpr (by omega), ?_⟩
    congr 1
    omega
theorem allT_mem {ts : List Tie} {sp : Spot} : sp ∈ allT ts ↔ ∃ t ∈ ts, ∃ i : Int, sp = .h t.nm i ∧ 0 < i ∧ i < t.len := by
  unfold allT
  rw [List.mem_flatMap]
  constructor
  · rintro ⟨t, ht, h⟩
    exact ⟨t, ht, inT_mem.mp h⟩
  · rintro ⟨t, ht, h⟩
    exact ⟨t, ht, inT_mem.mpr h⟩
theorem allS_mem {W : Web} {sp : Spot} : sp ∈ allS W ↔ SpotIn W sp := by
  unfold allS
  rw [List.mem_append, allT_mem]
  constructor
  · rintro (h | ⟨t, ht, i, rfl, h1, h2⟩)
    · obtain ⟨q, hq, rfl⟩ := List.mem_map.mp h
      exact List.mem_map_of_mem hq
    · exact ⟨t, ht, rfl, h1, h2⟩
  · intro h
    cases sp with
    | p x =>
      obtain ⟨q, hq, e⟩ := List.mem_map.mp h
      exact .inl (List.mem_map.mpr ⟨q, hq, by rw [e]⟩)
    | h n i =>
      obtain ⟨t, ht, rfl, h1, h2⟩ := h
      exact .inr ⟨t, ht, i, rfl, h1, h2⟩
theorem inT_nd (t : Tie) : (inT t).Nodup := nodup_map (fun a b z => by have := (Spot.h.inj z).2; omega) List.nodup_range
theorem allT_nd : ∀ {ts : List Tie}, (ts.map (·.nm)).Nodup → (allT ts).Nodup
  | [], _ => List.nodup_nil
  | t :: ts, n => by
    rw [List.map_cons, List.nodup_cons] at n
    show (inT t ++ allT ts).Nodup
    rw [List.nodup_append]
    refine ⟨inT_nd t, allT_nd n.2, fun a ha b hb e => ?_⟩
    obtain ⟨i, rfl, _⟩ := inT_mem.mp ha
    obtain ⟨t', ht', j, e', _⟩ := allT_mem.mp hb
    rw [← e] at e'
    exact n.1 (List.mem_map.mpr ⟨t', ht', (Spot.h.inj e').1.symm⟩)
theorem psP_nd {ps : List (Str × Int)} (h : (ps.map (·.1)).Nodup) : (ps.map fun q => Spot.p q.1).Nodup := by
  have e : (ps.map fun q => Spot.p q.1) = (ps.map (·.1)).map Spot.p := by rw [List.map_map]; rfl
  rw [e]
  exact nodup_map (fun _ _ z => Spot.p.inj z) h
theorem allS_nd {W : Web} (ok : WOk W) : (allS W).Nodup := by
  unfold allS
  rw [List.nodup_append]
  refine ⟨psP_nd ok.ps.nd, allT_nd ok.ts.nd, fun a ha b hb e => ?_⟩
  obtain ⟨q, hq, rfl⟩ := List.mem_map.mp ha
  obtain ⟨t', ht', j, e', _⟩ := allT_mem.mp hb
  rw [← e] at e'
  cases e'
theorem len12 {ps : List (Str × Int)} {rd : Bool} {t : Tie} (h : TieOk ps rd t) : 1 ≤ t.len ∧ t.len ≤ 12 := by
  have := h.len
  unfold LenOk at this
  split at this <;> omega
theorem allT_len {ps : List (Str × Int)} {rd : Bool} : ∀ {ts : List Tie}, (∀ t ∈ ts, TieOk ps rd t) → (allT ts).length ≤ 11 * ts.length
  | [], _ => Nat.le_refl _
  | t :: ts, h => by
    show (inT t ++ allT ts).length ≤ _
    have h1 := allT_len fun x hx => h x (List.mem_cons_of_mem _ hx)
    have h2 := len12 (h t List.mem_cons_self)
    rw [List.length_append, List.length_cons]
    unfold inT
    rw [List.length_map, List.length_range]
    omega
theorem allS_len {W : Web} (ok : WOk W) : (allS W).length ≤ 140 := by
  unfold allS
  rw [List.length_append, List.length_map]
  have := allT_len ok.ts.ok
  have := ok.ts.hi
  have := ok.ps.hi
  omega
theorem allS_nm {W : Web} (ok : WOk W) : ∀ sp ∈ allS W, SpNm sp := fun sp h => by
  have h := allS_mem.mp h
  cases sp with
  | p x =>
    obtain ⟨q, hq, rfl⟩ := List.mem_map.mp h
    exact ok.ps.nm q hq
  | h n i =>
    obtain ⟨t, ht, rfl, _⟩ := h
    exact (ok.ts.ok t ht).nm
theorem nb_in {W : Web} (ok : WOk W) {v u : Spot} (h : nbOf W v u) : v ∈ allS W ∧ u ∈ allS W := by
  obtain ⟨t, ht, i, h0, h1, (⟨rfl, rfl⟩ | ⟨rfl, rfl⟩)⟩ := h
  · exact ⟨allS_mem.mpr (spotOf_in ok ht h0 (by omega)), allS_mem.mpr (spotOf_in ok ht (by omega) (by omega))⟩
  · exact ⟨allS_mem.mpr (spotOf_in ok ht (by omega) (by omega)), allS_mem.mpr (spotOf_in ok ht h0 (by omega))⟩
/-! ### states by spots -/
def stMap (s : Spot → Int) (l : List Spot) : List (Spot × V) := l.map fun sp => (sp, V.int (s sp))
theorem stMap_keys (s : Spot → Int) (l : List Spot) : (stMap s l).map (·.1) = l := by
  unfold stMap
  rw [List.map_map]
  conv => rhs; rw [← List.map_id l]
  rfl
theorem stMap_val {s : Spot → Int} {l : List Spot} {k : Spot} (n : l.Nodup) (h : k ∈ l) : valV (stMap s l) k = some (.int (s k)) :=
  valV_nd (by rw [stMap_keys]; exact n) (List.mem_map.mpr ⟨k, h, rfl⟩)
theorem stMap_no {s : Spot → Int} {l : List Spot} {k : Spot} (h : k ∉ l) : valV (stMap s l) k = none := valV_no (by rw [stMap_keys]; exact h)
theorem stMap_put {s : Spot → Int} {l : List Spot} {k : Spot} (h : k ∉ l) : putK (stMap s l) k (.int (s k)) = stMap s (l ++ [k]) := by
  rw [putK_new _ (stMap_no h)]
  unfold stMap
  rw [List.map_append]
  rfl
theorem inV_ints (x : Int) (ns : List Int) : inV (.int x) (ns.map .int) = decide (x ∈ ns) := by
  have e : ∀ y, eqV (.int y) (.int x) = decide (y = x) := fun y => by
    first | rfl | (show (y == x) = _; by_cases c : y = x <;> simp [c])
  unfold inV
  by_cases c : x ∈ ns
  · rw [decide_eq_true c, List.any_eq_true]
    exact ⟨_, List.mem_map_of_mem c, by rw [e]; simp⟩
  · rw [decide_eq_false c, List.any_eq_false]
    intro v hv
    obtain ⟨y, hy, rfl⟩ := List.mem_map.mp hv
    rw [e]
    simpa using fun z : y = x => c (z ▸ hy)
theorem flat_ints (ns : List Int) : (ns.map V.int).all flatV = true := by
  rw [List.all_eq_true]
  intro v hv
  obtain ⟨x, _, rfl⟩ := List.mem_map.mp hv
  rfl
/-! ### beside -/
def EdgeAt (t : Tie) (i : Int) (v u : Spot) : Prop := (v = spotOf t i ∧ u = spotOf t (i + 1)) ∨ (u = spotOf t i ∧ v = spotOf t (i + 1))
def nbTo (ts : List Tie) (v u : Spot) : Prop := ∃ t ∈ ts, ∃ i : Int, 0 ≤ i ∧ i < t.len ∧ EdgeAt t i v u
theorem nbTo_all (W : Web) (v u : Spot) : nbTo W.ts v u ↔ nbOf W v u := Iff.rfl
theorem nbTo_snoc (ts : List Tie) (t : Tie) (v u : Spot) : nbTo (ts ++ [t]) v u ↔ nbTo ts v u ∨ ∃ i : Int, 0 ≤ i ∧ i < t.len ∧ EdgeAt t i v u := by
  unfold nbTo
  constructor
  · rintro ⟨t', ht', h⟩
    rcases List.mem_append.mp ht' with h' | h'
    · exact .inl ⟨t', h', h⟩
    · rw [List.mem_singleton.mp h'] at h
      exact .inr h
  · rintro (⟨t', ht', h⟩ | h)
    · exact ⟨t', List.mem_append_left _ ht', h⟩
    · exact ⟨t, List.mem_append_right _ List.mem_cons_self, h⟩
/-- the first places of a tie -/
def nbUp (ts : List Tie) (t : Tie) (j : Nat) (v u : Spot) : Prop := nbTo ts v u ∨ ∃ i : Int, 0 ≤ i ∧ i < j ∧ EdgeAt t i v u
theorem nbUp_zero (ts : List Tie) (t : Tie) (v u : Spot) : nbUp ts t 0 v u ↔ nbTo ts v u := by
  unfold nbUp
  constructor
  · rintro (h | ⟨i, h1, h2, _⟩)
    · exact h
    · exact absurd h2 (by simp; omega)
  · exact .inl
theorem nbUp_succ (ts : List Tie) (t : Tie) (j : Nat) (v u : Spot) : nbUp ts t (j + 1) v u ↔ (nbUp ts t j v u ∨ (v = spotOf t j ∧ u = spotOf t (j + 1))) ∨ (v = spotOf t (j + 1) ∧ u = spotOf t j) := by
  unfold nbUp
  constructor
  · rintro (h | ⟨i, h1, h2, h3⟩)
    · exact .inl (.inl (.inl h))
    · by_cases c : i = j
      · subst c
        rcases h3 with h3 | h3
        · exact .inl (.inr h3)
        · exact .inr h3.symm
      · exact .inl (.inl (.inr ⟨i, h1, by omega, h3⟩))
  · rintro (((h | ⟨i, h1, h2, h3⟩) | h) | h)
    · exact .inl h
    · exact .inr ⟨i, h1, by omega, h3⟩
    · exact .inr ⟨j, by omega, by omega, .inl h⟩
    · exact .inr ⟨j, by omega, by omega, .inr h.symm⟩
theorem nbUp_full (ts : List Tie) (t : Tie) (h : 0 ≤ t.len) (v u : Spot) : nbUp ts t t.len.toNat v u ↔ nbTo (ts ++ [t]) v u := by
  rw [nbTo_snoc]
  unfold nbUp
  rw [Int.toNat_of_nonneg h]
theorem spot_ne {W : Web} (ok : WOk W) {t : Tie} (ht : t ∈ W.ts) {i : Int} (h0 : 0 ≤ i) (h1 : i < t.len) : spotOf t i ≠ spotOf t (i + 1) := fun e => by
  have ne := (ok.ts.ok t ht).ne
  unfold spotOf at e
  by_cases c0 : i = 0
  · rw [if_pos c0] at e
    rw [if_neg (by omega)] at e
    by_cases c1 : i + 1 = t.len
    · rw [if_pos c1] at e
      exact ne (Spot.p.inj e)
    · rw [if_neg c1] at e
      cases e
  · rw [if_neg c0, if_neg (by omega), if_neg (by omega)] at e
    by_cases c1 : i + 1 = t.len
    · rw [if_pos c1] at e
      cases e
    · rw [if_neg c1] at e
      have := (Spot.h.inj e).2
      omega
end K33


set_option Elab.async false
set_option linter.all false
set_option maxRecDepth 100000
set_option maxHeartbeats 4000000
/-! Mixed dicts for the law's defs. -/
namespace K33M
open PySem PySem.Spec PyProof.Rows L2 K33
section
variable {X : Cx}
/-! ### {} that is to hold spots -/
def tMNew (P : Program) (w : World) : TE := fun σ H Q => ∀ p, H p = none → Q (.ref p) (upd H p (.ext (mixH P w p [])))
theorem pe_mnew {pos : Pos} : PE X (.Dict [] [] pos) (tMNew X.prog X.w) := ⟨fun pins s σ H Q I h =>
  wpAny_Dict_empty ⟨.ref s.heap.objs.size, _, I.laid (a := s.heap.objs.size) (o := .ext (mixH X.prog X.w s.heap.objs.size [])) (t' := s.toks) (fun _ _ q => Heap.get?_push_of_some _ q) (Nat.le_refl _)
    (mix_obj (es := []) (xs := []) (Nat.zero_le _) (beq_eq_false_iff_ne.mpr (Nat.ne_of_gt I.big)) .nil ⟨_, #[], 0, Heap.get?_push_size _ rfl, ⟨rfl, rfl, rfl⟩, rfl, rfl, List.nodup_nil⟩), rfl, h _ (I.hok.fresh (Nat.le_refl _))⟩⟩
theorem walk_mkeys {d : Addr} {o : Obj} {es : ME} : Walk (Itmk X d o es) es.length (fun H => H d = some (frzM X o d es)) (fun i H x H' => H' = H ∧ ∃ e, es[i]? = some e ∧ x = e.2.1) :=
  ⟨fun _ _ hi q => ⟨q, hi⟩, fun _ q => ⟨q, Nat.le_refl _⟩, fun _ _ _ _ _ _ y => y⟩
theorem walk_mitems {d : Addr} {o : Obj} {es : ME} : Walk (Itmi X d o es) es.length (fun H => H d = some (frzM X o d es)) (fun i H x H' => ∃ T e, es[i]? = some e ∧ x = .ref T ∧ H T = none ∧ H' = upd H T (.tup [e.2.1, e.2.2])) :=
  ⟨fun _ _ hi q => ⟨q, hi⟩, fun _ q => ⟨q, Nat.le_refl _⟩, fun _ _ _ _ _ _ y => y⟩
end
theorem SpV.monoL {H H' : Hp} (e : ExL H H') {y : V} {sp : Spot} (h : SpV H y sp) : SpV H' y sp := h.mono fun b _ q => e b _ q fun _ z => nomatch z
theorem MD.monoL {P : Program} {w : World} {H H' : Hp} (e : ExL H H') {d : Addr} {kvs : List (Spot × V)} (h : MD P w H d kvs) : MD P w H' d kvs :=
  let ⟨es, h1, h2, h3⟩ := h
  ⟨es, e _ _ h1 (fun _ z => nomatch z), h2, fun x hx => (h3 x hx).monoL e⟩
/-- the entries of a mixed dict by its keys and values -/
theorem pairs_len {es : ME} {kvs : List (Spot × V)} (h : pairs es = kvs) : es.length = kvs.length := by
  rw [← h]
  exact (List.length_map _).symm
theorem pairs_ix {es : ME} {kvs : List (Spot × V)} (h : pairs es = kvs) {i : Nat} {e : Spot × V × V} (he : es[i]? = some e) : kvs[i]? = some (e.1, e.2.2) := by
  rw [← h]
  unfold pairs
  rw [List.getElem?_map, he]
  rfl
end K33M
namespace K33
open PySem PySem.Spec PyProof.Rows L2 K33M
def zipK (L : List Spot) (bs : List Addr) : List (Spot × V) := List.zipWith (fun sp b => (sp, V.ref b)) L bs
theorem zipK_keys {L : List Spot} {bs : List Addr} (h : bs.length = L.length) : (zipK L bs).map (·.1) = L := by
  refine List.ext_getElem? fun i => ?_
  unfold zipK
  rw [List.getElem?_map, List.getElem?_zipWith]
  cases e1 : L[i]? with
  | none => rfl
  | some sp =>
    have hi := (List.getElem?_eq_some_iff.mp e1).1
    rw [List.getElem?_eq_getElem (show i < bs.length by omega)]
    rfl
theorem zipK_at {L : List Spot} {bs : List Addr} {i : Nat} {sp : Spot} {b : Addr} (h1 : L[i]? = some sp) (h2 : bs[i]? = some b) : (zipK L bs)[i]? = some (sp, .ref b) := by
  unfold zipK
  rw [List.getElem?_zipWith, h1, h2]
theorem zipK_val {L : List Spot} {bs : List Addr} (n : L.Nodup) (h : bs.length = L.length) {i : Nat} {sp : Spot} {b : Addr} (h1 : L[i]? = some sp) (h2 : bs[i]? = some b) : valV (zipK L bs) sp = some (.ref b) :=
  valV_nd (by rw [zipK_keys h]; exact n) (List.mem_of_getElem? (zipK_at h1 h2))
theorem nd_ix {α : Type} {l : List α} (n : l.Nodup) {i j : Nat} {x : α} (h1 : l[i]? = some x) (h2 : l[j]? = some x) : i = j :=
  (List.getElem?_inj (List.getElem?_eq_some_iff.mp h1).1 n).mp (by rw [h1, h2])
/-- the lists of what is beside, by spots -/
structure Bes (P : Program) (w : World) (H0 H : Hp) (d : Addr) (L : List Spot) (n : Nat) (E : Spot → Spot → Prop) : Prop where
  ex : ∃ bs : List Addr, bs.Nodup ∧ bs.length = L.length ∧ MD P w H d (zipK L bs) ∧ (∀ b ∈ bs, H0 b = none) ∧
    ∀ (i : Nat) sp b, L[i]? = some sp → bs[i]? = some b → ∃ ys us, H b = some (.lst ys) ∧ Paired (fun y u => SpV H y u) ys us ∧ us.length ≤ n ∧ ∀ u, u ∈ us ↔ E sp u
section
variable {P : Program} {w : World}
theorem Bes.mono {H0 H H' : Hp} {d : Addr} {L : List Spot} {n : Nat} {E : Spot → Spot → Prop} (e : Ex H H') (h : Bes P w H0 H d L n E) : Bes P w H0 H' d L n E :=
  let ⟨bs, h1, h2, h3, h4, h5⟩ := h.ex
  ⟨bs, h1, h2, h3.mono e, h4, fun i sp b a c => let ⟨ys, us, g1, g2, g3⟩ := h5 i sp b a c; ⟨ys, us, e _ _ g1, pr_mono g2 fun _ _ q => q.mono fun _ _ q => e _ _ q, g3⟩⟩
theorem Bes.cong {H0 H : Hp} {d : Addr} {L : List Spot} {n m : Nat} {E E' : Spot → Spot → Prop} (l : n ≤ m) (e : ∀ v u, E v u ↔ E' v u) (h : Bes P w H0 H d L n E) : Bes P w H0 H d L m E' :=
  let ⟨bs, h1, h2, h3, h4, h5⟩ := h.ex
  ⟨bs, h1, h2, h3, h4, fun i sp b a c => let ⟨ys, us, g1, g2, g3, g4⟩ := h5 i sp b a c; ⟨ys, us, g1, g2, Nat.le_trans g3 l, fun u => (g4 u).trans (e sp u)⟩⟩
theorem Bes.free {H0 H : Hp} {d : Addr} {L : List Spot} {n : Nat} {E : Spot → Spot → Prop} (h : Bes P w H0 H d L n E) : Bes P w (fun _ => none) H d L n E :=
  let ⟨bs, h1, h2, h3, h4, h5⟩ := h.ex
  ⟨bs, h1, h2, h3, fun _ _ => rfl, h5⟩
theorem Bes.at {H0 H : Hp} {d : Addr} {L : List Spot} {n : Nat} {E : Spot → Spot → Prop} (h : Bes P w H0 H d L n E) (nd : L.Nodup) {x : Spot} (hx : x ∈ L) :
    ∃ kvs b ys us, MD P w H d kvs ∧ valV kvs x = some (.ref b) ∧ H b = some (.lst ys) ∧ Paired (fun y u => SpV H y u) ys us ∧ us.length ≤ n ∧ ∀ u, u ∈ us ↔ E x u := by
  obtain ⟨bs, h1, h2, h3, h4, h5⟩ := h.ex
  obtain ⟨i, hi⟩ := List.getElem?_of_mem hx
  have hl := (List.getElem?_eq_some_iff.mp hi).1
  have hb := List.getElem?_eq_getElem (show i < bs.length by omega)
  obtain ⟨ys, us, g⟩ := h5 i x _ hi hb
  exact ⟨_, _, ys, us, h3, zipK_val nd h2 hi hb, g⟩
theorem Bes.add {H0 H : Hp} {d : Addr} {L : List Spot} {n : Nat} {E : Spot → Spot → Prop} (h : Bes P w H0 H d L n E) (nd : L.Nodup) {x y : Spot} {vy : V} (hx : x ∈ L) (hy : SpV H vy y) :
    ∃ kvs b ys, MD P w H d kvs ∧ valV kvs x = some (.ref b) ∧ H b = some (.lst ys) ∧ ys.length ≤ n ∧ H0 b = none ∧ Bes P w H0 (upd H b (.lst (ys ++ [vy]))) d L (n + 1) (fun v u => E v u ∨ (v = x ∧ u = y)) := by
  obtain ⟨bs, h1, h2, h3, h4, h5⟩ := h.ex
  obtain ⟨i, hi⟩ := List.getElem?_of_mem hx
  have hl := (List.getElem?_eq_some_iff.mp hi).1
  have hb := List.getElem?_eq_getElem (show i < bs.length by omega)
  obtain ⟨ys, us, g1, g2, g3, g4⟩ := h5 i x _ hi hb
  have l : ExL H (upd H bs[i] (.lst (ys ++ [vy]))) := ExL.upd g1
  refine ⟨_, bs[i], ys, h3, zipK_val nd h2 hi hb, g1, by rw [pr_len g2]; exact g3, h4 _ (List.mem_of_getElem? hb), bs, h1, h2, h3.monoL l, h4, fun j sp b hj hbj => ?_⟩
  by_cases c : j = i
  · subst c
    rw [hi] at hj
    rw [hb] at hbj
    cases hj
    cases hbj
    refine ⟨ys ++ [vy], us ++ [y], upd_same, Paired.snoc (pr_mono g2 fun _ _ q => q.monoL l) (hy.monoL l), by rw [List.length_append]; exact Nat.succ_le_succ g3, fun u => ?_⟩
    rw [List.mem_append, g4 u, List.mem_singleton]
    simp
  · obtain ⟨ys', us', k1, k2, k3, k4⟩ := h5 j sp b hj hbj
    have nb : b ≠ bs[i] := fun z => c (nd_ix h1 hbj (by rw [z]; exact hb))
    refine ⟨ys', us', by rw [upd_ne nb]; exact k1, pr_mono k2 fun _ _ q => q.monoL l, by omega, fun u => ?_⟩
    rw [k4 u]
    have : sp ≠ x := fun z => c (nd_ix nd hj (by rw [z]; exact hi))
    simp [this]
end
end K33


set_option Elab.async false
set_option linter.all false
set_option maxRecDepth 100000
set_option maxHeartbeats 8000000
namespace K33
open PySem PySem.Spec PyProof.Rows L2 K33M
theorem for_te {wi : TI} {g : TG} {tb : TS} {D : Ends} {σ : L2.St} {H : Hp} (h : ∀ tb', tb' = tb → tFor wi g tb' D σ H) : tFor wi g tb D σ H := h _ rfl
theorem seqT {a b : TS} {D : Ends} {σ : L2.St} {H : Hp} (h : ∀ b', b' = b → a { D with nx := b' D } σ H) : tSeq a b D σ H := h _ rfl
/-- a web's rows, as the law holds them -/
structure SpecAt (H : Hp) (q : Addr) (ps : List (Str × Int)) (ts : List Tie) : Prop where
  ex : ∃ l lt as bs, H q = some (.tup [.ref l, .ref lt]) ∧ H l = some (.lst (as.map V.ref)) ∧ PsAt H as ps ∧ H lt = some (.lst (bs.map V.ref)) ∧ TsAt H bs ts
theorem PsAt.mono {H H' : Hp} (e : Ex H H') {as : List Addr} {ps : List (Str × Int)} (h : PsAt H as ps) : PsAt H' as ps := pr_mono h fun _ _ q => e _ _ q
theorem TsAt.mono {H H' : Hp} (e : Ex H H') {as : List Addr} {ts : List Tie} (h : TsAt H as ts) : TsAt H' as ts := pr_mono h fun _ _ q => q.mono e
theorem SpecAt.mono {H H' : Hp} (e : Ex H H') {q : Addr} {ps : List (Str × Int)} {ts : List Tie} (h : SpecAt H q ps ts) : SpecAt H' q ps ts :=
  let ⟨l, lt, as, bs, h1, h2, h3, h4, h5⟩ := h.ex
  ⟨l, lt, as, bs, e _ _ h1, e _ _ h2, h3.mono e, e _ _ h4, h5.mono e⟩
theorem Pot.nref {H : Hp} {p l : Addr} {as : List Addr} (hp : Pot H p) (h : H l = some (.lst (as.map V.ref))) : l ≠ p := fun z => by
  obtain ⟨a, b, h1, _⟩ := hp
  rw [z, h1] at h
  cases as with
  | nil => cases h
  | cons x xs => cases h
theorem Pot.exl {H : Hp} {p : Addr} (hp : Pot H p) : ExL H (hid p H) := ExL.pot hp (Evl.Ex.refl _)
theorem PsAt.monoL {H H' : Hp} (e : ExL H H') {as : List Addr} {ps : List (Str × Int)} (h : PsAt H as ps) : PsAt H' as ps := pr_mono h fun _ _ q => e _ _ q fun _ z => nomatch z
theorem TsAt.monoL {H H' : Hp} (e : ExL H H') {as : List Addr} {ts : List Tie} (h : TsAt H as ts) : TsAt H' as ts := pr_mono h fun _ _ q => q.monoL e
theorem SpecAt.hid {H : Hp} {p : Addr} (hp : Pot H p) {q : Addr} {ps : List (Str × Int)} {ts : List Tie} (h : SpecAt H q ps ts) : SpecAt (hid p H) q ps ts :=
  let ⟨l, lt, as, bs, h1, h2, h3, h4, h5⟩ := h.ex
  ⟨l, lt, as, bs, hp.exl _ _ h1 (fun _ z => nomatch z), by rw [hid_ne (hp.nref h2)]; exact h2, h3.monoL hp.exl, by rw [hid_ne (hp.nref h4)]; exact h4, h5.monoL hp.exl⟩
theorem pick_map {n : Nat} {l : List Str} {H : Hp} {ys : List V} (h : Picks n (fun _ => true) (fun i _ y => y = V.str (l.getD i "")) H ys) (e : n = l.length) : ys = l.map .str := by
  subst e
  exact paired_eq (pr_range (l := l) (S := fun (x : Str) y => y = V.str x) h.all fun i a b h1 h2 => by
    rw [List.getD_eq_getElem?_getD, h1] at h2
    exact h2)
def sp_law_web (K : PySem.W.Frag) : Sp := fun vs H Q _ => ∃ (p : Addr) (mp mt way told : Nat), vs = [.ref p, .int (mp : Int), .int (mt : Int), .int (way : Int), .int (told : Int)] ∧ Pot H p ∧ 1 ≤ mp ∧ mp ≤ 8 ∧ mt ≤ 8 ∧ way < 2 ∧ told ≤ 4 ∧
  ∀ q ps ts H', SpecAt H' q ps ts → PsOk ps → TsOk ps false ts → ts.length ≤ 8 → (ts.map fun t => t.hs.length).sum ≤ told → Ex (hid p H) H' → Pot H' p → Q (.ref q) H'
section
variable {P : Program} {w : World} {K : PySem.W.Frag} {mg : Str → Option Value} {base : Heap}
theorem o_law_web (T : Tx K mg) : FO P w K mg base 4 (He.ga K "_law_web") ["_law_pot_here", "_law_most_persons", "_law_most_ties", "_law_way", "_law_told"] (sp_law_web K) := def_ok T.f_law_web sc_law_web (fun _ _ _ _ _ _ us hl => match us, hl with | [_, _, _, _, _], _ => rfl)
    (fun _ _ _ _ h => by obtain ⟨_, _, _, _, _, rfl, _⟩ := h; rfl) fun cdv A outer s H vs Q E hr h => by
  have hu := hu_of hr
  obtain ⟨p, mp, mt, way, told, rfl, hp, hm1, hm2, hmt, hw, htl, hQ⟩ := h
  refine ⟨_, (pss_cons (ps_set (i := 5) sc_law_web.nd rfl (.inl rfl) (c_fn (o_law_persons T) T.g_law_persons (hr.mono (by decide)) (pa_cons (pv 0) (pa_cons (pe_ix ix_list (pe_lst (pa_cons (pv 1) (pa_cons (pe_op op_add pe_int (c_fn (o_law_take T) T.g_law_take (hr.mono (by decide)) (pa_cons (pv 0) (pa_cons (pv 1) pa_nil)))) pa_nil))) (c_fn (o_law_take T) T.g_law_take (hr.mono (by decide)) (pa_cons (pv 0) (pa_cons pe_int pa_nil))) (fun _ _ => rfl)) pa_nil))))
      (pss_cons (ps_set (i := 6) sc_law_web.nd rfl (.inl rfl) (pe_lst pa_nil))
      (pss_cons (ps_set (i := 7) sc_law_web.nd rfl (.inl rfl) (pv 4))
      (pss_cons (ps_for PassesOwn.never rfl (pi_range1 (by rfl) T.z_range (pa_cons (pe_op op_mul (c_fn (o_law_take T) T.g_law_take (hr.mono (by decide)) (pa_cons (pv 0) (pa_cons (pe_op op_add (pv 2) pe_int) pa_nil))) (pe_callTy call_int1 (by rfl) T.z_int (by decide +kernel) (pa_cons (pe_cmpR op_gt (pe_callB call_len_seq (by rfl) T.z_len (by decide +kernel) (pa_cons (pv 5) pa_nil)) pe_int (nomark _)) pa_nil))) pa_nil)) (pg_name (i := 8) sc_law_web.nd rfl (.inl rfl))
        (pss_cons (ps_set (i := 9) sc_law_web.nd rfl (.inl rfl) (pe_op op_cat (pe_lc (own := [("_law_name_here", 10), ("_law_state", 11)]) rfl sc_law_web.nd (pi_list (pv 5)) (blkOk_by (by rfl)) (fun _ _ _ _ _ => (pg_tupK (K := K) 2 rfl rfl (pgs_cons (pg_name (i := 10) sc_law_web.nd rfl (.inl rfl)) (pgs_cons (pg_name (i := 11) sc_law_web.nd rfl (.inl rfl)) pgs_nil)))) (fun _ _ _ _ _ => pts_nil) (fun _ _ _ _ _ => (pv 10))) (pe_lc (own := [("_law_tie_here", 12)]) rfl sc_law_web.nd (pi_list (pv 6)) (blkOk_by (by rfl)) (fun _ _ _ _ _ => (pg_name (i := 12) sc_law_web.nd rfl (.inl rfl))) (fun _ _ _ _ _ => pts_nil) (fun _ _ _ _ _ => (pe_ix (ix_tupK (K := K) rfl) (pv 12) pe_int (fun _ _ => rfl))))))
        (pss_cons (ps_expr (pe_bm PySem.F.plainAttrs_list PySem.F.slot_list_append PySem.F.type_list_append mt_append (pv 6) (pa_cons (c_fn (o_law_tie T) T.g_law_tie (hr.mono (by decide)) (pa_cons (pv 0) (pa_cons (pv 5) (pa_cons (pv 9) (pa_cons (pv 3) (pa_cons (pv 7) pa_nil)))))) pa_nil)))
        (pss_one (ps_set (i := 7) sc_law_web.nd rfl (.inl rfl) (pe_op op_sub (pv 7) (pe_callB call_len_seq (by rfl) T.z_len (by decide +kernel) (pa_cons (pe_ix ix_tup (pe_ix ix_list (pv 6) (pe_un un_neg pe_int) (fun _ _ => rfl)) pe_int (fun _ _ => rfl)) pa_nil))))))))
      (pss_one (ps_ret (pe_tup (pa_cons (pv 5) (pa_cons (pv 6) pa_nil))))))))), ?_⟩
  refine seq3 fun tl htl2 => ?_
  dsimp only [tCKw, tM1, tVals, tVar, tC, tB, tAnd, tOr, tNot, tAndV, tOrV, tNotV, tIf, tNext, tSeq, tBreak, tCont, tDrop, tRet, tRetN, tIfS, tNever, gName, gNil, gCons, gTup, gSub, tAsg, tPar, tAug, tTest, tChain, tFld, sFld, tNil, tCons, tTup, tLst, tCall, tMeth, tCB, tBM, tNoPart, tPart, tSl, tOp, tUn, rI, rI0, rU, iList, iTup, iRng1, iRng2, iStr, iEnum, iZip, iItems, iVals, tDGet, tDIn, tDNotIn, sDPut, tDGet2, tDNewK, tDNewT, tYes, fin, List.cons_append, List.nil_append, bx, cxOf, Cx.nox]
  refine ⟨_, rfl, _, rfl, _, rfl, _, rfl, p, mp, rfl, hp, by omega, by omega, fun d H1 hd e1 hp1 => ⟨_, _, rfl, rfl, Nat.le_of_ble_eq_true rfl, fun q hq => ⟨_, rfl, p, 2, rfl, hp1.mono (Evl.Ex.new hq), by decide, by decide, fun d2 H2 hd2 e2 hp2 => ?_⟩⟩⟩
  have nqp := hp1.new hq
  obtain ⟨n, hn, hn1, hn2⟩ : ∃ n : Nat, atI [V.int (mp : Int), .int (1 + (d : Int))] (d2 : Int) = some (.int (n : Int)) ∧ 1 ≤ n ∧ n ≤ 8 := by
    match d2, hd2 with
    | 0, _ => exact ⟨mp, rfl, hm1, hm2⟩
    | 1, _ => exact ⟨1 + d, by rw [Int.natCast_add]; rfl, by omega, by omega⟩
    | d + 2, h => exact absurd h (by omega)
  have e2' : Ex (hid p H) H2 := (ex_hid e1 hid_same).trans ((hid_mono (Evl.Ex.new hq)).trans e2)
  refine ⟨q, _, _, _, rfl, rfl, sql (e2 _ _ (by rw [hid_ne nqp, upd_same])), hn, p, n, rfl, hp2, hn1, hn2, fun l as ps H3 hl hln hps hpok hpl e3 hp3 => ⟨Nat.zero_le _, fun lt hlt => ⟨_, rfl, ?_⟩⟩⟩
  have e3' : Ex (hid p H) H3 := (ex_hid e2' hid_same).trans e3
  subst htl2
  refine seqT fun rt hrt => ?_
  refine for_te fun tb htb => ?_
  dsimp only [tFor]
  dsimp only [tCKw, tM1, tVals, tVar, tC, tB, tAnd, tOr, tNot, tAndV, tOrV, tNotV, tIf, tNext, tSeq, tBreak, tCont, tDrop, tRet, tRetN, tIfS, tNever, gName, gNil, gCons, gTup, gSub, tAsg, tPar, tAug, tTest, tChain, tFld, sFld, tNil, tCons, tTup, tLst, tCall, tMeth, tCB, tBM, tNoPart, tPart, tSl, tOp, tUn, rI, rI0, rU, iList, iTup, iRng1, iRng2, iStr, iEnum, iZip, iItems, iVals, tDGet, tDIn, tDNotIn, sDPut, tDGet2, tDNewK, tDNewT, tYes, fin, List.cons_append, List.nil_append, bx, cxOf, Cx.nox]
  have nltp : lt ≠ p := hp3.new hlt
  have nllt : l ≠ lt := fun z => by rw [z, hlt] at hl; cases hl
  have nlp : l ≠ p := hp3.nref hl
  have hlt0 : hid p H lt = none := Evl.fresh_back e3' hlt
  refine ⟨_, rfl, _, rfl, _, _, rfl, rfl, p, mt + 1, rfl, hp3.mono (Evl.Ex.new hlt), by omega, by omega, fun cn H4 hcn e4 hp4 => ?_⟩
  have hl4 : H4 l = some (.lst (as.map V.ref)) := e4 _ _ (by rw [hid_ne nlp, upd_ne nllt]; exact hl)
  have hlt4 : H4 lt = some (.lst []) := e4 _ _ (by rw [hid_ne nltp, upd_same])
  have e4' : Ex (hid p H) H4 := (ex_hid (e3'.trans (Evl.Ex.new hlt)) hid_same).trans e4
  have hps4 : PsAt H4 as ps := hps.monoL (((ExL.of (Evl.Ex.new hlt)).trans (hp3.mono (Evl.Ex.new hlt)).exl).trans (ExL.of e4))
  obtain ⟨k, hk1, hk2, hk3⟩ : ∃ k : Nat, (if decide ((1 : Int) < ((as.map V.ref).length : Int)) = true then (1 : Int) else 0) = (k : Int) ∧ k ≤ 1 ∧ (0 < k → 2 ≤ ps.length) := by
    have el : (as.map V.ref).length = ps.length := by rw [List.length_map]; exact pr_len hps
    rw [el]
    by_cases c : 1 < ps.length
    · exact ⟨1, by rw [decide_eq_true (by omega)]; rfl, Nat.le_refl _, fun _ => c⟩
    · exact ⟨0, by rw [decide_eq_false (by omega)]; rfl, by decide, fun h => absurd h (by decide)⟩
  refine ⟨_, rfl, l, _, rfl, .inl (sql hl4), _, _, rfl, rfl, .inr ⟨_, rfl, ?_⟩⟩
  rw [hk1]
  have hck : cn * k ≤ 8 := by
    have := Nat.mul_le_mul (show cn ≤ 8 by omega) hk2
    omega
  refine ⟨_, _, rfl, rfl, ?_, _, rfl, ?_⟩
  · exact .inl ⟨by omega, by omega⟩
  rw [← Int.natCast_mul]
  refine ⟨by omega, by omega, ?_⟩
  rw [Int.toNat_natCast]
  refine for_it (g := gName 8) (tb := tb) (D := { fin Q with nx := rt (fin Q) }) (walk_range (lo := 0) (n := cn * k)) (fun i σ H' => ∃ (bs : List Addr) (ts : List Tie) (left : Nat) (x8 x9 : Option V), σ = [some (.ref p), some (.int (mp : Int)), some (.int (mt : Int)), some (.int (way : Int)), some (.int (told : Int)), some (.ref l), some (.ref lt), some (.int (left : Int)), x8, x9, none, none, none] ∧
    Ex (hid p H) H' ∧ Pot H' p ∧ H' l = some (.lst (as.map V.ref)) ∧ PsAt H' as ps ∧ H' lt = some (.lst (bs.map V.ref)) ∧ TsAt H' bs ts ∧ (∀ t ∈ ts, TieOk ps false t) ∧ (ts.map (·.nm)).Nodup ∧ ts.length = i ∧ (ts.map fun t => t.hs.length).sum + left = told) ?_ (fun _ _ _ _ _ => True.intro) (fun i x σ H' H'' hi w Y => ?_) fun σ H' w => ?_
  · exact ⟨[], [], told, none, none, rfl, e4', hp4, hl4, hps4, hlt4, .nil, fun _ h => (nomatch h), List.nodup_nil, rfl, Nat.zero_add _⟩
  · obtain ⟨bs, ts, left, x8, x9, rfl, e5, hp5, hl5, hps5, hlt5, hts5, hok5, hnd5, hi5, hsum5⟩ := w
    obtain ⟨rfl, rfl⟩ := Y
    subst htb
    dsimp only [tCKw, tM1, tVals, tVar, tC, tB, tAnd, tOr, tNot, tAndV, tOrV, tNotV, tIf, tNext, tSeq, tBreak, tCont, tDrop, tRet, tRetN, tIfS, tNever, gName, gNil, gCons, gTup, gSub, tAsg, tPar, tAug, tTest, tChain, tFld, sFld, tNil, tCons, tTup, tLst, tCall, tMeth, tCB, tBM, tNoPart, tPart, tSl, tOp, tUn, rI, rI0, rU, iList, iTup, iRng1, iRng2, iStr, iEnum, iZip, iItems, iVals, tDGet, tDIn, tDNotIn, sDPut, tDGet2, tDNewK, tDNewT, tYes, fin, List.cons_append, List.nil_append, bx, cxOf, Cx.nox]
    refine lc_te fun te tt hte htt => ?_
    dsimp only [tCKw, tM1, tVals, tVar, tC, tB, tAnd, tOr, tNot, tAndV, tOrV, tNotV, tIf, tNext, tSeq, tBreak, tCont, tDrop, tRet, tRetN, tIfS, tNever, gName, gNil, gCons, gTup, gSub, tAsg, tPar, tAug, tTest, tChain, tFld, sFld, tNil, tCons, tTup, tLst, tCall, tMeth, tCB, tBM, tNoPart, tPart, tSl, tOp, tUn, rI, rI0, rU, iList, iTup, iRng1, iRng2, iStr, iEnum, iZip, iItems, iVals, tDGet, tDIn, tDNotIn, sDPut, tDGet2, tDNewK, tDNewT, tYes, fin, List.cons_append, List.nil_append, bx, cxOf, Cx.nox]
    have elen := pr_len hps5
    have tlen := pr_len hts5
    have h8 := hpok.hi
    have h2p : 2 ≤ ps.length := hk3 (by
      rcases Nat.eq_zero_or_pos k with z | z
      · rw [z] at hi; omega
      · exact z)
    refine ⟨_, rfl, l, rfl, ⟨_, sql hl5⟩, lc_pick (g := gTup K 2 (gCons (gName 10) (gCons (gName 11) gNil))) (walk_list (a := l) (xs := as.map V.ref)) (fun _ => true) (fun i _ y => y = V.str ((ps.map (·.1)).getD i "")) (by rw [List.length_map, elen]; omega) (fun H e => sql (e _ _ hl5)) (fun _ _ _ _ _ r => r) gm_tup2 (fun i2 y Ha Hb hi2 e6 Y => ?_) fun D Ha ys hD e6 hys pk => ?_⟩
    · obtain ⟨rfl, hy⟩ := Y
      rw [List.getElem?_map] at hy
      obtain ⟨a, ha, rfl⟩ := Option.map_eq_some_iff.mp hy
      obtain ⟨q, hq, hqt⟩ := pr_at hps5 ha
      have ec : (List.map Prod.fst ps).getD i2 ("" : Str) = q.1 := by rw [List.getD_eq_getElem?_getD, List.getElem?_map, hq]; rfl
      rw [ec]
      dsimp only [tCKw, tM1, tVals, tVar, tC, tB, tAnd, tOr, tNot, tAndV, tOrV, tNotV, tIf, tNext, tSeq, tBreak, tCont, tDrop, tRet, tRetN, tIfS, tNever, gName, gNil, gCons, gTup, gSub, tAsg, tPar, tAug, tTest, tChain, tFld, sFld, tNil, tCons, tTup, tLst, tCall, tMeth, tCB, tBM, tNoPart, tPart, tSl, tOp, tUn, rI, rI0, rU, iList, iTup, iRng1, iRng2, iStr, iEnum, iZip, iItems, iVals, tDGet, tDIn, tDNotIn, sDPut, tDGet2, tDNewK, tDNewT, tYes, fin, List.cons_append, List.nil_append, bx, cxOf, Cx.nox]
      refine ⟨_, _, rfl, sqt (e6 _ _ hqt), rfl, _, _, rfl, _, _, rfl, rfl, rfl, fun Qy Qn k _ => ?_⟩
      subst hte htt
      dsimp only [tCKw, tM1, tVals, tVar, tC, tB, tAnd, tOr, tNot, tAndV, tOrV, tNotV, tIf, tNext, tSeq, tBreak, tCont, tDrop, tRet, tRetN, tIfS, tNever, gName, gNil, gCons, gTup, gSub, tAsg, tPar, tAug, tTest, tChain, tFld, sFld, tNil, tCons, tTup, tLst, tCall, tMeth, tCB, tBM, tNoPart, tPart, tSl, tOp, tUn, rI, rI0, rU, iList, iTup, iRng1, iRng2, iStr, iEnum, iZip, iItems, iVals, tDGet, tDIn, tDNotIn, sDPut, tDGet2, tDNewK, tDNewT, tYes, fin, List.cons_append, List.nil_append, bx, cxOf, Cx.nox]
      exact ⟨_, rfl, k rfl _ _ (Evl.Ex.refl _) rfl⟩
    have eys := pick_map pk (by rw [List.length_map, List.length_map, elen])
    subst eys
    refine lc_te fun te2 tt2 hte2 htt2 => ?_
    dsimp only [tCKw, tM1, tVals, tVar, tC, tB, tAnd, tOr, tNot, tAndV, tOrV, tNotV, tIf, tNext, tSeq, tBreak, tCont, tDrop, tRet, tRetN, tIfS, tNever, gName, gNil, gCons, gTup, gSub, tAsg, tPar, tAug, tTest, tChain, tFld, sFld, tNil, tCons, tTup, tLst, tCall, tMeth, tCB, tBM, tNoPart, tPart, tSl, tOp, tUn, rI, rI0, rU, iList, iTup, iRng1, iRng2, iStr, iEnum, iZip, iItems, iVals, tDGet, tDIn, tDNotIn, sDPut, tDGet2, tDNewK, tDNewT, tYes, fin, List.cons_append, List.nil_append, bx, cxOf, Cx.nox]
    have hlt6 := e6 _ _ hlt5
    have hts6 := hts5.mono e6
    refine ⟨_, rfl, lt, rfl, ⟨_, sql hlt6⟩, lc_pick (g := gName 12) (walk_list (a := lt) (xs := bs.map V.ref)) (fun _ => true) (fun i _ y => y = V.str ((ts.map (·.nm)).getD i "")) (by rw [List.length_map, tlen]; omega) (fun H e => sql (e _ _ hlt6)) (fun _ _ _ _ _ r => r) gm_name (fun i2 y Hb Hc hi2 e7 Y => ?_) fun D2 Hb ys hD2 e7 hys2 pk2 => ?_⟩
    · obtain ⟨rfl, hy⟩ := Y
      rw [List.getElem?_map] at hy
      obtain ⟨a, ha, rfl⟩ := Option.map_eq_some_iff.mp hy
      obtain ⟨t, ht, v, htv, _⟩ := pr_at hts6 ha
      have ec : (List.map Tie.nm ts).getD i2 ("" : Str) = t.nm := by rw [List.getD_eq_getElem?_getD, List.getElem?_map, ht]; rfl
      rw [ec]
      refine ⟨rfl, fun Qy Qn k _ => ?_⟩
      subst hte2 htt2
      dsimp only [tCKw, tM1, tVals, tVar, tC, tB, tAnd, tOr, tNot, tAndV, tOrV, tNotV, tIf, tNext, tSeq, tBreak, tCont, tDrop, tRet, tRetN, tIfS, tNever, gName, gNil, gCons, gTup, gSub, tAsg, tPar, tAug, tTest, tChain, tFld, sFld, tNil, tCons, tTup, tLst, tCall, tMeth, tCB, tBM, tNoPart, tPart, tSl, tOp, tUn, rI, rI0, rU, iList, iTup, iRng1, iRng2, iStr, iEnum, iZip, iItems, iVals, tDGet, tDIn, tDNotIn, sDPut, tDGet2, tDNewK, tDNewT, tYes, fin, List.cons_append, List.nil_append, bx, cxOf, Cx.nox]
      exact ⟨_, rfl, a, _, _, _, rfl, rfl, sqt (e7 _ _ htv), atI_nat (j := 0) rfl, k rfl _ _ (Evl.Ex.refl _) rfl⟩
    have eys2 := pick_map pk2 (by rw [List.length_map, List.length_map, tlen])
    subst eys2
    refine ⟨D, D2, _, _, rfl, rfl, e7 _ _ hys, hys2, Evl.sz_of (by simp only [List.length_map]; omega), fun u hu => ?_⟩
    rw [← List.map_append]
    have eu : Ex H'' (upd Hb u (.lst ((List.map Prod.fst ps ++ List.map Tie.nm ts).map V.str))) := (e6.trans e7).trans (Evl.Ex.new hu)
    have hpu := hp5.mono eu
    have hlu := eu _ _ hl5
    have hltu := eu _ _ hlt5
    have hpsu := hps5.mono eu
    have htsu := hts5.mono eu
    have nup : u ≠ p := (hp5.mono (e6.trans e7)).new hu
    have huu : (upd Hb u (.lst ((List.map Prod.fst ps ++ List.map Tie.nm ts).map V.str))) u = some (.lst ((List.map Prod.fst ps ++ List.map Tie.nm ts).map V.str)) := upd_same
    generalize upd Hb u (.lst ((List.map Prod.fst ps ++ List.map Tie.nm ts).map V.str)) = Hu at eu hpu hlu hltu hpsu htsu huu ⊢
    have nmok : ∀ x ∈ List.map Prod.fst ps ++ List.map Tie.nm ts, NameOk x := fun x hx => by
      rcases List.mem_append.mp hx with h | h
      · obtain ⟨q, hq, rfl⟩ := List.mem_map.mp h
        exact hpok.nm q hq
      · obtain ⟨t, ht, rfl⟩ := List.mem_map.mp h
        exact (hok5 t ht).nm
    refine ⟨_, rfl, .inl ⟨rfl, _, sql hltu⟩, _, rfl, _, rfl, _, rfl, _, rfl, _, rfl, p, l, u, as, ps, _, way, left, rfl, hpu, nlp, nup, hlu, hpsu, hpok, h2p, huu, nmok, ?_, hw, by omega, fun a t H6 ht5 hnm hnin hone htwo hne hl1 hl2 hhs hhl e8 hp8 => ?_⟩
    · rw [List.length_append, List.length_map, List.length_map]
      omega
    have hlt6' : H6 lt = some (.lst (bs.map V.ref)) := e8 _ _ (by rw [hid_ne nltp]; exact hltu)
    have hl6' : H6 l = some (.lst (as.map V.ref)) := e8 _ _ (by rw [hid_ne nlp]; exact hlu)
    have exl : ExL Hu H6 := hpu.exl.trans (ExL.of e8)
    have exu : ExL H6 (upd H6 lt (.lst (bs.map V.ref ++ [V.ref a]))) := ExL.upd hlt6'
    obtain ⟨v, hav, z, zs, ev, hz, hzp⟩ := ht5.monoL exu
    subst ev
    refine ⟨lt, _, _, rfl, rfl, hlt6', Evl.sz_lt (by rw [List.length_map]; omega), _, rfl, _, rfl, _, rfl, lt, _, _, _, rfl, rfl, sql upd_same, atI_last _ _, a, _, _, _, rfl, rfl, sqt hav, atI_nat (j := 4) rfl, z, _, rfl, .inr hz.sq, _, _, rfl, rfl, ?_⟩
    have ez : (zs.map V.ref).length = t.hs.length := by rw [List.length_map]; exact pr_len hzp
    rw [ez]
    refine ⟨bs ++ [a], ts ++ [t], left - t.hs.length, some (.int (0 + (i : Int))), some (.ref u), ?_, ((ex_hid (e5.trans eu) hid_same).trans e8).mut hlt0, hp8.put nltp, by rw [upd_ne nllt]; exact hl6', (hpsu.monoL exl).monoL exu, by rw [upd_same, List.map_append]; rfl, ?_, ?_, ?_, ?_, ?_⟩
    · rw [show (((left - t.hs.length : Nat)) : Int) = (left : Int) - (t.hs.length : Int) by omega]
      rfl
    · exact Paired.snoc ((htsu.monoL exl).monoL exu) ⟨_, hav, z, zs, rfl, hz, hzp⟩
    · intro x hx
      rcases List.mem_append.mp hx with h | h
      · exact hok5 x h
      · rw [List.mem_singleton.mp h]
        exact ⟨hnm, fun h => hnin (List.mem_append_left _ h), hone, htwo, hne, by show LenOk false t.len; exact ⟨hl1, hl2⟩, hhs⟩
    · rw [List.map_append]
      refine List.nodup_append.mpr ⟨hnd5, List.nodup_cons.mpr ⟨fun h => (nomatch h), List.nodup_nil⟩, fun x hx y hy e => hnin ?_⟩
      rw [List.map_cons, List.map_nil, List.mem_singleton] at hy
      rw [← hy, ← e]
      exact List.mem_append_right _ hx
    · rw [List.length_append, hi5]
      rfl
    · rw [List.map_append, List.sum_append, List.map_cons, List.map_nil, List.sum_cons, List.sum_nil]
      omega
  · obtain ⟨bs, ts, left, x8, x9, rfl, e5, hp5, hl5, hps5, hlt5, hts5, hok5, hnd5, hi5, hsum5⟩ := w
    subst hrt
    dsimp only [tCKw, tM1, tVals, tVar, tC, tB, tAnd, tOr, tNot, tAndV, tOrV, tNotV, tIf, tNext, tSeq, tBreak, tCont, tDrop, tRet, tRetN, tIfS, tNever, gName, gNil, gCons, gTup, gSub, tAsg, tPar, tAug, tTest, tChain, tFld, sFld, tNil, tCons, tTup, tLst, tCall, tMeth, tCB, tBM, tNoPart, tPart, tSl, tOp, tUn, rI, rI0, rU, iList, iTup, iRng1, iRng2, iStr, iEnum, iZip, iItems, iVals, tDGet, tDIn, tDNotIn, sDPut, tDGet2, tDNewK, tDNewT, tYes, fin, List.cons_append, List.nil_append, bx, cxOf, Cx.nox]
    refine ⟨_, rfl, _, rfl, Nat.le_of_ble_eq_true rfl, fun q hq => ?_⟩
    have eq := Evl.Ex.new (o := .tup [.ref l, .ref lt]) hq
    refine hQ q ps ts _ ⟨l, lt, as, bs, upd_same, eq _ _ hl5, hps5.mono eq, eq _ _ hlt5, hts5.mono eq⟩ hpok ⟨hok5, hnd5, by omega, by omega⟩ (by omega) (by omega) (e5.trans eq) (hp5.mono eq)
end
end K33


set_option Elab.async false
set_option linter.all false
set_option maxRecDepth 100000
set_option maxHeartbeats 8000000
namespace K33
open PySem PySem.Spec PyProof.Rows L2 K33M
theorem gm_tup5 {K : PySem.W.Frag} {i j k l m : Nat} : ∀ (x : V) (σ' : L2.St) (H' : Hp) (A B : L2.St → Hp → Prop), (∀ σ2 H2, A σ2 H2 → B σ2 H2) → gTup K 5 (gCons (gName i) (gCons (gName j) (gCons (gName k) (gCons (gName l) (gCons (gName m) gNil))))) x σ' H' A → gTup K 5 (gCons (gName i) (gCons (gName j) (gCons (gName k) (gCons (gName l) (gCons (gName m) gNil))))) x σ' H' B :=
  fun _ _ _ _ _ h q => let ⟨a, xs, e1, e2, e3, v, r, e4, v', r', e5, v'', r'', e6, v3, r3, e7, v4, r4, e8, e9, q⟩ := q; ⟨a, xs, e1, e2, e3, v, r, e4, v', r', e5, v'', r'', e6, v3, r3, e7, v4, r4, e8, e9, h _ _ q⟩
theorem wipe_set {σ : L2.St} {i : Nat} {x : Option V} : ∀ {vs : List Nat}, i ∈ vs → wipe (σ.set i x) vs = wipe σ vs
  | v :: vs, h => by
    unfold wipe
    by_cases c : i ∈ vs
    · rw [wipe_set c]
    · have e : i = v := by
        rcases List.mem_cons.mp h with z | z
        · exact z
        · exact absurd z c
      subst e
      have key : ∀ (vs : List Nat), i ∉ vs → wipe (σ.set i x) vs = (wipe σ vs).set i x := fun vs => by
        induction vs with
        | nil => intro _; rfl
        | cons u us ih =>
          intro h
          unfold wipe
          rw [ih fun z => h (List.mem_cons_of_mem _ z), List.set_comm _ _ (fun z => h (by rw [z]; exact List.mem_cons_self))]
      rw [key vs c, List.set_set]
theorem atSt {t : TS} {D : Ends} {σ : L2.St} {H : Hp} (σ' : L2.St) (e : σ = σ') (h : t D σ' H) : t D σ H := e ▸ h
def rdT (t : Tie) : Tie := ⟨t.nm, t.one, t.other, 1, []⟩
theorem refs_back {α : Type} {R : α → V → Prop} {S : Addr → α → Prop} (h : ∀ x y, R x y → ∃ a, y = .ref a ∧ S a x) : ∀ {l : List α} {ys : List V}, Paired R l ys → ∃ as : List Addr, ys = as.map V.ref ∧ Paired S as l
  | _, _, .nil => ⟨[], rfl, .nil⟩
  | _, _, .cons r t => let ⟨as, e, p⟩ := refs_back h t; let ⟨a, e2, s⟩ := h _ _ r; ⟨a :: as, by rw [e, e2]; rfl, .cons s p⟩
def sp_law_rounds (K : PySem.W.Frag) : Sp := fun vs H Q _ => ∃ (p : Addr) (mp mt : Nat), vs = [.ref p, .int (mp : Int), .int (mt : Int)] ∧ Pot H p ∧ 1 ≤ mp ∧ mp ≤ 8 ∧ mt ≤ 8 ∧
  ∀ q ps ts H', SpecAt H' q ps ts → PsOk ps → TsOk ps true ts → ts.length ≤ 8 → Ex (hid p H) H' → Pot H' p → Q (.ref q) H'
def sp_law_spot : Sp := fun vs H Q _ => ∃ (a : Addr) (t : Tie) (i : Int), vs = [.ref a, .int i] ∧ Tie5 H a t ∧ ∀ y H', Ex H H' → SpV H' y (spotOf t i) → Q y H'
section
variable {P : Program} {w : World} {K : PySem.W.Frag} {mg : Str → Option Value} {base : Heap}
theorem o_law_spot (T : Tx K mg) : FO P w K mg base 1 (He.ga K "_law_spot") ["_law_tie_here", "_law_place"] sp_law_spot := def_ok T.f_law_spot sc_law_spot (fun _ _ _ _ _ _ us hl => match us, hl with | [_, _], _ => rfl)
    (fun _ _ _ _ h => by obtain ⟨_, _, _, rfl, _⟩ := h; rfl) fun cdv A outer s H vs Q E hr h => by
  have hu := hu_of hr
  obtain ⟨a, t, i, rfl, ⟨v, ht, hv⟩, hQ⟩ := h
  refine ⟨_, (pss_cons (ps_asg (pv 0) (pg_tup rfl (pgs_cons (pg_name (i := 2) sc_law_spot.nd rfl (.inl rfl)) (pgs_cons (pg_name (i := 3) sc_law_spot.nd rfl (.inl rfl)) (pgs_cons (pg_name (i := 4) sc_law_spot.nd rfl (.inl rfl)) (pgs_cons (pg_name (i := 5) sc_law_spot.nd rfl (.inl rfl)) (pgs_cons (pg_name (i := 6) sc_law_spot.nd rfl (.inl rfl)) pgs_nil)))))))
      (pss_cons (ps_if (pt_cmpR op_eq (pv 1) pe_int (nomark _)) (pss_one (ps_ret (pv 3))) pss_nil)
      (pss_one (ps_ret (pe_ifExp (pt_cmpR op_eq (pv 1) (pv 5) (nomark _)) (pv 4) (pe_tup (pa_cons (pv 2) (pa_cons (pv 1) pa_nil)))))))), ?_⟩
  dsimp only [tCKw, tM1, tVals, tVar, tC, tB, tAnd, tOr, tNot, tAndV, tOrV, tNotV, tIf, tNext, tSeq, tBreak, tCont, tDrop, tRet, tRetN, tIfS, tNever, gName, gNil, gCons, gTup, gSub, tAsg, tPar, tAug, tTest, tChain, tFld, sFld, tNil, tCons, tTup, tLst, tCall, tMeth, tCB, tBM, tNoPart, tPart, tSl, tOp, tUn, rI, rI0, rU, iList, iTup, iRng1, iRng2, iStr, iEnum, iZip, iItems, iVals, tDGet, tDIn, tDNotIn, sDPut, tDGet2, tDNewK, tDNewT, tYes, fin, List.cons_append, List.nil_append, bx, cxOf, Cx.nox]
  refine ⟨_, rfl, a, _, rfl, sqt ht, rfl, _, _, rfl, _, _, rfl, _, _, rfl, _, _, rfl, _, _, rfl, rfl, _, rfl, rfl, ?_⟩
  refine ⟨_, rfl, ?_⟩
  by_cases c0 : i = 0
  · rw [decide_eq_true (show V.int i = V.int 0 by rw [c0]), if_pos rfl]
    refine ⟨_, rfl, hQ _ _ (Evl.Ex.refl _) ?_⟩
    unfold spotOf
    rw [if_pos c0]
    exact rfl
  · rw [decide_eq_false (show ¬ V.int i = V.int 0 by intro z; injection z with z; exact c0 z)]
    refine ⟨_, rfl, _, rfl, rfl, _, rfl, ?_⟩
    by_cases c1 : i = t.len
    · rw [decide_eq_true (show V.int i = V.int t.len by rw [c1]), if_pos rfl]
      refine ⟨_, rfl, hQ _ _ (Evl.Ex.refl _) ?_⟩
      unfold spotOf
      rw [if_neg c0, if_pos c1]
      exact rfl
    · rw [decide_eq_false (show ¬ V.int i = V.int t.len by intro z; injection z with z; exact c1 z)]
      refine ⟨_, rfl, _, rfl, Nat.le_of_ble_eq_true rfl, fun b hb => hQ _ _ (Evl.Ex.new hb) ?_⟩
      unfold spotOf
      rw [if_neg c0, if_neg c1]
      exact ⟨b, rfl, upd_same⟩
theorem o_law_rounds (T : Tx K mg) : FO P w K mg base 5 (He.ga K "_law_rounds") ["_law_pot_here", "_law_most_persons", "_law_most_ties"] (sp_law_rounds K) := def_ok T.f_law_rounds sc_law_rounds (fun _ _ _ _ _ _ us hl => match us, hl with | [_, _, _], _ => rfl)
    (fun _ _ _ _ h => by obtain ⟨_, _, _, rfl, _⟩ := h; rfl) fun cdv A outer s H vs Q E hr h => by
  have hu := hu_of hr
  obtain ⟨p, mp, mt, rfl, hp, hm1, hm2, hmt, hQ⟩ := h
  refine ⟨_, (pss_cons (ps_asg (c_fn (o_law_web T) T.g_law_web (hr.mono (by decide)) (pa_cons (pv 0) (pa_cons (pv 1) (pa_cons (pv 2) (pa_cons pe_int (pa_cons pe_int pa_nil)))))) (pg_tup rfl (pgs_cons (pg_name (i := 3) sc_law_rounds.nd rfl (.inl rfl)) (pgs_cons (pg_name (i := 4) sc_law_rounds.nd rfl (.inl rfl)) pgs_nil))))
      (pss_one (ps_ret (pe_tup (pa_cons (pv 3) (pa_cons (pe_lc (own := [("_law_name_here", 5), ("_law_one", 6), ("_law_other", 7), ("_law_length_here", 8), ("_law_hearers_here", 9)]) rfl sc_law_rounds.nd (pi_list (pv 4)) (blkOk_by (by rfl)) (fun _ _ _ _ _ => (pg_tupK (K := K) 5 rfl rfl (pgs_cons (pg_name (i := 5) sc_law_rounds.nd rfl (.inl rfl)) (pgs_cons (pg_name (i := 6) sc_law_rounds.nd rfl (.inl rfl)) (pgs_cons (pg_name (i := 7) sc_law_rounds.nd rfl (.inl rfl)) (pgs_cons (pg_name (i := 8) sc_law_rounds.nd rfl (.inl rfl)) (pgs_cons (pg_name (i := 9) sc_law_rounds.nd rfl (.inl rfl)) pgs_nil))))))) (fun _ _ _ _ _ => pts_nil) (fun _ _ _ _ _ => (pe_tup (pa_cons (pv 5) (pa_cons (pv 6) (pa_cons (pv 7) (pa_cons pe_int (pa_cons (pe_tupF pa_nil) pa_nil)))))))) pa_nil)))))), ?_⟩
  refine seqT fun rt hrt => ?_
  dsimp only [tCKw, tM1, tVals, tVar, tC, tB, tAnd, tOr, tNot, tAndV, tOrV, tNotV, tIf, tNext, tSeq, tBreak, tCont, tDrop, tRet, tRetN, tIfS, tNever, gName, gNil, gCons, gTup, gSub, tAsg, tPar, tAug, tTest, tChain, tFld, sFld, tNil, tCons, tTup, tLst, tCall, tMeth, tCB, tBM, tNoPart, tPart, tSl, tOp, tUn, rI, rI0, rU, iList, iTup, iRng1, iRng2, iStr, iEnum, iZip, iItems, iVals, tDGet, tDIn, tDNotIn, sDPut, tDGet2, tDNewK, tDNewT, tYes, fin, List.cons_append, List.nil_append, bx, cxOf, Cx.nox]
  refine ⟨_, rfl, _, rfl, _, rfl, p, mp, mt, 0, 0, rfl, hp, hm1, hm2, hmt, by decide, by decide, fun q ps ts H1 hsp hps hts htl hh e1 hp1 => ?_⟩
  obtain ⟨l, lt, as, bs, hq, hl, hpsA, hlt, htsA⟩ := hsp.ex
  refine ⟨q, _, rfl, sqt hq, rfl, _, _, rfl, _, _, rfl, rfl, ?_⟩
  subst hrt
  refine atSt [some (.ref p), some (.int (mp : Int)), some (.int (mt : Int)), some (.ref l), some (.ref lt), none, none, none, none, none] rfl ?_
  dsimp only [tRet, tTup, tCons, tVar]
  refine ⟨_, rfl, ?_⟩
  refine lc_te fun te tt hte htt => ?_
  dsimp only [tCKw, tM1, tVals, tVar, tC, tB, tAnd, tOr, tNot, tAndV, tOrV, tNotV, tIf, tNext, tSeq, tBreak, tCont, tDrop, tRet, tRetN, tIfS, tNever, gName, gNil, gCons, gTup, gSub, tAsg, tPar, tAug, tTest, tChain, tFld, sFld, tNil, tCons, tTup, tLst, tCall, tMeth, tCB, tBM, tNoPart, tPart, tSl, tOp, tUn, rI, rI0, rU, iList, iTup, iRng1, iRng2, iStr, iEnum, iZip, iItems, iVals, tDGet, tDIn, tDNotIn, sDPut, tDGet2, tDNewK, tDNewT, tYes, fin, List.cons_append, List.nil_append, bx, cxOf, Cx.nox]
  have tlen := pr_len htsA
  refine ⟨_, rfl, lt, rfl, ⟨_, sql hlt⟩, lc_pick (g := gTup K 5 (gCons (gName 5) (gCons (gName 6) (gCons (gName 7) (gCons (gName 8) (gCons (gName 9) gNil)))))) (walk_list (a := lt) (xs := bs.map V.ref)) (fun _ => true) (fun i H y => ∃ b t, y = V.ref b ∧ ts[i]? = some t ∧ Tie5 H b (rdT t)) (by rw [List.length_map, tlen]; omega) (fun H e => sql (e _ _ hlt)) (fun i y H H' e ⟨b, t, h1, h2, h3⟩ => ⟨b, t, h1, h2, h3.monoL e⟩) gm_tup5 (fun i2 y Ha Hb hi2 e6 Y => ?_) fun D Ha ys hD e6 hys pk => ?_⟩
  · obtain ⟨rfl, hy⟩ := Y
    rw [List.getElem?_map] at hy
    obtain ⟨a, ha, rfl⟩ := Option.map_eq_some_iff.mp hy
    obtain ⟨t, ht, v, htv, hv⟩ := pr_at htsA ha
    dsimp only [tCKw, tM1, tVals, tVar, tC, tB, tAnd, tOr, tNot, tAndV, tOrV, tNotV, tIf, tNext, tSeq, tBreak, tCont, tDrop, tRet, tRetN, tIfS, tNever, gName, gNil, gCons, gTup, gSub, tAsg, tPar, tAug, tTest, tChain, tFld, sFld, tNil, tCons, tTup, tLst, tCall, tMeth, tCB, tBM, tNoPart, tPart, tSl, tOp, tUn, rI, rI0, rU, iList, iTup, iRng1, iRng2, iStr, iEnum, iZip, iItems, iVals, tDGet, tDIn, tDNotIn, sDPut, tDGet2, tDNewK, tDNewT, tYes, fin, List.cons_append, List.nil_append, bx, cxOf, Cx.nox]
    refine ⟨_, _, rfl, sqt (e6 _ _ htv), rfl, _, _, rfl, _, _, rfl, _, _, rfl, _, _, rfl, _, _, rfl, rfl, ?_, fun Qy Qn k _ => ?_⟩
    · show wipe _ [5, 6, 7, 8, 9] = wipe _ [5, 6, 7, 8, 9]
      rw [wipe_set (by decide), wipe_set (by decide), wipe_set (by decide), wipe_set (by decide), wipe_set (by decide)]
      rfl
    subst hte htt
    dsimp only [tCKw, tM1, tVals, tVar, tC, tB, tAnd, tOr, tNot, tAndV, tOrV, tNotV, tIf, tNext, tSeq, tBreak, tCont, tDrop, tRet, tRetN, tIfS, tNever, gName, gNil, gCons, gTup, gSub, tAsg, tPar, tAug, tTest, tChain, tFld, sFld, tNil, tCons, tTup, tLst, tCall, tMeth, tCB, tBM, tNoPart, tPart, tSl, tOp, tUn, rI, rI0, rU, iList, iTup, iRng1, iRng2, iStr, iEnum, iZip, iItems, iVals, tDGet, tDIn, tDNotIn, sDPut, tDGet2, tDNewK, tDNewT, tYes, fin, List.cons_append, List.nil_append, bx, cxOf, Cx.nox]
    refine ⟨_, rfl, _, rfl, _, rfl, Nat.zero_le _, fun z Hz hz hzt ⟨oz, ez⟩ => ⟨Nat.le_of_ble_eq_true rfl, fun b hb => ?_⟩⟩
    have e1 : Ex Hb Hz := by rw [ez]; exact Evl.Ex.new hz
    exact k rfl _ _ (e1.trans (Evl.Ex.new hb)) ⟨b, t, rfl, ht, _, upd_same, z, [], rfl, hzt.mono (Evl.Ex.new hb), .nil⟩
  · have pk2 := pk.all
    rw [List.length_map, tlen] at pk2
    obtain ⟨cs, rfl, hcs⟩ := refs_back (R := fun (t : Tie) y => ∃ b, y = V.ref b ∧ Tie5 Ha b (rdT t)) (S := fun b t => Tie5 Ha b (rdT t)) (fun _ _ h => h) (pr_range (l := ts) pk2 fun i t y h1 ⟨b, t', h2, h3, h4⟩ => by
      rw [h1] at h3
      cases h3
      exact ⟨b, h2, h4⟩)
    have hts' : TsAt Ha cs (ts.map rdT) := by
      refine pr_of (by rw [List.length_map, pr_len hcs]) fun i a t h1 h2 => ?_
      rw [List.getElem?_map] at h2
      obtain ⟨t0, ht0, rfl⟩ := Option.map_eq_some_iff.mp h2
      obtain ⟨t1, ht1, h3⟩ := pr_at hcs h1
      rw [ht0] at ht1
      cases ht1
      exact h3
    refine ⟨Nat.le_of_ble_eq_true rfl, fun u hu => ?_⟩
    have eu := Evl.Ex.new (o := .tup [.ref l, .ref D]) hu
    have en : (ts.map rdT).map (·.nm) = ts.map (·.nm) := by rw [List.map_map]; rfl
    have eh : ((ts.map rdT).map fun t => t.hs.length).sum = 0 := by
      rw [List.map_map]
      clear hts' en pk2 pk hys hcs htl hh hts htsA hsp tlen
      induction ts with
      | nil => rfl
      | cons t ts ih =>
        rw [List.map_cons, List.sum_cons, ih]
        rfl
    refine hQ u ps (ts.map rdT) _ ⟨l, D, as, cs, upd_same, eu _ _ (e6 _ _ hl), (hpsA.mono e6).mono eu, eu _ _ hys, hts'.mono eu⟩ hps ⟨fun t ht => ?_, by rw [en]; exact hts.nd, by rw [List.length_map]; omega, by rw [eh]; exact Nat.zero_le _⟩ (by rw [List.length_map]; exact htl) ((e1.trans e6).trans eu) ((hp1.mono e6).mono eu)
    obtain ⟨t0, ht0, rfl⟩ := List.mem_map.mp ht
    have q := hts.ok t0 ht0
    exact ⟨q.nm, q.fr, q.one, q.two, q.ne, rfl, .nil, fun _ h => (nomatch h)⟩
end
end K33


set_option Elab.async false
set_option linter.all false
set_option maxRecDepth 100000
set_option maxHeartbeats 8000000
namespace K33
open PySem PySem.Spec PyProof.Rows L2 K33M
theorem psSt_eq {ps : List (Str × Int)} (n : (ps.map (·.1)).Nodup) {q : Str × Int} (h : q ∈ ps) : psSt ps q.1 = q.2 := by
  have a := valV_psD ps q.1 (List.mem_map_of_mem h)
  rw [psD_yes n (i := q.2) h] at a
  injection a with a
  injection a with a
  exact a.symm
theorem psD_kvs (ps : List (Str × Int)) : psD ps = (ps.map fun q => (q.1, V.int q.2)).map fun p => ((Sum.inr p.1 : Key), p.2) := by
  unfold psD
  rw [List.map_map]
  rfl
theorem es_ps {W : Web} (ok : WOk W) : pairs (esOf (W.ps.map fun q => (q.1, V.int q.2))) = stMap (stOf W) (W.ps.map fun q => Spot.p q.1) := by
  unfold pairs esOf stMap
  rw [List.map_map, List.map_map, List.map_map]
  refine List.map_congr_left fun q hq => ?_
  show (Spot.p q.1, V.int q.2) = (Spot.p q.1, V.int (stOf W (.p q.1)))
  rw [show stOf W (.p q.1) = psSt W.ps q.1 from rfl, psSt_eq ok.ps.nd hq]
theorem endsT {t : TS} {D : Ends} {σ : L2.St} {H : Hp} (h : ∀ D', D' = D → t D' σ H) : t D σ H := h _ rfl
def sp_law_stood (P : Program) (w : World) : Sp := fun vs H Q _ => ∃ (q : Addr) (W : Web), vs = [.ref q] ∧ SpecAt H q W.ps W.ts ∧ WOk W ∧ ∀ d H', H d = none → Ex H H' → MD P w H' d (stMap (stOf W) (allS W)) → Q (.ref d) H'
section
variable {P : Program} {w : World} {K : PySem.W.Frag} {mg : Str → Option Value} {base : Heap}
theorem o_law_stood (T : Tx K mg) : FO P w K mg base 1 (He.ga K "_law_stood") ["_law_spec"] (sp_law_stood P w) := def_ok T.f_law_stood sc_law_stood (fun _ _ _ _ _ _ us hl => match us, hl with | [_], _ => rfl)
    (fun _ _ _ _ h => by obtain ⟨_, _, rfl, _⟩ := h; rfl) fun cdv A outer s H vs Q E hr h => by
  have hu := hu_of hr
  obtain ⟨q, W, rfl, hsp, ok, hQ⟩ := h
  obtain ⟨l, lt, as, bs, hq, hl, hpsA, hlt, htsA⟩ := hsp.ex
  refine ⟨_, (pss_cons (ps_asg (pv 0) (pg_tup rfl (pgs_cons (pg_name (i := 1) sc_law_stood.nd rfl (.inl rfl)) (pgs_cons (pg_name (i := 2) sc_law_stood.nd rfl (.inl rfl)) pgs_nil))))
      (pss_cons (ps_set (i := 3) sc_law_stood.nd rfl (.inl rfl) (pe_mix (pe_callTy (call_dictP rfl) (by rfl) T.z_dict (by decide +kernel) (pa_cons (pv 1) pa_nil))))
      (pss_cons (ps_for PassesOwn.never rfl (pi_list (pv 2)) (pg_name (i := 4) sc_law_stood.nd rfl (.inl rfl))
        (pss_cons (ps_set (i := 5) sc_law_stood.nd rfl (.inl rfl) (pe_callTy (call_dictT rfl) (by rfl) T.z_dict (by decide +kernel) (pa_cons (pe_ix ix_tup (pv 4) pe_int (fun _ _ => rfl)) pa_nil)))
        (pss_one (ps_for PassesOwn.never rfl (pi_range2 (by rfl) T.z_range (pa_cons pe_int (pa_cons (pe_ix ix_tup (pv 4) pe_int (fun _ _ => rfl)) pa_nil))) (pg_name (i := 6) sc_law_stood.nd rfl (.inl rfl))
          (pss_one (ps_mput hu (pv 3) (pe_tup (pa_cons (pe_ix ix_tup (pv 4) pe_int (fun _ _ => rfl)) (pa_cons (pv 6) pa_nil))) (pe_dget2 hu (pv 5) (pv 6) pe_int ⟨rfl, rfl, rfl, rfl⟩) rfl))))))
      (pss_one (ps_ret (pv 3)))))), ?_⟩
  refine seq2 fun tl htl => ?_
  dsimp only [tCKw, tM1, tVals, tVar, tC, tB, tAnd, tOr, tNot, tAndV, tOrV, tNotV, tIf, tNext, tSeq, tBreak, tCont, tDrop, tRet, tRetN, tIfS, tNever, gName, gNil, gCons, gTup, gSub, tAsg, tPar, tAug, tTest, tChain, tFld, sFld, tNil, tCons, tTup, tLst, tCall, tMeth, tCB, tBM, tNoPart, tPart, tSl, tOp, tUn, rI, rI0, rU, iList, iTup, iRng1, iRng2, iStr, iEnum, iZip, iItems, iVals, tDGet, tDIn, tDNotIn, sDPut, tDGet2, tDNewK, tDNewT, tYes, fin, List.cons_append, List.nil_append, bx, cxOf, Cx.nox]
  refine ⟨_, rfl, q, _, rfl, sqt hq, rfl, _, _, rfl, _, _, rfl, rfl, ?_⟩
  dsimp only [tMix]
  dsimp only [tCKw, tM1, tVals, tVar, tC, tB, tAnd, tOr, tNot, tAndV, tOrV, tNotV, tIf, tNext, tSeq, tBreak, tCont, tDrop, tRet, tRetN, tIfS, tNever, gName, gNil, gCons, gTup, gSub, tAsg, tPar, tAug, tTest, tChain, tFld, sFld, tNil, tCons, tTup, tLst, tCall, tMeth, tCB, tBM, tNoPart, tPart, tSl, tOp, tUn, rI, rI0, rU, iList, iTup, iRng1, iRng2, iStr, iEnum, iZip, iItems, iVals, tDGet, tDIn, tDNotIn, sDPut, tDGet2, tDNewK, tDNewT, tYes, fin, List.cons_append, List.nil_append, bx, cxOf, Cx.nox]
  have em : mergeK [] (psD W.ps) = psD W.ps := by
    rw [merge_nodup (psD W.ps) []]
    · rfl
    · have e : (([] : List (Key × V)) ++ psD W.ps).map (·.1) = (W.ps.map (·.1)).map (Sum.inr : Str → Key) := by simp [psD, List.map_map, Function.comp_def]
      rw [e]
      exact nodup_map (fun _ _ z => Sum.inr.inj z) ok.ps.nd
  refine ⟨_, rfl, l, as, psD W.ps, rfl, sql hl, ?_, fun d hd => ⟨d, W.ps.map fun q => (q.1, V.int q.2), rfl, by rw [upd_same, em, psD_kvs], ?_⟩⟩
  · refine pr_of (by unfold psD; rw [List.length_map]; exact pr_len hpsA) fun i a kv h1 h2 => ?_
    unfold psD at h2
    rw [List.getElem?_map] at h2
    obtain ⟨q0, hq0, rfl⟩ := Option.map_eq_some_iff.mp h2
    obtain ⟨q1, hq1, h3⟩ := pr_at hpsA h1
    rw [hq0] at hq1
    cases hq1
    exact sqt h3
  rw [upd_upd]
  have eD : Ex H (upd H d (.ext (mixH P w d (esOf (W.ps.map fun q => (q.1, V.int q.2)))))) := Evl.Ex.new hd
  have mD : MD P w (upd H d (.ext (mixH P w d (esOf (W.ps.map fun q => (q.1, V.int q.2)))))) d (stMap (stOf W) (W.ps.map fun q => Spot.p q.1)) := ⟨_, upd_same, es_ps ok, fun e he => by
    unfold esOf at he
    obtain ⟨p, _, rfl⟩ := List.mem_map.mp he
    rfl⟩
  generalize upd H d (.ext (mixH P w d (esOf (W.ps.map fun q => (q.1, V.int q.2))))) = H1 at eD mD
  subst htl
  refine atSt [some (.ref q), some (.ref l), some (.ref lt), some (.ref d), none, none, none] rfl ?_
  refine seqT fun rt hrt => ?_
  refine for_te fun tb htb => ?_
  dsimp only [tFor]
  dsimp only [tCKw, tM1, tVals, tVar, tC, tB, tAnd, tOr, tNot, tAndV, tOrV, tNotV, tIf, tNext, tSeq, tBreak, tCont, tDrop, tRet, tRetN, tIfS, tNever, gName, gNil, gCons, gTup, gSub, tAsg, tPar, tAug, tTest, tChain, tFld, sFld, tNil, tCons, tTup, tLst, tCall, tMeth, tCB, tBM, tNoPart, tPart, tSl, tOp, tUn, rI, rI0, rU, iList, iTup, iRng1, iRng2, iStr, iEnum, iZip, iItems, iVals, tDGet, tDIn, tDNotIn, sDPut, tDGet2, tDNewK, tDNewT, tYes, fin, List.cons_append, List.nil_append, bx, cxOf, Cx.nox]
  have tlen := pr_len htsA
  have htl := ok.ts.hi
  refine ⟨_, rfl, lt, rfl, ⟨_, sql (eD _ _ hlt)⟩, ?_⟩
  refine for_it (g := gName 4) (tb := tb) (D := { fin Q with nx := rt (fin Q) }) (walk_list (a := lt) (xs := bs.map V.ref)) (fun i σ H' => ∃ (x4 x5 x6 : Option V), σ = [some (.ref q), some (.ref l), some (.ref lt), some (.ref d), x4, x5, x6] ∧ Ex H H' ∧ MD P w H' d (stMap (stOf W) (W.ps.map (fun q => Spot.p q.1) ++ allT (W.ts.take i)))) ?_ (fun i σ H' _ w => let ⟨_, _, _, _, e, _⟩ := w; sql (e _ _ hlt)) (fun i x σ H' H'' hi w Y => ?_) fun σ H' w => ?_
  · exact ⟨none, none, none, rfl, eD, by rw [List.take_zero]; show MD P w H1 d (stMap (stOf W) (_ ++ [])); rw [List.append_nil]; exact mD⟩
  · obtain ⟨x4, x5, x6, rfl, e5, m5⟩ := w
    obtain ⟨rfl, hy⟩ := Y
    rw [List.getElem?_map] at hy
    obtain ⟨a, ha, rfl⟩ := Option.map_eq_some_iff.mp hy
    obtain ⟨t, htn, v, htv, z, zs, rfl, hz, hzp⟩ := pr_at htsA ha
    have ht := List.mem_of_getElem? htn
    have tok := ok.ts.ok t ht
    subst htb
    dsimp only [tCKw, tM1, tVals, tVar, tC, tB, tAnd, tOr, tNot, tAndV, tOrV, tNotV, tIf, tNext, tSeq, tBreak, tCont, tDrop, tRet, tRetN, tIfS, tNever, gName, gNil, gCons, gTup, gSub, tAsg, tPar, tAug, tTest, tChain, tFld, sFld, tNil, tCons, tTup, tLst, tCall, tMeth, tCB, tBM, tNoPart, tPart, tSl, tOp, tUn, rI, rI0, rU, iList, iTup, iRng1, iRng2, iStr, iEnum, iZip, iItems, iVals, tDGet, tDIn, tDNotIn, sDPut, tDGet2, tDNewK, tDNewT, tYes, fin, List.cons_append, List.nil_append, bx, cxOf, Cx.nox]
    refine ⟨_, rfl, a, _, _, _, rfl, rfl, sqt (e5 _ _ htv), atI_nat (j := 4) rfl, z, zs, hsD t.hs, rfl, hz.mono e5, ?_, ?_, fun D2 hD2 => ?_⟩
    · refine pr_of (by unfold hsD; rw [List.length_map]; exact pr_len hzp) fun i a kv h1 h2 => ?_
      unfold hsD at h2
      rw [List.getElem?_map] at h2
      obtain ⟨q0, hq0, rfl⟩ := Option.map_eq_some_iff.mp h2
      obtain ⟨q1, hq1, h3⟩ := pr_at hzp h1
      rw [hq0] at hq1
      cases hq1
      exact sqt (e5 _ _ h3)
    · have e : (hsD t.hs).map (·.1) = (t.hs.map (·.1)).map (Sum.inl : Int → Key) := by simp [hsD, List.map_map, Function.comp_def]
      rw [e]
      exact nodup_map (fun _ _ z => Sum.inl.inj z) (hs_nodup tok.hs)
    have e6 := e5.trans (Evl.Ex.new (o := .dK (hsD t.hs)) hD2)
    have m6 := MD.mono (Evl.Ex.new (o := .dK (hsD t.hs)) hD2) m5
    have hD6 : (upd H'' D2 (.dK (hsD t.hs))) D2 = some (.dK (hsD t.hs)) := upd_same
    generalize upd H'' D2 (.dK (hsD t.hs)) = H6 at e6 m6 hD6
    have l12 := len12 tok
    show tFor _ _ _ _ _ _
    refine endsT fun D' hD' => ?_
    refine for_te fun tb htb => ?_
    refine atSt (t := tFor _ _ _) [some (.ref q), some (.ref l), some (.ref lt), some (.ref d), some (.ref a), some (.ref D2), x6] rfl ?_
    dsimp only [tFor]
    dsimp only [tCKw, tM1, tVals, tVar, tC, tB, tAnd, tOr, tNot, tAndV, tOrV, tNotV, tIf, tNext, tSeq, tBreak, tCont, tDrop, tRet, tRetN, tIfS, tNever, gName, gNil, gCons, gTup, gSub, tAsg, tPar, tAug, tTest, tChain, tFld, sFld, tNil, tCons, tTup, tLst, tCall, tMeth, tCB, tBM, tNoPart, tPart, tSl, tOp, tUn, rI, rI0, rU, iList, iTup, iRng1, iRng2, iStr, iEnum, iZip, iItems, iVals, tDGet, tDIn, tDNotIn, sDPut, tDGet2, tDNewK, tDNewT, tYes, fin, List.cons_append, List.nil_append, bx, cxOf, Cx.nox]
    refine ⟨_, rfl, a, _, _, _, rfl, rfl, sqt (e6 _ _ htv), atI_nat (j := 3) rfl, ?_⟩
    refine ⟨_, _, rfl, ⟨by omega, by omega, by omega, by omega⟩, ?_⟩
    refine for_it (g := gName 6) (tb := tb) (D := D') (walk_range (lo := 1) (n := (t.len - 1).toNat)) (fun j σ H' => ∃ (x6 : Option V), σ = [some (.ref q), some (.ref l), some (.ref lt), some (.ref d), some (.ref a), some (.ref D2), x6] ∧ Ex H H' ∧ H' D2 = some (.dK (hsD t.hs)) ∧ MD P w H' d (stMap (stOf W) ((W.ps.map (fun q => Spot.p q.1) ++ allT (W.ts.take i)) ++ (inT t).take j))) ?_ (fun _ _ _ _ _ => True.intro) (fun j x σ H' H'' hj w Y => ?_) fun σ H' w => ?_
    · exact ⟨x6, rfl, e6, hD6, by rw [List.take_zero, List.append_nil]; exact m6⟩
    · obtain ⟨y6, rfl, e7, hD7, m7⟩ := w
      obtain ⟨rfl, rfl⟩ := Y
      subst htb
      dsimp only [sMPut]
      dsimp only [tCKw, tM1, tVals, tVar, tC, tB, tAnd, tOr, tNot, tAndV, tOrV, tNotV, tIf, tNext, tSeq, tBreak, tCont, tDrop, tRet, tRetN, tIfS, tNever, gName, gNil, gCons, gTup, gSub, tAsg, tPar, tAug, tTest, tChain, tFld, sFld, tNil, tCons, tTup, tLst, tCall, tMeth, tCB, tBM, tNoPart, tPart, tSl, tOp, tUn, rI, rI0, rU, iList, iTup, iRng1, iRng2, iStr, iEnum, iZip, iItems, iVals, tDGet, tDIn, tDNotIn, sDPut, tDGet2, tDNewK, tDNewT, tYes, fin, List.cons_append, List.nil_append, bx, cxOf, Cx.nox]
      refine ⟨_, rfl, D2, rfl, .inl ⟨_, .inl hD7⟩, _, rfl, _, DGet.k (k := .inl (1 + (j : Int))) hD7, _, rfl, _, rfl, a, _, _, _, rfl, rfl, sqt (e7 _ _ htv), atI_nat (j := 0) rfl, _, rfl, Nat.le_of_ble_eq_true rfl, fun p hp => ?_⟩
      rw [valV_hsD, ← stOf_h ok ht (i := 1 + (j : Int))]
      have hk : (inT t)[j]? = some (.h t.nm (1 + (j : Int))) := by
        unfold inT
        rw [List.getElem?_map, List.getElem?_range hj]
        rfl
      have hnew : Spot.h t.nm (1 + (j : Int)) ∉ (W.ps.map (fun q => Spot.p q.1) ++ allT (W.ts.take i)) ++ (inT t).take j := fun m => by
        rcases List.mem_append.mp m with m | m
        · rcases List.mem_append.mp m with m | m
          · obtain ⟨q0, _, z⟩ := List.mem_map.mp m
            cases z
          · obtain ⟨t', ht', i', z, _⟩ := allT_mem.mp m
            obtain ⟨k, hk⟩ := List.getElem?_of_mem ht'
            have k1 := (List.getElem?_eq_some_iff.mp hk).1
            rw [List.length_take] at k1
            rw [List.getElem?_take_of_lt (by omega)] at hk
            have := nd_ix ok.ts.nd (i := k) (j := i) (x := t.nm) (by rw [List.getElem?_map, hk]; show some t'.nm = some t.nm; rw [(Spot.h.inj z).1]) (by rw [List.getElem?_map, htn]; rfl)
            omega
        · obtain ⟨k, hk'⟩ := List.getElem?_of_mem m
          have k1 := (List.getElem?_eq_some_iff.mp hk').1
          rw [List.length_take] at k1
          rw [List.getElem?_take_of_lt (by omega)] at hk'
          have := nd_ix (inT_nd t) hk' hk
          omega
      have hlen : (stMap (stOf W) ((W.ps.map (fun q => Spot.p q.1) ++ allT (W.ts.take i)) ++ (inT t).take j)).length < sizeLine := by
        refine Evl.sz_lt ?_
        have h1 := allT_len (ps := W.ps) (rd := W.rd) (ts := W.ts.take i) fun x hx => ok.ts.ok x (List.mem_of_mem_take hx)
        have h2 := ok.ps.hi
        unfold stMap
        rw [List.length_map, List.length_append, List.length_append, List.length_map, List.length_take]
        rw [List.length_take] at h1
        omega
      obtain ⟨H4, hput, m8, hsame⟩ := MPut.md (H' := H) (y := .ref p) (v := .int (stOf W (.h t.nm (1 + (j : Int))))) (MD.mono (Evl.Ex.new (o := .tup [.str t.nm, .int (1 + (j : Int))]) hp) m7) hlen (k := .h t.nm (1 + (j : Int))) ⟨p, rfl, upd_same⟩
      rw [stMap_put hnew] at m8
      have ndD : D2 ≠ d := fun z => by
        obtain ⟨es, h1, _⟩ := m7
        rw [z, h1] at hD7
        cases hD7
      refine ⟨d, _, H4, rfl, hput, some (.int (1 + (j : Int))), rfl, fun b o hb => ?_, ?_, ?_⟩
      · rw [hsame b fun z => by rw [z, hd] at hb; cases hb]
        exact (e7.trans (Evl.Ex.new hp)) _ _ hb
      · rw [hsame D2 ndD]
        exact (Evl.Ex.new hp) _ _ hD7
      · rw [List.take_add_one, hk, ← List.append_assoc]
        exact m8
    · obtain ⟨y6, rfl, e7, hD7, m7⟩ := w
      subst hD'
      refine ⟨_, _, _, rfl, e7, ?_⟩
      rw [List.take_of_length_le (l := inT t) (by unfold inT; rw [List.length_map, List.length_range]; exact Nat.le_refl _)] at m7
      rw [List.take_add_one, htn]
      unfold allT
      rw [List.flatMap_append, ← List.append_assoc]
      have e1 : List.flatMap inT (some t).toList = inT t := by show inT t ++ [] = _; rw [List.append_nil]
      rw [e1]
      exact m7
  · obtain ⟨x4, x5, x6, rfl, e5, m5⟩ := w
    subst hrt
    dsimp only [tCKw, tM1, tVals, tVar, tC, tB, tAnd, tOr, tNot, tAndV, tOrV, tNotV, tIf, tNext, tSeq, tBreak, tCont, tDrop, tRet, tRetN, tIfS, tNever, gName, gNil, gCons, gTup, gSub, tAsg, tPar, tAug, tTest, tChain, tFld, sFld, tNil, tCons, tTup, tLst, tCall, tMeth, tCB, tBM, tNoPart, tPart, tSl, tOp, tUn, rI, rI0, rU, iList, iTup, iRng1, iRng2, iStr, iEnum, iZip, iItems, iVals, tDGet, tDIn, tDNotIn, sDPut, tDGet2, tDNewK, tDNewT, tYes, fin, List.cons_append, List.nil_append, bx, cxOf, Cx.nox]
    rw [List.length_map, tlen, List.take_length] at m5
    exact ⟨_, rfl, hQ d _ hd e5 m5⟩
end
end K33


set_option Elab.async false
set_option linter.all false
set_option maxRecDepth 100000
set_option maxHeartbeats 8000000
namespace K33
open PySem PySem.Spec PyProof.Rows L2 K33M
theorem atSE {t : TE} {Q : VK} {σ : L2.St} {H : Hp} (σ' : L2.St) (e : σ = σ') (h : t σ' H Q) : t σ H Q := e ▸ h
def sp_law_next_to (P : Program) (w : World) : Sp := fun vs H Q _ => ∃ (q : Addr) (W : Web), vs = [.ref q] ∧ SpecAt H q W.ps W.ts ∧ WOk W ∧ ∀ d H', H d = none → Ex H H' → Bes P w H H' d (allS W) 288 (nbOf W) → Q (.ref d) H'
section
variable {P : Program} {w : World} {K : PySem.W.Frag} {mg : Str → Option Value} {base : Heap}
theorem o_law_next_to (T : Tx K mg) : FO P w K mg base 3 (He.ga K "_law_next_to") ["_law_spec"] (sp_law_next_to P w) := def_ok T.f_law_next_to sc_law_next_to (fun _ _ _ _ _ _ us hl => match us, hl with | [_], _ => rfl)
    (fun _ _ _ _ h => by obtain ⟨_, _, rfl, _⟩ := h; rfl) fun cdv A outer s H vs Q E hr h => by
  have hu := hu_of hr
  obtain ⟨q, W, rfl, hsp, ok, hQ⟩ := h
  obtain ⟨l, lt, as, bs', hq, hl, hpsA, hlt, htsA⟩ := hsp.ex
  refine ⟨_, (pss_cons (ps_asg (pv 0) (pg_tup rfl (pgs_cons (pg_name (i := 1) sc_law_next_to.nd rfl (.inl rfl)) (pgs_cons (pg_name (i := 2) sc_law_next_to.nd rfl (.inl rfl)) pgs_nil))))
      (pss_cons (ps_set (i := 3) sc_law_next_to.nd rfl (.inl rfl) (pe_callTy (call_dictM (hr.mono (by decide)) rfl) (by rfl) T.z_dict (by decide +kernel) (pa_cons (pe_lc (own := [("_law_spot_here", 8)]) rfl sc_law_next_to.nd (pi_mkeysL (c_fn (o_law_stood T) T.g_law_stood (hr.mono (by decide)) (pa_cons (pv 0) pa_nil))) (blkOk_by (by rfl)) (fun _ _ _ _ _ => (pg_name (i := 8) sc_law_next_to.nd rfl (.inl rfl))) (fun _ _ _ _ _ => pts_nil) (fun _ _ _ _ _ => (pe_tup (pa_cons (pv 8) (pa_cons (pe_lst pa_nil) pa_nil))))) pa_nil)))
      (pss_cons (ps_for PassesOwn.never rfl (pi_list (pv 2)) (pg_name (i := 4) sc_law_next_to.nd rfl (.inl rfl))
        (pss_one (ps_for PassesOwn.never rfl (pi_range1 (by rfl) T.z_range (pa_cons (pe_ix ix_tup (pv 4) pe_int (fun _ _ => rfl)) pa_nil)) (pg_name (i := 5) sc_law_next_to.nd rfl (.inl rfl))
          (pss_cons (ps_par (i := 6) (j := 7) rfl sc_law_next_to.nd rfl rfl (by decide) rfl rfl (pa_cons (c_fn (o_law_spot T) T.g_law_spot (hr.mono (by decide)) (pa_cons (pv 4) (pa_cons (pv 5) pa_nil))) (pa_cons (c_fn (o_law_spot T) T.g_law_spot (hr.mono (by decide)) (pa_cons (pv 4) (pa_cons (pe_op op_add (pv 5) pe_int) pa_nil))) pa_nil)) (by rfl))
          (pss_cons (ps_expr (pe_bm PySem.F.plainAttrs_list PySem.F.slot_list_append PySem.F.type_list_append mt_append (pe_mget hu (pv 3) (pv 6) (fun _ _ => rfl)) (pa_cons (pv 7) pa_nil)))
          (pss_one (ps_expr (pe_bm PySem.F.plainAttrs_list PySem.F.slot_list_append PySem.F.type_list_append mt_append (pe_mget hu (pv 3) (pv 7) (fun _ _ => rfl)) (pa_cons (pv 6) pa_nil)))))))))
      (pss_one (ps_ret (pv 3)))))), ?_⟩
  refine seq2 fun tl htl => ?_
  dsimp only [tSeq]
  dsimp only [tCKw, tM1, tVals, tVar, tC, tB, tAnd, tOr, tNot, tAndV, tOrV, tNotV, tIf, tNext, tSeq, tBreak, tCont, tDrop, tRet, tRetN, tIfS, tNever, gName, gNil, gCons, gTup, gSub, tAsg, tPar, tAug, tTest, tChain, tFld, sFld, tNil, tCons, tTup, tLst, tCall, tMeth, tCB, tBM, tNoPart, tPart, tSl, tOp, tUn, rI, rI0, rU, iList, iTup, iRng1, iRng2, iStr, iEnum, iZip, iItems, iVals, tDGet, tDIn, tDNotIn, sDPut, tDGet2, tDNewK, tDNewT, tYes, fin, List.cons_append, List.nil_append, bx, cxOf, Cx.nox]
  refine ⟨_, rfl, q, _, rfl, sqt hq, rfl, _, _, rfl, _, _, rfl, rfl, ?_⟩
  refine atSE (t := tLc _ _ _ _ _) [some (.ref q), some (.ref l), some (.ref lt), none, none, none, none, none, none] rfl ?_
  refine lc_te fun te tt hte htt => ?_
  dsimp only [iMKeysL]
  dsimp only [tCKw, tM1, tVals, tVar, tC, tB, tAnd, tOr, tNot, tAndV, tOrV, tNotV, tIf, tNext, tSeq, tBreak, tCont, tDrop, tRet, tRetN, tIfS, tNever, gName, gNil, gCons, gTup, gSub, tAsg, tPar, tAug, tTest, tChain, tFld, sFld, tNil, tCons, tTup, tLst, tCall, tMeth, tCB, tBM, tNoPart, tPart, tSl, tOp, tUn, rI, rI0, rU, iList, iTup, iRng1, iRng2, iStr, iEnum, iZip, iItems, iVals, tDGet, tDIn, tDNotIn, sDPut, tDGet2, tDNewK, tDNewT, tYes, fin, List.cons_append, List.nil_append, bx, cxOf, Cx.nox]
  refine ⟨_, rfl, q, W, rfl, hsp, ok, fun d0 H1 hd0 e1 m1 => ?_⟩
  obtain ⟨es, he, hpe, hke⟩ := m1
  refine ⟨d0, es, rfl, he, fun o D hD => ?_⟩
  have hk0 : es.map (·.1) = allS W := by
    have := congrArg (fun x : List (Spot × V) => x.map (·.1)) hpe
    rw [stMap_keys] at this
    rw [← this]
    unfold pairs
    rw [List.map_map]
    rfl
  have el : es.length = (allS W).length := by rw [← hk0, List.length_map]
  have hla := allS_len ok
  have hka : ∀ (j : Nat) e, es[j]? = some e → (allS W)[j]? = some e.1 := fun j e hj => by rw [← hk0, List.getElem?_map, hj]; rfl
  have eL : Ex H (upd H1 d0 (.frz o (.ext (mixH P w d0 es)))) := e1.mut hd0
  have hDn : H D = none := Evl.fresh_back eL hD
  have ndD : d0 ≠ D := fun z => by rw [← z, upd_same] at hD; cases hD
  refine lc_it (g := gName 8) walk_mkeys (fun i H' => Ex (upd H1 d0 (.frz o (.ext (mixH P w d0 es)))) H' ∧ H' d0 = some (.frz o (.ext (mixH P w d0 es))) ∧ ∃ Ts bs : List Addr, H' D = some (.lst (Ts.map V.ref)) ∧ Ts.length = i ∧ bs.length = i ∧ bs.Nodup ∧ (∀ b ∈ bs, H b = none ∧ b ≠ D ∧ H' b = some (.lst [])) ∧ ∀ (j : Nat) T b e, Ts[j]? = some T → bs[j]? = some b → es[j]? = some e → H' T = some (.tup [e.2.1, .ref b])) ?_ (fun i H' _ w => w.2.1) (fun i x H' H'' hi w Y => ?_) fun H' w => ?_
  · refine ⟨Evl.Ex.new hD, by rw [upd_ne ndD, upd_same], [], [], upd_same, rfl, rfl, List.nodup_nil, fun _ h => (nomatch h), fun j T b e h => by simp at h⟩
  · obtain ⟨e2, hd2, Ts, bs, hDt, hT1, hb1, hnd, hbs, hTs⟩ := w
    obtain ⟨rfl, e, hei, rfl⟩ := Y
    refine ⟨rfl, ?_⟩
    subst hte htt
    dsimp only [tCKw, tM1, tVals, tVar, tC, tB, tAnd, tOr, tNot, tAndV, tOrV, tNotV, tIf, tNext, tSeq, tBreak, tCont, tDrop, tRet, tRetN, tIfS, tNever, gName, gNil, gCons, gTup, gSub, tAsg, tPar, tAug, tTest, tChain, tFld, sFld, tNil, tCons, tTup, tLst, tCall, tMeth, tCB, tBM, tNoPart, tPart, tSl, tOp, tUn, rI, rI0, rU, iList, iTup, iRng1, iRng2, iStr, iEnum, iZip, iItems, iVals, tDGet, tDIn, tDNotIn, sDPut, tDGet2, tDNewK, tDNewT, tYes, fin, List.cons_append, List.nil_append, bx, cxOf, Cx.nox]
    refine ⟨_, rfl, Nat.zero_le _, fun b hb => ⟨Nat.le_of_ble_eq_true rfl, fun T hT => ?_⟩⟩
    have nTb : T ≠ b := fun z => by rw [z, upd_same] at hT; cases hT
    have hT' : H'' T = none := by rw [upd_ne nTb] at hT; exact hT
    have nbD : b ≠ D := fun z => by rw [z, hDt] at hb; cases hb
    have nTD : T ≠ D := fun z => by rw [z, hDt] at hT'; cases hT'
    have nbd : d0 ≠ b := fun z => by rw [← z, hd2] at hb; cases hb
    have nTd : d0 ≠ T := fun z => by rw [← z, hd2] at hT'; cases hT'
    refine ⟨Ts.map V.ref, by rw [upd_ne nTD.symm, upd_ne nbD.symm]; exact hDt, Evl.sz_lt (by rw [List.length_map]; omega), ((e2.trans (Evl.Ex.new hb)).trans (Evl.Ex.new hT)).mut hD, by rw [upd_ne ndD, upd_ne nTd, upd_ne nbd]; exact hd2, Ts ++ [T], bs ++ [b], by rw [upd_same, List.map_append]; rfl, by rw [List.length_append, hT1]; rfl, by rw [List.length_append, hb1]; rfl, ?_, ?_, ?_⟩
    · refine List.nodup_append.mpr ⟨hnd, List.nodup_cons.mpr ⟨fun h => (nomatch h), List.nodup_nil⟩, fun x hx y hy z => ?_⟩
      rw [List.mem_singleton.mp hy] at z
      have := (hbs x hx).2.2
      rw [z, hb] at this
      cases this
    · intro x hx
      rcases List.mem_append.mp hx with hx | hx
      · obtain ⟨h1, h2, h3⟩ := hbs x hx
        have n1 : x ≠ T := fun z => by rw [z, hT'] at h3; cases h3
        have n2 : x ≠ b := fun z => by rw [z, hb] at h3; cases h3
        exact ⟨h1, h2, by rw [upd_ne h2, upd_ne n1, upd_ne n2]; exact h3⟩
      · rw [List.mem_singleton.mp hx]
        exact ⟨Evl.fresh_back (eL.trans e2) hb, nbD, by rw [upd_ne nbD, upd_ne nTb.symm, upd_same]⟩
    · intro j T' b' e' hj1 hj2 hj3
      by_cases c : j < i
      · rw [List.getElem?_append_left (by omega)] at hj1 hj2
        have h3 := hTs j T' b' e' hj1 hj2 hj3
        have n1 : T' ≠ T := fun z => by rw [z, hT'] at h3; cases h3
        have n2 : T' ≠ b := fun z => by rw [z, hb] at h3; cases h3
        have n3 : T' ≠ D := fun z => by rw [z, hDt] at h3; cases h3
        rw [upd_ne n3, upd_ne n1, upd_ne n2]
        exact h3
      · rw [List.getElem?_append_right (by omega)] at hj1 hj2
        have z1 := (List.getElem?_eq_some_iff.mp hj1).1
        have ej : j = i := by
          rw [List.length_singleton] at z1
          omega
        subst ej
        rw [hT1, Nat.sub_self] at hj1
        rw [hb1, Nat.sub_self] at hj2
        cases hj1
        cases hj2
        rw [hei] at hj3
        cases hj3
        rw [upd_ne nTD, upd_same]
  · obtain ⟨e2, hd2, Ts, bs, hDt, hT1, hb1, hnd, hbs, hTs⟩ := w
    obtain ⟨es', hes'⟩ : ∃ es' : ME, es' = List.zipWith (fun (e : Spot × V × V) b => (e.1, e.2.1, V.ref b)) es bs := ⟨_, rfl⟩
    have at' : ∀ (j : Nat) e', es'[j]? = some e' → ∃ e b, es[j]? = some e ∧ bs[j]? = some b ∧ e' = (e.1, e.2.1, V.ref b) := fun j e' hj => by
      rw [hes', List.getElem?_zipWith] at hj
      split at hj
      · next e b h1 h2 => exact ⟨e, b, h1, h2, (Option.some.inj hj).symm⟩
      · cases hj
    have len' : es'.length = es.length := by rw [hes', List.length_zipWith, hb1]; exact Nat.min_self _
    have pr' : pairs es' = zipK (allS W) bs := by
      rw [hes']
      unfold pairs zipK
      rw [← hk0, List.map_zipWith, List.zipWith_map_left]
    have spv : ∀ e ∈ es, SpV H' e.2.1 e.1 := fun e hin => ((hke e hin).mono fun b xs h => by
      rw [upd_ne fun z => by rw [z, he] at h; cases h]
      exact h).mono fun b xs h => e2 b _ h
    refine ⟨D, Ts, es', rfl, sql hDt, ?_, ?_, ?_, fun p hp => ?_⟩
    · refine pr_of (by omega) fun j T e' h1 h2 => ?_
      obtain ⟨e, b, k1, k2, rfl⟩ := at' j e' h2
      exact hTs j T b e h1 k2 k1
    · have : es'.map (·.1) = allS W := by
        have := congrArg (fun x : List (Spot × V) => x.map (·.1)) pr'
        rw [zipK_keys (by omega)] at this
        rw [← this]
        unfold pairs
        rw [List.map_map]
        rfl
      rw [this]
      exact allS_nd ok
    · intro e' he'
      obtain ⟨j, hj⟩ := List.getElem?_of_mem he'
      obtain ⟨e, b, k1, k2, rfl⟩ := at' j e' hj
      exact spv e (List.mem_of_getElem? k1)
    have ep : Ex H' (upd H' p (.ext (mixH P w p es'))) := Evl.Ex.new hp
    have b0 : Bes P w H (upd H' p (.ext (mixH P w p es'))) p (allS W) 0 (nbTo []) := by
      refine ⟨bs, hnd, by omega, ⟨es', upd_same, pr', fun e' he' => ?_⟩, fun b hb => (hbs b hb).1, fun i sp b hi hb => ⟨[], [], ep _ _ (hbs b (List.mem_of_getElem? hb)).2.2, .nil, Nat.le_refl _, fun u => ⟨fun h => (nomatch h), fun ⟨t, h, _⟩ => (nomatch h)⟩⟩⟩
      obtain ⟨j, hj⟩ := List.getElem?_of_mem he'
      obtain ⟨e, b, k1, k2, rfl⟩ := at' j e' hj
      exact (spv e (List.mem_of_getElem? k1)).mono fun b xs h => ep b _ h
    have eH : Ex H (upd H' p (.ext (mixH P w p es'))) := (eL.trans e2).trans ep
    have hpn : H p = none := Evl.fresh_back (eL.trans e2) hp
    generalize upd H' p (.ext (mixH P w p es')) = H2 at b0 eH
    subst htl
    show tSeq _ _ _ _ _
    refine atSt (t := tSeq _ _) [some (.ref q), some (.ref l), some (.ref lt), some (.ref p), none, none, none, none, none] rfl ?_
    refine seqT fun rt hrt => ?_
    refine for_te fun tb htb => ?_
    dsimp only [tFor]
    dsimp only [tCKw, tM1, tVals, tVar, tC, tB, tAnd, tOr, tNot, tAndV, tOrV, tNotV, tIf, tNext, tSeq, tBreak, tCont, tDrop, tRet, tRetN, tIfS, tNever, gName, gNil, gCons, gTup, gSub, tAsg, tPar, tAug, tTest, tChain, tFld, sFld, tNil, tCons, tTup, tLst, tCall, tMeth, tCB, tBM, tNoPart, tPart, tSl, tOp, tUn, rI, rI0, rU, iList, iTup, iRng1, iRng2, iStr, iEnum, iZip, iItems, iVals, tDGet, tDIn, tDNotIn, sDPut, tDGet2, tDNewK, tDNewT, tYes, fin, List.cons_append, List.nil_append, bx, cxOf, Cx.nox]
    have tlen := pr_len htsA
    have htl := ok.ts.hi
    refine ⟨_, rfl, lt, rfl, ⟨_, sql (eH _ _ hlt)⟩, ?_⟩
    refine for_it (g := gName 4) (tb := tb) (D := { fin Q with nx := rt (fin Q) }) (walk_list (a := lt) (xs := bs'.map V.ref)) (fun i σ H' => ∃ (x4 x5 x6 x7 : Option V), σ = [some (.ref q), some (.ref l), some (.ref lt), some (.ref p), x4, x5, x6, x7, none] ∧ Ex H H' ∧ Bes P w H H' p (allS W) (24 * i) (nbTo (W.ts.take i))) ?_ (fun i σ H' _ w => let ⟨_, _, _, _, _, e, _⟩ := w; sql (e _ _ hlt)) (fun i x σ H' H'' hi w Y => ?_) fun σ H' w => ?_
    · exact ⟨none, none, none, none, rfl, eH, b0⟩
    · obtain ⟨x4, x5, x6, x7, rfl, e5, b5⟩ := w
      obtain ⟨rfl, hy⟩ := Y
      rw [List.getElem?_map] at hy
      obtain ⟨a, ha, rfl⟩ := Option.map_eq_some_iff.mp hy
      obtain ⟨t, htn, v, htv, hvs⟩ := pr_at htsA ha
      have ht := List.mem_of_getElem? htn
      have tok := ok.ts.ok t ht
      have l12 := len12 tok
      subst htb
      dsimp only [tCKw, tM1, tVals, tVar, tC, tB, tAnd, tOr, tNot, tAndV, tOrV, tNotV, tIf, tNext, tSeq, tBreak, tCont, tDrop, tRet, tRetN, tIfS, tNever, gName, gNil, gCons, gTup, gSub, tAsg, tPar, tAug, tTest, tChain, tFld, sFld, tNil, tCons, tTup, tLst, tCall, tMeth, tCB, tBM, tNoPart, tPart, tSl, tOp, tUn, rI, rI0, rU, iList, iTup, iRng1, iRng2, iStr, iEnum, iZip, iItems, iVals, tDGet, tDIn, tDNotIn, sDPut, tDGet2, tDNewK, tDNewT, tYes, fin, List.cons_append, List.nil_append, bx, cxOf, Cx.nox]
      refine endsT fun D' hD' => ?_
      refine for_te fun tb htb => ?_
      refine atSt (t := tFor _ _ _) [some (.ref q), some (.ref l), some (.ref lt), some (.ref p), some (.ref a), x5, x6, x7, none] rfl ?_
      dsimp only [tFor]
      dsimp only [tCKw, tM1, tVals, tVar, tC, tB, tAnd, tOr, tNot, tAndV, tOrV, tNotV, tIf, tNext, tSeq, tBreak, tCont, tDrop, tRet, tRetN, tIfS, tNever, gName, gNil, gCons, gTup, gSub, tAsg, tPar, tAug, tTest, tChain, tFld, sFld, tNil, tCons, tTup, tLst, tCall, tMeth, tCB, tBM, tNoPart, tPart, tSl, tOp, tUn, rI, rI0, rU, iList, iTup, iRng1, iRng2, iStr, iEnum, iZip, iItems, iVals, tDGet, tDIn, tDNotIn, sDPut, tDGet2, tDNewK, tDNewT, tYes, fin, List.cons_append, List.nil_append, bx, cxOf, Cx.nox]
      refine ⟨_, rfl, a, _, _, _, rfl, rfl, sqt (e5 _ _ htv), atI_nat (j := 3) rfl, ?_⟩
      refine ⟨_, rfl, by omega, by omega, ?_⟩
      refine for_it (g := gName 5) (tb := tb) (D := D') (walk_range (lo := 0) (n := t.len.toNat)) (fun j σ H' => ∃ (x5 x6 x7 : Option V), σ = [some (.ref q), some (.ref l), some (.ref lt), some (.ref p), some (.ref a), x5, x6, x7, none] ∧ Ex H H' ∧ Bes P w H H' p (allS W) (24 * i + 2 * j) (nbUp (W.ts.take i) t j)) ?_ (fun _ _ _ _ _ => True.intro) (fun j x σ H' H'' hj w Y => ?_) fun σ H' w => ?_
      · exact ⟨x5, x6, x7, rfl, e5, b5.cong (Nat.le_refl _) fun v u => (nbUp_zero _ _ _ _).symm⟩
      · obtain ⟨y5, y6, y7, rfl, e7, b7⟩ := w
        obtain ⟨rfl, rfl⟩ := Y
        subst htb
        dsimp only [tCKw, tM1, tVals, tVar, tC, tB, tAnd, tOr, tNot, tAndV, tOrV, tNotV, tIf, tNext, tSeq, tBreak, tCont, tDrop, tRet, tRetN, tIfS, tNever, gName, gNil, gCons, gTup, gSub, tAsg, tPar, tAug, tTest, tChain, tFld, sFld, tNil, tCons, tTup, tLst, tCall, tMeth, tCB, tBM, tNoPart, tPart, tSl, tOp, tUn, rI, rI0, rU, iList, iTup, iRng1, iRng2, iStr, iEnum, iZip, iItems, iVals, tDGet, tDIn, tDNotIn, sDPut, tDGet2, tDNewK, tDNewT, tYes, fin, List.cons_append, List.nil_append, bx, cxOf, Cx.nox]
        refine ⟨_, rfl, _, rfl, a, t, _, rfl, ⟨v, e7 _ _ htv, hvs.mono e7⟩, fun y1 Ha ea hy1 => ⟨_, rfl, _, rfl, _, _, rfl, rfl, a, t, _, rfl, ⟨v, (e7.trans ea) _ _ htv, hvs.mono (e7.trans ea)⟩, fun y2 Hb eb hy2 => ⟨_, _, rfl, ?_⟩⟩⟩
        rw [Int.zero_add] at hy1 hy2
        have s1 : spotOf t (j : Int) ∈ allS W := allS_mem.mpr (spotOf_in ok ht (by omega) (by omega))
        have s2 : spotOf t ((j : Int) + 1) ∈ allS W := allS_mem.mpr (spotOf_in ok ht (by omega) (by omega))
        have hy1' : SpV Hb y1 (spotOf t (j : Int)) := hy1.mono fun _ _ h => eb _ _ h
        dsimp only [tMGet]
        dsimp only [tCKw, tM1, tVals, tVar, tC, tB, tAnd, tOr, tNot, tAndV, tOrV, tNotV, tIf, tNext, tSeq, tBreak, tCont, tDrop, tRet, tRetN, tIfS, tNever, gName, gNil, gCons, gTup, gSub, tAsg, tPar, tAug, tTest, tChain, tFld, sFld, tNil, tCons, tTup, tLst, tCall, tMeth, tCB, tBM, tNoPart, tPart, tSl, tOp, tUn, rI, rI0, rU, iList, iTup, iRng1, iRng2, iStr, iEnum, iZip, iItems, iVals, tDGet, tDIn, tDNotIn, sDPut, tDGet2, tDNewK, tDNewT, tYes, fin, List.cons_append, List.nil_append, bx, cxOf, Cx.nox]
        have e8 := (e7.trans ea).trans eb
        obtain ⟨kvs, b, ys, m9, v9, hb9, hl9, hn9, b9⟩ := (b7.mono (ea.trans eb)).add (allS_nd ok) s1 hy2
        have xl := ExL.upd (ys := ys ++ [y2]) hb9
        obtain ⟨kvs', b', ys', m10, v10, hb10, hl10, hn10, b10⟩ := b9.add (allS_nd ok) s2 (hy1'.monoL xl)
        have i12 := (List.getElem?_eq_some_iff.mp htn).1
        have i24 : 24 * i + 2 * j ≤ 400 := by omega
        refine ⟨_, rfl, _, rfl, p, kvs, _, _, rfl, m9.r, hy1', v9, .inl ⟨rfl, _, sql hb9⟩, _, rfl, b, _, _, rfl, rfl, hb9, Evl.sz_lt (by omega), _, rfl, _, rfl, p, kvs', _, _, rfl, m10.r, hy2.monoL xl, v10, .inl ⟨rfl, _, sql hb10⟩, _, rfl, b', _, _, rfl, rfl, hb10, Evl.sz_lt (by omega), ?_⟩
        exact ⟨_, _, _, rfl, (e8.mut hn9).mut hn10, b10.cong (by omega) fun v u => (nbUp_succ _ _ _ _ _).symm⟩
      · obtain ⟨y5, y6, y7, rfl, e7, b7⟩ := w
        subst hD'
        refine ⟨_, _, _, _, rfl, e7, b7.cong (by omega) fun v u => ?_⟩
        rw [nbUp_full _ _ (by omega), List.take_add_one, htn]
        rfl
    · obtain ⟨x4, x5, x6, x7, rfl, e5, b5⟩ := w
      subst hrt
      dsimp only [tCKw, tM1, tVals, tVar, tC, tB, tAnd, tOr, tNot, tAndV, tOrV, tNotV, tIf, tNext, tSeq, tBreak, tCont, tDrop, tRet, tRetN, tIfS, tNever, gName, gNil, gCons, gTup, gSub, tAsg, tPar, tAug, tTest, tChain, tFld, sFld, tNil, tCons, tTup, tLst, tCall, tMeth, tCB, tBM, tNoPart, tPart, tSl, tOp, tUn, rI, rI0, rU, iList, iTup, iRng1, iRng2, iStr, iEnum, iZip, iItems, iVals, tDGet, tDIn, tDNotIn, sDPut, tDGet2, tDNewK, tDNewT, tYes, fin, List.cons_append, List.nil_append, bx, cxOf, Cx.nox]
      rw [List.length_map, tlen, List.take_length] at b5
      exact ⟨_, rfl, hQ p _ hpn e5 (b5.cong (by omega) fun v u => Iff.rfl)⟩
end
end K33


set_option Elab.async false
set_option linter.all false
set_option maxRecDepth 100000
set_option maxHeartbeats 8000000
namespace K33
open PySem PySem.Spec PyProof.Rows L2 K33M
theorem isSet_rd {S : Type} {nb : S → S → Prop} {rd : Bool} (h : rd = true) (s : S → Int) (v : S) : isSet rd nb s v = 1 ↔ ∃ w, nb v w ∧ s w = (s v + 1) % 3 := by
  unfold isSet
  rw [if_pos h]
  split
  · next c => exact ⟨fun _ => c, fun _ => rfl⟩
  · next c => exact ⟨fun z => absurd z (by decide), fun z => absurd z c⟩
theorem isSet_no {S : Type} {nb : S → S → Prop} {rd : Bool} (h : ¬ rd = true) (s : S → Int) (v : S) : isSet rd nb s v = 1 ↔ s v = 0 ∧ ∃ w, nb v w ∧ s w = 1 := by
  unfold isSet
  rw [if_neg h]
  split
  · next c => exact ⟨fun _ => c, fun _ => rfl⟩
  · next c => exact ⟨fun z => absurd z (by decide), fun z => absurd z c⟩
def sp_law_set (P : Program) (w : World) : Sp := fun vs H Q _ => ∃ (d db : Addr) (W : Web) (s : Spot → Int), vs = [.ref d, .ref db, .bl W.rd] ∧ MD P w H d (stMap s (allS W)) ∧ Bes P w (fun _ => none) H db (allS W) 288 (nbOf W) ∧ WOk W ∧ db ≠ d ∧
  ∀ l H' ys us, Ex H H' → H' l = some (.lst ys) → Paired (fun y u => SpV H' y u) ys us → us.length ≤ 140 → (∀ u ∈ us, u ∈ allS W) → (∀ sp ∈ allS W, sp ∈ us ↔ isSet W.rd (nbOf W) s sp = 1) → Q (.ref l) H'
theorem Bes.hid {P : Program} {w : World} {H0 H : Hp} {d db : Addr} {L : List Spot} {n : Nat} {E : Spot → Spot → Prop} {es : ME} (he : H d = some (.ext (mixH P w d es))) (ne : db ≠ d) (h : Bes P w H0 H db L n E) : Bes P w H0 (K33.hid d H) db L n E := by
  obtain ⟨bs, h1, h2, ⟨es', g1, g2, g3⟩, h4, h5⟩ := h.ex
  have st : ∀ (b : Addr) (xs : List V), H b = some (HO.tup xs) → K33.hid d H b = some (.tup xs) := fun b xs q => by
    rw [hid_ne fun z => by rw [z, he] at q; cases q]
    exact q
  refine ⟨bs, h1, h2, ⟨es', by rw [hid_ne ne]; exact g1, g2, fun e hin => (g3 e hin).mono st⟩, h4, fun i sp b a c => ?_⟩
  obtain ⟨ys, us, k1, k2, k3⟩ := h5 i sp b a c
  exact ⟨ys, us, by rw [hid_ne fun z => by rw [z, he] at k1; cases k1]; exact k1, pr_mono k2 fun _ _ q => q.mono st, k3⟩
section
variable {P : Program} {w : World} {K : PySem.W.Frag} {mg : Str → Option Value} {base : Heap}
theorem o_law_set (T : Tx K mg) : FO P w K mg base 1 (He.ga K "_law_set") ["_law_stood_here", "_law_beside", "_law_is_rounds"] (sp_law_set P w) := def_ok T.f_law_set sc_law_set (fun _ _ _ _ _ _ us hl => match us, hl with | [_, _, _], _ => rfl)
    (fun _ _ _ _ h => by obtain ⟨_, _, _, _, rfl, _⟩ := h; rfl) fun cdv A outer s H vs Q E hr h => by
  have hu := hu_of hr
  obtain ⟨d, db, W, s, rfl, ⟨es, he, hpe, hke⟩, hb, ok, ne, hQ⟩ := h
  refine ⟨_, (pss_cons (ps_set (i := 3) sc_law_set.nd rfl (.inl rfl) (pe_lst pa_nil))
      (pss_cons (ps_lockOr (ps_for PassesOwn.never rfl (pi_mitems (pv 0)) (pg_tup rfl (pgs_cons (pg_name (i := 4) sc_law_set.nd rfl (.inl rfl)) (pgs_cons (pg_name (i := 5) sc_law_set.nd rfl (.inl rfl)) pgs_nil)))
        (pss_cons (ps_setLc (i := 6) (own := [("_law_one", 7)]) rfl sc_law_set.nd rfl rfl (sw_true rfl rfl rfl (by decide +kernel)) (pi_list (pe_mget hu (pv 1) (pv 4) (fun _ _ => rfl))) (blkOk_by (by rfl)) (fun _ _ _ _ _ => (pg_name (i := 7) sc_law_set.nd rfl (.inl rfl))) (fun _ _ _ _ _ => pts_nil) (fun _ _ _ _ _ => (pe_mgetK (P := P) (w := w) rfl rfl hu (pv 0) (pv 7) (fun _ _ => rfl))))
        (pss_cons (ps_if (PW.pt (pw_and (pt_val (pv 2)) (pw_and1 (pt_cmpR op_in_seq (pe_op op_mod (pe_op op_add (pv 5) pe_int) pe_int) (pv 6) (by rfl))))) (pss_one (ps_expr (pe_bm PySem.F.plainAttrs_list PySem.F.slot_list_append PySem.F.type_list_append mt_append (pv 3) (pa_cons (pv 4) pa_nil)))) pss_nil)
        (pss_one (ps_if (PW.pt (pw_and (pt_not (pt_val (pv 2))) (pw_and (pt_cmpR op_eq (pv 5) pe_int (nomark _)) (pw_and1 (pt_cmpR op_in_seq pe_int (pv 6) (by rfl)))))) (pss_one (ps_expr (pe_bm PySem.F.plainAttrs_list PySem.F.slot_list_append PySem.F.type_list_append mt_append (pv 3) (pa_cons (pv 4) pa_nil)))) pss_nil))))))
      (pss_one (ps_ret (pv 3))))), ?_⟩
  refine seq2 fun rt hrt => ?_
  dsimp only [tCKw, tM1, tVals, tVar, tC, tB, tAnd, tOr, tNot, tAndV, tOrV, tNotV, tIf, tNext, tSeq, tBreak, tCont, tDrop, tRet, tRetN, tIfS, tNever, gName, gNil, gCons, gTup, gSub, tAsg, tPar, tAug, tTest, tChain, tFld, sFld, tNil, tCons, tTup, tLst, tCall, tMeth, tCB, tBM, tNoPart, tPart, tSl, tOp, tUn, rI, rI0, rU, iList, iTup, iRng1, iRng2, iStr, iEnum, iZip, iItems, iVals, tDGet, tDIn, tDNotIn, sDPut, tDGet2, tDNewK, tDNewT, tYes, fin, List.cons_append, List.nil_append, bx, cxOf, Cx.nox]
  refine ⟨Nat.zero_le _, fun l hl => .inl ⟨d, .ext (mixH P w d es), (Evl.Ex.new hl) _ _ he, True.intro, fun od => ?_⟩⟩
  have nld : l ≠ d := fun z => by rw [z, he] at hl; cases hl
  refine endsT fun D' hD' => ?_
  refine for_te fun tb htb => ?_
  refine atSt (t := tFor _ _ _) [some (.ref d), some (.ref db), some (.bl W.rd), some (.ref l), none, none, none, none] rfl ?_
  dsimp only [tFor, iMItems]
  dsimp only [tCKw, tM1, tVals, tVar, tC, tB, tAnd, tOr, tNot, tAndV, tOrV, tNotV, tIf, tNext, tSeq, tBreak, tCont, tDrop, tRet, tRetN, tIfS, tNever, gName, gNil, gCons, gTup, gSub, tAsg, tPar, tAug, tTest, tChain, tFld, sFld, tNil, tCons, tTup, tLst, tCall, tMeth, tCB, tBM, tNoPart, tPart, tSl, tOp, tUn, rI, rI0, rU, iList, iTup, iRng1, iRng2, iStr, iEnum, iZip, iItems, iVals, tDGet, tDIn, tDNotIn, sDPut, tDGet2, tDNewK, tDNewT, tYes, fin, List.cons_append, List.nil_append, bx, cxOf, Cx.nox]
  have el : es.length = (allS W).length := by rw [pairs_len hpe]; unfold stMap; rw [List.length_map]
  have hla := allS_len ok
  have hix : ∀ (i : Nat) e, es[i]? = some e → (allS W)[i]? = some e.1 ∧ e.2.2 = .int (s e.1) := fun i e h => by
    have q := pairs_ix hpe h
    unfold stMap at q
    rw [List.getElem?_map] at q
    obtain ⟨sp, h1, h2⟩ := Option.map_eq_some_iff.mp q
    have h3 : sp = e.1 := congrArg Prod.fst h2
    have h4 : V.int (s sp) = e.2.2 := congrArg Prod.snd h2
    rw [h3] at h1 h4
    exact ⟨h1, h4.symm⟩
  have eV : Ex (hid d H) (upd (upd H l (.lst [])) d (.frz od (.ext (mixH P w d es)))) := (hid_ex.trans (Evl.Ex.new hl)).mut hid_same
  have hlV : hid d H l = none := by rw [hid_ne nld]; exact hl
  have keV : ∀ e ∈ es, SpV (hid d H) e.2.1 e.1 := fun e hin => (hke e hin).mono fun b xs q => by
    rw [hid_ne fun z => by rw [z, he] at q; cases q]
    exact q
  have bV := hb.hid he ne
  refine ⟨_, rfl, d, od, es, rfl, upd_same, ?_⟩
  refine for_it (g := gTup K 2 (gCons (gName 4) (gCons (gName 5) gNil))) (tb := tb) (D := D') walk_mitems (fun i σ H' => ∃ (x4 x5 x6 : Option V) (ys : List V), σ = [some (.ref d), some (.ref db), some (.bl W.rd), some (.ref l), x4, x5, x6, none] ∧ Ex (hid d H) H' ∧ H' d = some (.frz od (.ext (mixH P w d es))) ∧ H' l = some (.lst ys) ∧ Paired (fun y u => SpV H' y u) ys (((allS W).take i).filter fun sp => decide (isSet W.rd (nbOf W) s sp = 1))) ?_ (fun i σ H' _ w => let ⟨_, _, _, _, _, _, e, _⟩ := w; e) (fun i x σ H' H'' hi w Y => ?_) fun σ H' w => ?_
  · exact ⟨none, none, none, [], rfl, eV, upd_same, by rw [upd_ne nld, upd_same], .nil⟩
  · obtain ⟨x4, x5, x6, ys, rfl, e5, hd5, hl5, pr5⟩ := w
    obtain ⟨T0, e, hei, rfl, hT, rfl⟩ := Y
    obtain ⟨hi1, hi2⟩ := hix i e hei
    refine ⟨T0, _, rfl, sqt upd_same, rfl, ?_⟩
    dsimp only [tCKw, tM1, tVals, tVar, tC, tB, tAnd, tOr, tNot, tAndV, tOrV, tNotV, tIf, tNext, tSeq, tBreak, tCont, tDrop, tRet, tRetN, tIfS, tNever, gName, gNil, gCons, gTup, gSub, tAsg, tPar, tAug, tTest, tChain, tFld, sFld, tNil, tCons, tTup, tLst, tCall, tMeth, tCB, tBM, tNoPart, tPart, tSl, tOp, tUn, rI, rI0, rU, iList, iTup, iRng1, iRng2, iStr, iEnum, iZip, iItems, iVals, tDGet, tDIn, tDNotIn, sDPut, tDGet2, tDNewK, tDNewT, tYes, fin, List.cons_append, List.nil_append, bx, cxOf, Cx.nox]
    refine ⟨_, _, rfl, _, _, rfl, rfl, ?_⟩
    subst htb
    refine seqT fun tl htl => ?_
    refine atSt (t := tAsg _ _) [some (.ref d), some (.ref db), some (.bl W.rd), some (.ref l), some e.2.1, some (.int (s e.1)), x6, none] (by rw [← hi2]; rfl) ?_
    refine lc_te fun te tt hte htt => ?_
    dsimp only [tMGet, iList]
    dsimp only [tCKw, tM1, tVals, tVar, tC, tB, tAnd, tOr, tNot, tAndV, tOrV, tNotV, tIf, tNext, tSeq, tBreak, tCont, tDrop, tRet, tRetN, tIfS, tNever, gName, gNil, gCons, gTup, gSub, tAsg, tPar, tAug, tTest, tChain, tFld, sFld, tNil, tCons, tTup, tLst, tCall, tMeth, tCB, tBM, tNoPart, tPart, tSl, tOp, tUn, rI, rI0, rU, iList, iTup, iRng1, iRng2, iStr, iEnum, iZip, iItems, iVals, tDGet, tDIn, tDNotIn, sDPut, tDGet2, tDNewK, tDNewT, tYes, fin, List.cons_append, List.nil_append, bx, cxOf, Cx.nox]
    have e6 := e5.trans (Evl.Ex.new (o := .tup [e.2.1, e.2.2]) hT)
    have hd6 := (Evl.Ex.new (o := .tup [e.2.1, e.2.2]) hT) _ _ hd5
    have hl6 := (Evl.Ex.new (o := .tup [e.2.1, e.2.2]) hT) _ _ hl5
    have pr6 := pr_mono pr5 fun _ _ q => K33M.SpV.mono (fun _ _ h => (Evl.Ex.new (o := .tup [e.2.1, e.2.2]) hT) _ _ h) q
    generalize upd H' T0 (.tup [e.2.1, e.2.2]) = H6 at e6 hd6 hl6 pr6
    have hsp := List.mem_of_getElem? hi1
    have b6 := bV.mono e6
    obtain ⟨kvs, b, zs, us, m9, v9, hb9, prz, hus, hE⟩ := b6.at (allS_nd ok) hsp
    have spe := keV e (List.mem_of_getElem? hei)
    refine ⟨_, rfl, _, rfl, db, kvs, _, _, rfl, m9.r, spe.mono fun _ _ h => e6 _ _ h, v9, b, rfl, ⟨_, sql hb9⟩, ?_⟩
    have zl := pr_len prz
    refine lc_pick (g := gName 7) (walk_list (a := b) (xs := zs)) (fun _ => true) (fun i _ y => ∃ u, us[i]? = some u ∧ y = .int (s u)) (by rw [zl]; omega) (fun H e => sql (e _ _ hb9)) (fun _ _ _ _ _ r => r) gm_name (fun j y Ha Hb hj e7 Y => ?_) fun D Ha ns hD e7 hns pk => ?_
    · obtain ⟨rfl, hy⟩ := Y
      obtain ⟨u, hu, hyu⟩ := pr_at prz hy
      have hua : u ∈ allS W := (nb_in ok ((hE u).mp (List.mem_of_getElem? hu))).2
      refine ⟨rfl, fun Qy Qn k _ => ?_⟩
      subst hte htt
      dsimp only [tCKw, tM1, tVals, tVar, tC, tB, tAnd, tOr, tNot, tAndV, tOrV, tNotV, tIf, tNext, tSeq, tBreak, tCont, tDrop, tRet, tRetN, tIfS, tNever, gName, gNil, gCons, gTup, gSub, tAsg, tPar, tAug, tTest, tChain, tFld, sFld, tNil, tCons, tTup, tLst, tCall, tMeth, tCB, tBM, tNoPart, tPart, tSl, tOp, tUn, rI, rI0, rU, iList, iTup, iRng1, iRng2, iStr, iEnum, iZip, iItems, iVals, tDGet, tDIn, tDNotIn, sDPut, tDGet2, tDNewK, tDNewT, tYes, fin, List.cons_append, List.nil_append, bx, cxOf, Cx.nox]
      refine ⟨_, rfl, _, rfl, d, stMap s (allS W), u, _, rfl, ⟨es, .inr ⟨od, e7 _ _ hd6⟩, hpe, fun e hin => (keV e hin).mono fun _ _ h => e7 _ _ (e6 _ _ h)⟩, hyu.mono fun _ _ h => e7 _ _ h, stMap_val (allS_nd ok) hua, k rfl _ _ (Evl.Ex.refl _) ⟨u, hu, rfl⟩⟩
    have pk2 := pk.all
    rw [zl] at pk2
    have ens : ns = (us.map s).map V.int := by
      rw [List.map_map]
      exact paired_eq (pr_range (l := us) (S := fun u y => y = V.int (s u)) pk2 fun i u y h1 ⟨u', h2, h3⟩ => by
        rw [h1] at h2
        cases h2
        exact h3)
    subst ens
    subst htl
    dsimp only [tCKw, tM1, tVals, tVar, tC, tB, tAnd, tOr, tNot, tAndV, tOrV, tNotV, tIf, tNext, tSeq, tBreak, tCont, tDrop, tRet, tRetN, tIfS, tNever, gName, gNil, gCons, gTup, gSub, tAsg, tPar, tAug, tTest, tChain, tFld, sFld, tNil, tCons, tTup, tLst, tCall, tMeth, tCB, tBM, tNoPart, tPart, tSl, tOp, tUn, rI, rI0, rU, iList, iTup, iRng1, iRng2, iStr, iEnum, iZip, iItems, iVals, tDGet, tDIn, tDNotIn, sDPut, tDGet2, tDNewK, tDNewT, tYes, fin, List.cons_append, List.nil_append, bx, cxOf, Cx.nox]
    have hd7 := e7 _ _ hd6
    have hl7 := e7 _ _ hl6
    have pr7 : Paired (fun y u => SpV Ha y u) ys (((allS W).take i).filter fun sp => decide (isSet W.rd (nbOf W) s sp = 1)) := pr_mono pr6 fun _ _ q => K33M.SpV.mono (fun _ _ h => e7 _ _ h) q
    have ls : ys.length ≤ 140 := by
      rw [pr_len pr7]
      have := List.length_filter_le (fun sp => decide (isSet W.rd (nbOf W) s sp = 1)) ((allS W).take i)
      rw [List.length_take] at this
      omega
    have spe7 : SpV Ha e.2.1 e.1 := spe.mono fun _ _ h => e7 _ _ (e6 _ _ h)
    have mem : ∀ x : Int, x ∈ us.map s ↔ ∃ u, nbOf W e.1 u ∧ s u = x := fun x => by
      rw [List.mem_map]
      exact ⟨fun ⟨u, h1, h2⟩ => ⟨u, (hE u).mp h1, h2⟩, fun ⟨u, h1, h2⟩ => ⟨u, (hE u).mpr h1, h2⟩⟩
    have ft : ((allS W).take (i + 1)).filter (fun sp => decide (isSet W.rd (nbOf W) s sp = 1)) = ((allS W).take i).filter (fun sp => decide (isSet W.rd (nbOf W) s sp = 1)) ++ (if isSet W.rd (nbOf W) s e.1 = 1 then [e.1] else []) := by
      rw [List.take_add_one, hi1, List.filter_append]
      congr 1
      show List.filter _ [e.1] = _
      rw [List.filter_cons, List.filter_nil]
      by_cases c : isSet W.rd (nbOf W) s e.1 = 1
      · rw [if_pos c, if_pos (decide_eq_true c)]
      · rw [if_neg c, if_neg (by simpa using c)]
    have fin0 : isSet W.rd (nbOf W) s e.1 ≠ 1 → Paired (fun y u => SpV Ha y u) ys (((allS W).take (i + 1)).filter fun sp => decide (isSet W.rd (nbOf W) s sp = 1)) := fun c => by
      rw [ft, if_neg c, List.append_nil]
      exact pr7
    have xl := ExL.upd (ys := ys ++ [e.2.1]) hl7
    have fin1 : isSet W.rd (nbOf W) s e.1 = 1 → Paired (fun y u => SpV (upd Ha l (.lst (ys ++ [e.2.1]))) y u) (ys ++ [e.2.1]) (((allS W).take (i + 1)).filter fun sp => decide (isSet W.rd (nbOf W) s sp = 1)) := fun c => by
      rw [ft, if_pos c]
      exact Paired.snoc (pr_mono pr7 fun _ _ q => q.monoL xl) (spe7.monoL xl)
    have hd8 : (upd Ha l (.lst (ys ++ [e.2.1]))) d = some (.frz od (.ext (mixH P w d es))) := by rw [upd_ne nld.symm]; exact hd7
    have e8 := (e6.trans e7).mut (o := .lst (ys ++ [e.2.1])) hlV
    refine ⟨_, rfl, _, rfl, ?_⟩
    by_cases hrd : W.rd = true
    · rw [if_pos hrd]
      refine ⟨_, rfl, _, _, rfl, rfl, _, _, rfl, rfl, by decide, _, rfl, D, _, rfl, .inl (sql hns), rfl, flat_ints _, _, rfl, ?_⟩
      rw [if_neg Bool.false_ne_true, inV_ints]
      have hN : ¬ (!W.rd) = true := by rw [hrd]; decide
      by_cases c : (s e.1 + 1) % 3 ∈ us.map s
      · have c1 := (isSet_rd hrd s e.1).mpr ((mem _).mp c)
        rw [decide_eq_true c, if_pos rfl]
        refine ⟨_, rfl, .inl ⟨rfl, _, sql hl7⟩, _, rfl, l, _, _, rfl, rfl, hl7, Evl.sz_lt (by omega), _, rfl, _, rfl, ?_⟩
        rw [if_neg hN]
        exact ⟨_, _, _, _, rfl, e8, hd8, upd_same, fin1 c1⟩
      · have c1 : isSet W.rd (nbOf W) s e.1 ≠ 1 := fun z => c ((mem _).mpr ((isSet_rd hrd s e.1).mp z))
        rw [decide_eq_false c]
        refine ⟨_, rfl, _, rfl, ?_⟩
        rw [if_neg hN]
        exact ⟨_, _, _, _, rfl, e6.trans e7, hd7, hl7, fin0 c1⟩
    · rw [if_neg hrd]
      have hN : (!W.rd) = true := by
        cases h : W.rd with
        | true => exact absurd h hrd
        | false => rfl
      refine ⟨_, rfl, _, rfl, ?_⟩
      rw [if_pos hN]
      refine ⟨_, rfl, rfl, _, rfl, ?_⟩
      by_cases c0 : s e.1 = 0
      · rw [decide_eq_true (show V.int (s e.1) = V.int 0 by rw [c0]), if_pos rfl]
        refine ⟨_, rfl, D, _, rfl, .inl (sql hns), rfl, flat_ints _, _, rfl, ?_⟩
        rw [if_neg Bool.false_ne_true, inV_ints]
        by_cases c : (1 : Int) ∈ us.map s
        · have c1 := (isSet_no hrd s e.1).mpr ⟨c0, (mem _).mp c⟩
          rw [decide_eq_true c, if_pos rfl]
          refine ⟨_, rfl, .inl ⟨rfl, _, sql hl7⟩, _, rfl, l, _, _, rfl, rfl, hl7, Evl.sz_lt (by omega), ?_⟩
          exact ⟨_, _, _, _, rfl, e8, hd8, upd_same, fin1 c1⟩
        · have c1 : isSet W.rd (nbOf W) s e.1 ≠ 1 := fun z => c ((mem _).mpr ((isSet_no hrd s e.1).mp z).2)
          rw [decide_eq_false c]
          exact ⟨_, _, _, _, rfl, e6.trans e7, hd7, hl7, fin0 c1⟩
      · have c1 : isSet W.rd (nbOf W) s e.1 ≠ 1 := fun z => c0 ((isSet_no hrd s e.1).mp z).1
        rw [decide_eq_false (show ¬ V.int (s e.1) = V.int 0 by intro z; injection z with z; exact c0 z)]
        exact ⟨_, _, _, _, rfl, e6.trans e7, hd7, hl7, fin0 c1⟩
  · obtain ⟨x4, x5, x6, ys, rfl, e5, hd5, hl5, pr5⟩ := w
    rw [el, List.take_length] at pr5
    subst hD'
    refine ⟨hd5, ?_⟩
    subst hrt
    dsimp only [tCKw, tM1, tVals, tVar, tC, tB, tAnd, tOr, tNot, tAndV, tOrV, tNotV, tIf, tNext, tSeq, tBreak, tCont, tDrop, tRet, tRetN, tIfS, tNever, gName, gNil, gCons, gTup, gSub, tAsg, tPar, tAug, tTest, tChain, tFld, sFld, tNil, tCons, tTup, tLst, tCall, tMeth, tCB, tBM, tNoPart, tPart, tSl, tOp, tUn, rI, rI0, rU, iList, iTup, iRng1, iRng2, iStr, iEnum, iZip, iItems, iVals, tDGet, tDIn, tDNotIn, sDPut, tDGet2, tDNewK, tDNewT, tYes, fin, List.cons_append, List.nil_append, bx, cxOf, Cx.nox]
    have xe : Ex H (upd H' d (.ext (mixH P w d es))) := fun a o h => by
      by_cases c : a = d
      · subst c
        rw [upd_same]
        rw [he] at h
        exact h
      · rw [upd_ne c]
        exact e5 _ _ (by rw [hid_ne c]; exact h)
    refine ⟨_, rfl, hQ l _ ys _ xe (by rw [upd_ne nld]; exact hl5) (pr_mono pr5 fun _ _ q => K33M.SpV.mono (fun b xs h => ?_) q) ?_ (fun u hu => (List.mem_filter.mp hu).1) fun sp hsp => ?_⟩
    · rw [upd_ne fun z => by rw [z, hd5] at h; cases h]
      exact h
    · have := List.length_filter_le (fun sp => decide (isSet W.rd (nbOf W) s sp = 1)) (allS W)
      omega
    · rw [List.mem_filter]
      exact ⟨fun h => of_decide_eq_true h.2, fun h => ⟨hsp, decide_eq_true h⟩⟩
end
end K33


set_option Elab.async false
set_option linter.all false
set_option maxRecDepth 100000
set_option maxHeartbeats 8000000
namespace K33
open PySem PySem.Spec PyProof.Rows L2 K33M
theorem any_sp (us : List Spot) (sp : Spot) : ((us.map pySp).any fun z => PyData.eqv z (pySp sp)) = decide (sp ∈ us) := by
  by_cases c : sp ∈ us
  · rw [decide_eq_true c, List.any_eq_true]
    exact ⟨_, List.mem_map_of_mem c, by rw [sp_eqv]; exact decide_eq_true rfl⟩
  · rw [decide_eq_false c, List.any_eq_false]
    intro z hz
    obtain ⟨u, hu, rfl⟩ := List.mem_map.mp hz
    rw [sp_eqv]
    simpa using fun e : u = sp => c (e ▸ hu)
def sp_law_behind (P : Program) (w : World) : Sp := fun vs H Q _ => ∃ (d db : Addr) (W : Web) (s : Spot → Int), vs = [.ref d, .ref db, .bl W.rd] ∧ MD P w H d (stMap s (allS W)) ∧ Bes P w (fun _ => none) H db (allS W) 288 (nbOf W) ∧ WOk W ∧ db ≠ d ∧ Tri s ∧
  ∀ d' H', H d' = none → Ex H H' → MD P w H' d' (stMap (nxt W.rd (nbOf W) s) (allS W)) → Q (.ref d') H'
section
variable {P : Program} {w : World} {K : PySem.W.Frag} {mg : Str → Option Value} {base : Heap}
theorem o_law_behind (T : Tx K mg) : FO P w K mg base 2 (He.ga K "_law_behind") ["_law_stood_here", "_law_beside", "_law_is_rounds"] (sp_law_behind P w) := def_ok T.f_law_behind sc_law_behind (fun _ _ _ _ _ _ us hl => match us, hl with | [_, _, _], _ => rfl)
    (fun _ _ _ _ h => by obtain ⟨_, _, _, _, rfl, _⟩ := h; rfl) fun cdv A outer s H vs Q E hr h => by
  have hu := hu_of hr
  obtain ⟨d, db, W, s, rfl, hmd, hb, ok, ne, ht, hQ⟩ := h
  refine ⟨_, (pss_cons (ps_set (i := 3) sc_law_behind.nd rfl (.inl rfl) (c_fn (o_law_set T) T.g_law_set (hr.mono (by decide)) (pa_cons (pv 0) (pa_cons (pv 1) (pa_cons (pv 2) pa_nil)))))
      (pss_cons (ps_set (i := 4) sc_law_behind.nd rfl (.inl rfl) pe_mnew)
      (pss_cons (ps_lockOr (ps_for PassesOwn.never rfl (pi_mitems (pv 0)) (pg_tup rfl (pgs_cons (pg_name (i := 5) sc_law_behind.nd rfl (.inl rfl)) (pgs_cons (pg_name (i := 6) sc_law_behind.nd rfl (.inl rfl)) pgs_nil)))
        (pss_one (ps_if (pt_val (pv 2)) (pss_one (ps_mput hu (pv 4) (pv 5) (pe_op op_mod (pe_op op_add (pv 6) (pe_callTy call_int1 (by rfl) T.z_int (by decide +kernel) (pa_cons (pe_cmpR (op_inD (hu65 hr)) (pv 5) (pv 3) (by rfl)) pa_nil))) pe_int) rfl)) (pss_one (ps_mput hu (pv 4) (pv 5) (pe_ix ix_list (pe_lst (pa_cons (pe_callTy call_int1 (by rfl) T.z_int (by decide +kernel) (pa_cons (pe_cmpR (op_inD (hu65 hr)) (pv 5) (pv 3) (by rfl)) pa_nil)) (pa_cons pe_int (pa_cons pe_int pa_nil)))) (pv 6) (fun _ _ => rfl)) rfl))))))
      (pss_one (ps_ret (pv 4)))))), ?_⟩
  refine seq3 fun rt hrt => ?_
  dsimp only [tCKw, tM1, tVals, tVar, tC, tB, tAnd, tOr, tNot, tAndV, tOrV, tNotV, tIf, tNext, tSeq, tBreak, tCont, tDrop, tRet, tRetN, tIfS, tNever, gName, gNil, gCons, gTup, gSub, tAsg, tPar, tAug, tTest, tChain, tFld, sFld, tNil, tCons, tTup, tLst, tCall, tMeth, tCB, tBM, tNoPart, tPart, tSl, tOp, tUn, rI, rI0, rU, iList, iTup, iRng1, iRng2, iStr, iEnum, iZip, iItems, iVals, tDGet, tDIn, tDNotIn, sDPut, tDGet2, tDNewK, tDNewT, tYes, fin, List.cons_append, List.nil_append, bx, cxOf, Cx.nox]
  refine ⟨_, rfl, _, rfl, _, rfl, d, db, W, s, rfl, hmd, hb, ok, ne, fun l H1 ys us e1 hl1 pr1 lus hus hset => ?_⟩
  dsimp only [tMNew]
  refine fun f hf => .inl ?_
  obtain ⟨es, he, hpe, hke⟩ := hmd
  have he1 := e1 _ _ he
  have nfd : f ≠ d := fun z => by rw [z, he1] at hf; cases hf
  have nfl : f ≠ l := fun z => by rw [z, hl1] at hf; cases hf
  have nld : l ≠ d := fun z => by rw [z, he1] at hl1; cases hl1
  refine ⟨d, .ext (mixH P w d es), (Evl.Ex.new hf) _ _ he1, True.intro, fun od => ?_⟩
  refine endsT fun D' hD' => ?_
  refine for_te fun tb htb => ?_
  refine atSt (t := tFor _ _ _) [some (.ref d), some (.ref db), some (.bl W.rd), some (.ref l), some (.ref f), none, none] rfl ?_
  dsimp only [tFor, iMItems]
  dsimp only [tCKw, tM1, tVals, tVar, tC, tB, tAnd, tOr, tNot, tAndV, tOrV, tNotV, tIf, tNext, tSeq, tBreak, tCont, tDrop, tRet, tRetN, tIfS, tNever, gName, gNil, gCons, gTup, gSub, tAsg, tPar, tAug, tTest, tChain, tFld, sFld, tNil, tCons, tTup, tLst, tCall, tMeth, tCB, tBM, tNoPart, tPart, tSl, tOp, tUn, rI, rI0, rU, iList, iTup, iRng1, iRng2, iStr, iEnum, iZip, iItems, iVals, tDGet, tDIn, tDNotIn, sDPut, tDGet2, tDNewK, tDNewT, tYes, fin, List.cons_append, List.nil_append, bx, cxOf, Cx.nox]
  have el : es.length = (allS W).length := by rw [pairs_len hpe]; unfold stMap; rw [List.length_map]
  have hla := allS_len ok
  have hix : ∀ (i : Nat) e, es[i]? = some e → (allS W)[i]? = some e.1 ∧ e.2.2 = .int (s e.1) := fun i e h => by
    have q := pairs_ix hpe h
    unfold stMap at q
    rw [List.getElem?_map] at q
    obtain ⟨sp, h1, h2⟩ := Option.map_eq_some_iff.mp q
    have h3 : sp = e.1 := congrArg Prod.fst h2
    have h4 : V.int (s sp) = e.2.2 := congrArg Prod.snd h2
    rw [h3] at h1 h4
    exact ⟨h1, h4.symm⟩
  have eV : Ex (hid d H1) (upd (upd H1 f (.ext (mixH P w f []))) d (.frz od (.ext (mixH P w d es)))) := (hid_ex.trans (Evl.Ex.new hf)).mut hid_same
  have hfV : hid d H1 f = none := by rw [hid_ne nfd]; exact hf
  have st : ∀ (b : Addr) (xs : List V), H1 b = some (HO.tup xs) → K33.hid d H1 b = some (.tup xs) := fun b xs q => by
    rw [hid_ne fun z => by rw [z, he1] at q; cases q]
    exact q
  have keV : ∀ e ∈ es, SpV (hid d H1) e.2.1 e.1 := fun e hin => ((hke e hin).mono fun b xs q => e1 _ _ q).mono st
  have pr1V : Paired (fun y u => SpV (hid d H1) y u) ys us := pr_mono pr1 fun _ _ q => q.mono st
  have nmus : ∀ u ∈ us, SpNm u := fun u hu => allS_nm ok u (hus u hu)
  refine ⟨_, rfl, d, od, es, rfl, upd_same, ?_⟩
  refine for_it (g := gTup K 2 (gCons (gName 5) (gCons (gName 6) gNil))) (tb := tb) (D := D') walk_mitems (fun i σ H' => ∃ (x5 x6 : Option V), σ = [some (.ref d), some (.ref db), some (.bl W.rd), some (.ref l), some (.ref f), x5, x6] ∧ Ex (hid d H1) H' ∧ H' d = some (.frz od (.ext (mixH P w d es))) ∧ MD P w H' f (stMap (nxt W.rd (nbOf W) s) ((allS W).take i))) ?_ (fun i σ H' _ w => let ⟨_, _, _, _, e, _⟩ := w; e) (fun i x σ H' H'' hi w Y => ?_) fun σ H' w => ?_
  · exact ⟨none, none, rfl, eV, upd_same, [], by rw [upd_ne nfd, upd_same], rfl, fun _ h => (nomatch h)⟩
  · obtain ⟨x5, x6, rfl, e5, hd5, m5⟩ := w
    obtain ⟨T0, e, hei, rfl, hT, rfl⟩ := Y
    obtain ⟨hi1, hi2⟩ := hix i e hei
    refine ⟨T0, _, rfl, sqt upd_same, rfl, ?_⟩
    dsimp only [tCKw, tM1, tVals, tVar, tC, tB, tAnd, tOr, tNot, tAndV, tOrV, tNotV, tIf, tNext, tSeq, tBreak, tCont, tDrop, tRet, tRetN, tIfS, tNever, gName, gNil, gCons, gTup, gSub, tAsg, tPar, tAug, tTest, tChain, tFld, sFld, tNil, tCons, tTup, tLst, tCall, tMeth, tCB, tBM, tNoPart, tPart, tSl, tOp, tUn, rI, rI0, rU, iList, iTup, iRng1, iRng2, iStr, iEnum, iZip, iItems, iVals, tDGet, tDIn, tDNotIn, sDPut, tDGet2, tDNewK, tDNewT, tYes, fin, List.cons_append, List.nil_append, bx, cxOf, Cx.nox]
    refine ⟨_, _, rfl, _, _, rfl, rfl, ?_⟩
    subst htb
    refine atSt (t := tIfS _ _ _) [some (.ref d), some (.ref db), some (.bl W.rd), some (.ref l), some (.ref f), some e.2.1, some (.int (s e.1))] (by rw [← hi2]; rfl) ?_
    dsimp only [tCKw, tM1, tVals, tVar, tC, tB, tAnd, tOr, tNot, tAndV, tOrV, tNotV, tIf, tNext, tSeq, tBreak, tCont, tDrop, tRet, tRetN, tIfS, tNever, gName, gNil, gCons, gTup, gSub, tAsg, tPar, tAug, tTest, tChain, tFld, sFld, tNil, tCons, tTup, tLst, tCall, tMeth, tCB, tBM, tNoPart, tPart, tSl, tOp, tUn, rI, rI0, rU, iList, iTup, iRng1, iRng2, iStr, iEnum, iZip, iItems, iVals, tDGet, tDIn, tDNotIn, sDPut, tDGet2, tDNewK, tDNewT, tYes, fin, List.cons_append, List.nil_append, bx, cxOf, Cx.nox]
    dsimp only [sMPut]
    dsimp only [tCKw, tM1, tVals, tVar, tC, tB, tAnd, tOr, tNot, tAndV, tOrV, tNotV, tIf, tNext, tSeq, tBreak, tCont, tDrop, tRet, tRetN, tIfS, tNever, gName, gNil, gCons, gTup, gSub, tAsg, tPar, tAug, tTest, tChain, tFld, sFld, tNil, tCons, tTup, tLst, tCall, tMeth, tCB, tBM, tNoPart, tPart, tSl, tOp, tUn, rI, rI0, rU, iList, iTup, iRng1, iRng2, iStr, iEnum, iZip, iItems, iVals, tDGet, tDIn, tDNotIn, sDPut, tDGet2, tDNewK, tDNewT, tYes, fin, List.cons_append, List.nil_append, bx, cxOf, Cx.nox]
    have e6 := e5.trans (Evl.Ex.new (o := .tup [e.2.1, e.2.2]) hT)
    have hd6 := (Evl.Ex.new (o := .tup [e.2.1, e.2.2]) hT) _ _ hd5
    have m6 := MD.mono (Evl.Ex.new (o := .tup [e.2.1, e.2.2]) hT) m5
    generalize upd H' T0 (.tup [e.2.1, e.2.2]) = H6 at e6 hd6 m6
    have hsp := List.mem_of_getElem? hi1
    have spe : SpV H6 e.2.1 e.1 := (keV e (List.mem_of_getElem? hei)).mono fun _ _ h => e6 _ _ h
    have pr6 : Paired (fun y u => SpV H6 y u) ys us := pr_mono pr1V fun _ _ q => q.mono fun _ _ h => e6 _ _ h
    have hl6 : H6 l = some (.lst ys) := e6 _ _ (by rw [hid_ne nld]; exact hl1)
    have dpl : Dp K H6 (.ref l) (.list (us.map pySp)) := .lst (sql hl6) (dp_sps pr6)
    have nk : e.1 ∉ (allS W).take i := fun m => by
      obtain ⟨j, hj⟩ := List.getElem?_of_mem m
      have j1 := (List.getElem?_eq_some_iff.mp hj).1
      rw [List.length_take] at j1
      rw [List.getElem?_take_of_lt (by omega)] at hj
      have := nd_ix (allS_nd ok) hj hi1
      omega
    have eint : (if decide (e.1 ∈ us) = true then (1 : Int) else 0) = isSet W.rd (nbOf W) s e.1 := by
      have h1 := isSet_le (rd := W.rd) (nb := nbOf W) s e.1
      have h2 := isSet_ge (rd := W.rd) (nb := nbOf W) s e.1
      by_cases c : e.1 ∈ us
      · rw [decide_eq_true c, if_pos rfl, (hset e.1 hsp).mp c]
      · rw [decide_eq_false c, if_neg (by decide)]
        have : isSet W.rd (nbOf W) s e.1 ≠ 1 := fun z => c ((hset e.1 hsp).mpr z)
        omega
    have put : ∀ H7, Ex H6 H7 → ∃ H8, MPut P w H7 f e.1 e.2.1 (.int (nxt W.rd (nbOf W) s e.1)) H8 ∧ (Ex (hid d H1) H8 ∧ H8 d = some (.frz od (.ext (mixH P w d es))) ∧ MD P w H8 f (stMap (nxt W.rd (nbOf W) s) ((allS W).take (i + 1)))) := fun H7 e7 => by
      have hlen : (stMap (nxt W.rd (nbOf W) s) ((allS W).take i)).length < sizeLine := by
        refine Evl.sz_lt ?_
        unfold stMap
        rw [List.length_map, List.length_take]
        omega
      obtain ⟨H8, g1, g2, g3⟩ := MPut.md (H' := H) (y := e.2.1) (v := .int (nxt W.rd (nbOf W) s e.1)) (MD.mono e7 m6) hlen (k := e.1) (spe.mono fun _ _ h => e7 _ _ h)
      rw [stMap_put nk] at g2
      refine ⟨H8, g1, fun a o h => ?_, by rw [g3 d nfd.symm]; exact e7 _ _ hd6, by rw [List.take_add_one, hi1]; exact g2⟩
      rw [g3 a fun z => by rw [z, hfV] at h; cases h]
      exact e7 _ _ (e6 _ _ h)
    have hnx : nxt W.rd (nbOf W) s e.1 = if W.rd = true then (s e.1 + isSet W.rd (nbOf W) s e.1) % 3 else (if s e.1 = 0 then isSet W.rd (nbOf W) s e.1 else if s e.1 = 1 then 2 else 0) := rfl
    refine ⟨_, rfl, _, rfl, ?_⟩
    by_cases hrd : W.rd = true
    · rw [if_pos hrd] at hnx
      rw [if_pos hrd]
      refine ⟨_, rfl, _, rfl, _, rfl, pySp e.1, us.map pySp, dp_sp spe, dpl, sp_shaped (allS_nm ok e.1 hsp), sps_shaped nmus, .inr ⟨_, rfl, _, _, rfl, rfl, _, _, rfl, rfl, by decide, _, rfl, _, rfl, ?_⟩⟩
      rw [any_sp, eint, ← hnx]
      obtain ⟨H8, g1, g2⟩ := put H6 (Evl.Ex.refl _)
      exact ⟨f, _, H8, rfl, g1, _, _, rfl, g2⟩
    · rw [if_neg hrd] at hnx
      rw [if_neg hrd]
      refine ⟨_, rfl, _, rfl, pySp e.1, us.map pySp, dp_sp spe, dpl, sp_shaped (allS_nm ok e.1 hsp), sps_shaped nmus, .inr ⟨_, rfl, Nat.le_of_ble_eq_true rfl, fun q hq => ⟨_, rfl, ?_⟩⟩⟩
      rw [any_sp, eint]
      have hv : atI [V.int (isSet W.rd (nbOf W) s e.1), .int 2, .int 0] (s e.1) = some (.int (nxt W.rd (nbOf W) s e.1)) := by
        have h3 := ht e.1
        rw [hnx]
        obtain h | h | h : s e.1 = 0 ∨ s e.1 = 1 ∨ s e.1 = 2 := by omega
        · rw [h, if_pos rfl]; rfl
        · rw [h, if_neg (by decide), if_pos rfl]; rfl
        · rw [h, if_neg (by decide), if_neg (by decide)]; rfl
      obtain ⟨H8, g1, g2⟩ := put _ (Evl.Ex.new (o := .lst [V.int (isSet W.rd (nbOf W) s e.1), .int 2, .int 0]) hq)
      exact ⟨q, _, _, _, rfl, rfl, sql upd_same, hv, _, rfl, _, rfl, f, _, H8, rfl, g1, _, _, rfl, g2⟩
  · obtain ⟨x5, x6, rfl, e5, hd5, m5⟩ := w
    rw [el, List.take_length] at m5
    subst hD'
    refine ⟨hd5, ?_⟩
    subst hrt
    dsimp only [tCKw, tM1, tVals, tVar, tC, tB, tAnd, tOr, tNot, tAndV, tOrV, tNotV, tIf, tNext, tSeq, tBreak, tCont, tDrop, tRet, tRetN, tIfS, tNever, gName, gNil, gCons, gTup, gSub, tAsg, tPar, tAug, tTest, tChain, tFld, sFld, tNil, tCons, tTup, tLst, tCall, tMeth, tCB, tBM, tNoPart, tPart, tSl, tOp, tUn, rI, rI0, rU, iList, iTup, iRng1, iRng2, iStr, iEnum, iZip, iItems, iVals, tDGet, tDIn, tDNotIn, sDPut, tDGet2, tDNewK, tDNewT, tYes, fin, List.cons_append, List.nil_append, bx, cxOf, Cx.nox]
    have xe : Ex H1 (upd H' d (.ext (mixH P w d es))) := fun a o h => by
      by_cases c : a = d
      · subst c
        rw [upd_same]
        rw [he1] at h
        exact h
      · rw [upd_ne c]
        exact e5 _ _ (by rw [hid_ne c]; exact h)
    obtain ⟨es', g1, g2, g3⟩ := m5
    refine ⟨_, rfl, hQ f _ (Evl.fresh_back e1 hf) (e1.trans xe) ⟨es', by rw [upd_ne nfd]; exact g1, g2, fun e' he' => (g3 e' he').mono fun b xs h => ?_⟩⟩
    rw [upd_ne fun z => by rw [z, hd5] at h; cases h]
    exact h
end
end K33


set_option Elab.async false
set_option linter.all false
set_option maxRecDepth 100000
set_option maxHeartbeats 8000000
namespace K33
open PySem PySem.Spec PyProof.Rows L2 K33M
/-- the states of the spots, round by round -/
structure LineAt (P : Program) (w : World) (H : Hp) (l : Addr) (W : Web) : Prop where
  ex : ∃ ds : List Addr, H l = some (.lst (ds.map V.ref)) ∧ ds.length = 61 ∧ ∀ (b : Nat) d, ds[b]? = some d → MD P w H d (stMap (sim W.rd (nbOf W) (stOf W) b) (allS W))
def sp_law_line (P : Program) (w : World) : Sp := fun vs H Q _ => ∃ (q : Addr) (W : Web), vs = [.ref q, .bl W.rd] ∧ SpecAt H q W.ps W.ts ∧ WOk W ∧ ∀ l H', H l = none → Ex H H' → LineAt P w H' l W → Q (.ref l) H'
section
variable {P : Program} {w : World} {K : PySem.W.Frag} {mg : Str → Option Value} {base : Heap}
theorem o_law_line (T : Tx K mg) : FO P w K mg base 4 (He.ga K "_law_line") ["_law_spec", "_law_is_rounds"] (sp_law_line P w) := def_ok T.f_law_line sc_law_line (fun _ _ _ _ _ _ us hl => match us, hl with | [_, _], _ => rfl)
    (fun _ _ _ _ h => by obtain ⟨_, _, rfl, _⟩ := h; rfl) fun cdv A outer s H vs Q E hr h => by
  have hu := hu_of hr
  obtain ⟨q, W, rfl, hsp, ok, hQ⟩ := h
  refine ⟨_, (pss_cons (ps_set (i := 2) sc_law_line.nd rfl (.inl rfl) (c_fn (o_law_next_to T) T.g_law_next_to (hr.mono (by decide)) (pa_cons (pv 0) pa_nil)))
      (pss_cons (ps_set (i := 3) sc_law_line.nd rfl (.inl rfl) (pe_lst (pa_cons (c_fn (o_law_stood T) T.g_law_stood (hr.mono (by decide)) (pa_cons (pv 0) pa_nil)) pa_nil)))
      (pss_cons (ps_for PassesOwn.never rfl (pi_range1 (by rfl) T.z_range (pa_cons pe_int pa_nil)) (pg_name (i := 4) sc_law_line.nd rfl (.inl rfl))
        (pss_one (ps_expr (pe_bm PySem.F.plainAttrs_list PySem.F.slot_list_append PySem.F.type_list_append mt_append (pv 3) (pa_cons (c_fn (o_law_behind T) T.g_law_behind (hr.mono (by decide)) (pa_cons (pe_ix ix_list (pv 3) (pe_un un_neg pe_int) (fun _ _ => rfl)) (pa_cons (pv 2) (pa_cons (pv 1) pa_nil)))) pa_nil)))))
      (pss_one (ps_ret (pv 3)))))), ?_⟩
  refine seq3 fun rt hrt => ?_
  subst hrt
  dsimp only [tSeq]
  dsimp only [tCKw, tM1, tVals, tVar, tC, tB, tAnd, tOr, tNot, tAndV, tOrV, tNotV, tIf, tNext, tSeq, tBreak, tCont, tDrop, tRet, tRetN, tIfS, tNever, gName, gNil, gCons, gTup, gSub, tAsg, tPar, tAug, tTest, tChain, tFld, sFld, tNil, tCons, tTup, tLst, tCall, tMeth, tCB, tBM, tNoPart, tPart, tSl, tOp, tUn, rI, rI0, rU, iList, iTup, iRng1, iRng2, iStr, iEnum, iZip, iItems, iVals, tDGet, tDIn, tDNotIn, sDPut, tDGet2, tDNewK, tDNewT, tYes, fin, List.cons_append, List.nil_append, bx, cxOf, Cx.nox]
  refine ⟨_, rfl, q, W, rfl, hsp, ok, fun db H1 hdb e1 b1 => ⟨_, rfl, q, W, rfl, hsp.mono e1, ok, fun d0 H2 hd0 e2 m2 => ⟨Nat.le_of_ble_eq_true rfl, fun l hl => ?_⟩⟩⟩
  have b2 := (b1.mono e2).free
  have e12 := e1.trans e2
  have hln : H l = none := Evl.fresh_back e12 hl
  have e3 := e12.trans (Evl.Ex.new (o := .lst [V.ref d0]) hl)
  have n0 : db ≠ d0 := fun z => by
    obtain ⟨bs, _, _, ⟨es, h, _⟩, _⟩ := b1.ex
    rw [z, hd0] at h
    cases h
  refine endsT fun D' hD' => ?_
  refine for_te fun tb htb => ?_
  refine atSt (t := tFor _ _ _) [some (.ref q), some (.bl W.rd), some (.ref db), some (.ref l), none] rfl ?_
  dsimp only [tFor]
  dsimp only [tCKw, tM1, tVals, tVar, tC, tB, tAnd, tOr, tNot, tAndV, tOrV, tNotV, tIf, tNext, tSeq, tBreak, tCont, tDrop, tRet, tRetN, tIfS, tNever, gName, gNil, gCons, gTup, gSub, tAsg, tPar, tAug, tTest, tChain, tFld, sFld, tNil, tCons, tTup, tLst, tCall, tMeth, tCB, tBM, tNoPart, tPart, tSl, tOp, tUn, rI, rI0, rU, iList, iTup, iRng1, iRng2, iStr, iEnum, iZip, iItems, iVals, tDGet, tDIn, tDNotIn, sDPut, tDGet2, tDNewK, tDNewT, tYes, fin, List.cons_append, List.nil_append, bx, cxOf, Cx.nox]
  refine ⟨_, rfl, by decide, by decide, ?_⟩
  refine for_it (g := gName 4) (tb := tb) (D := D') (walk_range (lo := 0) (n := 60)) (fun i σ H' => ∃ (x4 : Option V) (ds : List Addr), σ = [some (.ref q), some (.bl W.rd), some (.ref db), some (.ref l), x4] ∧ Ex H2 H' ∧ H' l = some (.lst (ds.map V.ref)) ∧ ds.length = i + 1 ∧ (∀ d ∈ ds, db ≠ d) ∧ ∀ (b : Nat) d, ds[b]? = some d → MD P w H' d (stMap (sim W.rd (nbOf W) (stOf W) b) (allS W))) ?_ (fun _ _ _ _ _ => True.intro) (fun i x σ H' H'' hi w Y => ?_) fun σ H' w => ?_
  · refine ⟨none, [d0], rfl, Evl.Ex.new hl, upd_same, rfl, fun d hd => ?_, fun b d hd => ?_⟩
    · rw [List.mem_singleton.mp hd]; exact n0
    · cases b with
      | zero =>
        cases hd
        exact m2.mono (Evl.Ex.new hl)
      | succ b => simp at hd
  · obtain ⟨x4, ds, rfl, e5, hl5, hn5, hne5, m5⟩ := w
    obtain ⟨rfl, rfl⟩ := Y
    subst htb
    dsimp only [tCKw, tM1, tVals, tVar, tC, tB, tAnd, tOr, tNot, tAndV, tOrV, tNotV, tIf, tNext, tSeq, tBreak, tCont, tDrop, tRet, tRetN, tIfS, tNever, gName, gNil, gCons, gTup, gSub, tAsg, tPar, tAug, tTest, tChain, tFld, sFld, tNil, tCons, tTup, tLst, tCall, tMeth, tCB, tBM, tNoPart, tPart, tSl, tOp, tUn, rI, rI0, rU, iList, iTup, iRng1, iRng2, iStr, iEnum, iZip, iItems, iVals, tDGet, tDIn, tDNotIn, sDPut, tDGet2, tDNewK, tDNewT, tYes, fin, List.cons_append, List.nil_append, bx, cxOf, Cx.nox]
    have hlast : ds[i]? = some (ds[i]'(by omega)) := List.getElem?_eq_getElem _
    have eds : ds.map V.ref = (ds.take i).map V.ref ++ [V.ref (ds[i]'(by omega))] := by
      conv => lhs; rw [← List.take_append_drop i ds]
      rw [List.map_append, List.drop_eq_getElem_cons (by omega), List.drop_eq_nil_of_le (by omega)]
      rfl
    have hmem : ds[i]'(by omega) ∈ ds := List.getElem_mem _
    generalize ds[i]'(by omega) = di at hlast eds hmem
    refine ⟨_, rfl, .inl ⟨rfl, _, sql hl5⟩, _, rfl, _, rfl, l, _, _, _, rfl, rfl, sql hl5, by rw [eds]; exact atI_last _ _, _, rfl, _, rfl, di, db, W, _, rfl, m5 i di hlast, b2.mono e5, ok, hne5 di hmem, sim_tri (stOf_tri ok) i, fun d' H6 hd' e6 m6 => ?_⟩
    have hl6 := e6 _ _ hl5
    have xl := ExL.upd (ys := ds.map V.ref ++ [V.ref d']) hl6
    refine ⟨l, _, _, rfl, rfl, hl6, Evl.sz_lt (by rw [List.length_map]; omega), _, ds ++ [d'], rfl, (e5.trans e6).mut hl, by rw [upd_same, List.map_append]; rfl, by rw [List.length_append, hn5]; rfl, fun d hd => ?_, fun b d hd => ?_⟩
    · rcases List.mem_append.mp hd with h | h
      · exact hne5 d h
      · rw [List.mem_singleton.mp h]
        intro z
        obtain ⟨bs, _, _, ⟨es, h, _⟩, _⟩ := (b2.mono e5).ex
        rw [z, hd'] at h
        cases h
    · by_cases c : b < ds.length
      · rw [List.getElem?_append_left c] at hd
        exact ((m5 b d hd).mono e6).monoL xl
      · rw [List.getElem?_append_right (by omega)] at hd
        have z1 := (List.getElem?_eq_some_iff.mp hd).1
        rw [List.length_singleton] at z1
        have eb : b = i + 1 := by omega
        subst eb
        rw [hn5, Nat.sub_self] at hd
        cases hd
        exact m6.monoL xl
  · obtain ⟨x4, ds, rfl, e5, hl5, hn5, hne5, m5⟩ := w
    subst hD'
    dsimp only [tCKw, tM1, tVals, tVar, tC, tB, tAnd, tOr, tNot, tAndV, tOrV, tNotV, tIf, tNext, tSeq, tBreak, tCont, tDrop, tRet, tRetN, tIfS, tNever, gName, gNil, gCons, gTup, gSub, tAsg, tPar, tAug, tTest, tChain, tFld, sFld, tNil, tCons, tTup, tLst, tCall, tMeth, tCB, tBM, tNoPart, tPart, tSl, tOp, tUn, rI, rI0, rU, iList, iTup, iRng1, iRng2, iStr, iEnum, iZip, iItems, iVals, tDGet, tDIn, tDNotIn, sDPut, tDGet2, tDNewK, tDNewT, tYes, fin, List.cons_append, List.nil_append, bx, cxOf, Cx.nox]
    exact ⟨_, rfl, hQ l _ hln (e12.trans e5) ⟨ds, hl5, hn5, m5⟩⟩
end
end K33


set_option Elab.async false
set_option linter.all false
set_option maxRecDepth 100000
set_option maxHeartbeats 8000000
namespace K33
open PySem PySem.Spec PyProof.Rows L2 K33M
def sp_law_made (K : PySem.W.Frag) : Sp := fun vs H Q _ => ∃ (q : Addr) (W : Web), vs = [.ref q, .bl W.rd] ∧ SpecAt H q W.ps W.ts ∧ WOk W ∧ ∀ x r H', H x = none → H r = none → x ≠ r → Ex H H' → WebAt (cW K) H' x W r → H' r = some (.lst []) → Q (.ref x) H'
def sp_law_far (P : Program) (w : World) : Sp := fun vs H Q _ => ∃ (p ll : Addr) (y : V) (W : Web) (sp : Spot), vs = [.ref p, .ref ll, y] ∧ Pot H p ∧ LineAt P w H ll W ∧ SpV H y sp ∧ sp ∈ allS W ∧ WOk W ∧ ∀ (b : Nat) H', b ≤ 60 → Ex (hid p H) H' → Pot H' p → Q (.int (b : Int)) H'
section
variable {P : Program} {w : World} {K : PySem.W.Frag} {mg : Str → Option Value} {base : Heap}
theorem o_law_made (T : Tx K mg) : FO P w K mg base 8 (He.ga K "_law_made") ["_law_spec", "_law_is_rounds"] (sp_law_made K) := def_ok T.f_law_made sc_law_made (fun _ _ _ _ _ _ us hl => match us, hl with | [_, _], _ => rfl)
    (fun _ _ _ _ h => by obtain ⟨_, _, rfl, _⟩ := h; rfl) fun cdv A outer s H vs Q E hr h => by
  have hu := hu_of hr
  obtain ⟨q, W, rfl, hsp, ok, hQ⟩ := h
  obtain ⟨l, lt, as, bs, hq, hl, hpsA, hlt, htsA⟩ := hsp.ex
  obtain ⟨fdw, F_Web_init, g, kb_Web⟩ := o_Web_init (P := P) (w := w) (base := base) T
  refine ⟨_, (pss_one (ps_ret (pe_makeK T.k_Web F_Web_init (hr.mono (by decide)) (by rfl) T.g_Web kb_Web pass0 (pa_cons (pe_lc (own := [("_law_row", 2)]) rfl sc_law_made.nd (pi_list (pe_ix ix_tup (pv 0) pe_int (fun _ _ => rfl))) (blkOk_by (by rfl)) (fun _ _ _ _ _ => (pg_name (i := 2) sc_law_made.nd rfl (.inl rfl))) (fun _ _ _ _ _ => pts_nil) (fun _ _ _ _ _ => (pe_callTy (call_tuple_ofK (K := K) rfl) (by rfl) T.z_tuple (by decide +kernel) (pa_cons (pv 2) pa_nil)))) (pa_cons (pe_callTy call_list_of (by rfl) T.z_list (by decide +kernel) (pa_cons (pe_ix ix_tup (pv 0) pe_int (fun _ _ => rfl)) pa_nil)) pa_nil)) (pk_cons (pv 1) pk_nil)))), ?_⟩
  dsimp only [tRet, tMakeK]
  dsimp only [tCKw, tM1, tVals, tVar, tC, tB, tAnd, tOr, tNot, tAndV, tOrV, tNotV, tIf, tNext, tSeq, tBreak, tCont, tDrop, tRet, tRetN, tIfS, tNever, gName, gNil, gCons, gTup, gSub, tAsg, tPar, tAug, tTest, tChain, tFld, sFld, tNil, tCons, tTup, tLst, tCall, tMeth, tCB, tBM, tNoPart, tPart, tSl, tOp, tUn, rI, rI0, rU, iList, iTup, iRng1, iRng2, iStr, iEnum, iZip, iItems, iVals, tDGet, tDIn, tDNotIn, sDPut, tDGet2, tDNewK, tDNewT, tYes, fin, List.cons_append, List.nil_append, bx, cxOf, Cx.nox]
  refine atSE (t := tLc _ _ _ _ _) [some (.ref q), some (.bl W.rd), none] rfl ?_
  refine lc_te fun te tt hte htt => ?_
  dsimp only [tCKw, tM1, tVals, tVar, tC, tB, tAnd, tOr, tNot, tAndV, tOrV, tNotV, tIf, tNext, tSeq, tBreak, tCont, tDrop, tRet, tRetN, tIfS, tNever, gName, gNil, gCons, gTup, gSub, tAsg, tPar, tAug, tTest, tChain, tFld, sFld, tNil, tCons, tTup, tLst, tCall, tMeth, tCB, tBM, tNoPart, tPart, tSl, tOp, tUn, rI, rI0, rU, iList, iTup, iRng1, iRng2, iStr, iEnum, iZip, iItems, iVals, tDGet, tDIn, tDNotIn, sDPut, tDGet2, tDNewK, tDNewT, tYes, fin, List.cons_append, List.nil_append, bx, cxOf, Cx.nox]
  have plen := pr_len hpsA
  have tlen := pr_len htsA
  have p8 := ok.ps.hi
  refine ⟨_, rfl, q, _, _, _, rfl, rfl, sqt hq, atI_nat (j := 0) rfl, l, rfl, ⟨_, sql hl⟩, lc_pick (g := gName 2) (walk_list (a := l) (xs := as.map V.ref)) (fun _ => true) (fun i _ y => (as.map V.ref)[i]? = some y) (by rw [List.length_map]; omega) (fun H e => sql (e _ _ hl)) (fun _ _ _ _ _ r => r) gm_name (fun i y Ha Hb hi e1 Y => ?_) fun D Ha ys hD e1 hys pk => ?_⟩
  · obtain ⟨rfl, hy⟩ := Y
    have hy0 := hy
    rw [List.getElem?_map] at hy
    obtain ⟨a, ha, rfl⟩ := Option.map_eq_some_iff.mp hy
    obtain ⟨q0, hq0, hqt⟩ := pr_at hpsA ha
    refine ⟨rfl, fun Qy Qn k _ => ?_⟩
    subst hte htt
    dsimp only [tCKw, tM1, tVals, tVar, tC, tB, tAnd, tOr, tNot, tAndV, tOrV, tNotV, tIf, tNext, tSeq, tBreak, tCont, tDrop, tRet, tRetN, tIfS, tNever, gName, gNil, gCons, gTup, gSub, tAsg, tPar, tAug, tTest, tChain, tFld, sFld, tNil, tCons, tTup, tLst, tCall, tMeth, tCB, tBM, tNoPart, tPart, tSl, tOp, tUn, rI, rI0, rU, iList, iTup, iRng1, iRng2, iStr, iEnum, iZip, iItems, iVals, tDGet, tDIn, tDNotIn, sDPut, tDGet2, tDNewK, tDNewT, tYes, fin, List.cons_append, List.nil_append, bx, cxOf, Cx.nox]
    exact ⟨_, rfl, a, _, rfl, .inr ⟨sqt (e1 _ _ hqt), k rfl _ _ (Evl.Ex.refl _) hy0⟩⟩
  have eys : ys = as.map V.ref := by
    have := paired_eq (f := fun (v : V) => v) (pr_range (l := as.map V.ref) (S := fun v y => y = v) pk.all fun i v y h1 h2 => by
      rw [h1] at h2
      exact (Option.some.inj h2).symm)
    rw [this, List.map_id']
  subst eys
  refine ⟨_, rfl, q, _, _, _, rfl, rfl, sqt (e1 _ _ hq), atI_nat (j := 1) rfl, lt, _, rfl, .inl (sql (e1 _ _ hlt)), fun l2 hl2 => ⟨_, rfl, rfl, rfl, fun x dx hx hdx hne => ?_⟩⟩
  have e2 := e1.trans (Evl.Ex.new (o := .lst (bs.map V.ref)) hl2)
  have hD2 : (upd Ha l2 (.lst (bs.map V.ref))) D = some (.lst (as.map V.ref)) := (Evl.Ex.new hl2) _ _ hys
  have hl2' : (upd Ha l2 (.lst (bs.map V.ref))) l2 = some (.lst (bs.map V.ref)) := upd_same
  generalize upd Ha l2 (.lst (bs.map V.ref)) = Hc at e2 hD2 hl2' hx hdx
  have ei : Ex Hc (upd (upd Hc dx (.own x)) x (.ins (cW K) dx [])) := (Evl.Ex.new hdx).trans (Evl.Ex.new (by rw [upd_ne hne.symm]; exact hx))
  refine ⟨x, dx, D, l2, as, bs, W, rfl, upd_same, ⟨ei _ _ hD2, (hpsA.mono e2).mono ei⟩, ⟨ei _ _ hl2', (htsA.mono e2).mono ei⟩, ok.ps, ok.ts, fun r H' hr' e3 hw hr2 => ⟨rfl, ?_⟩⟩
  refine hQ x r H' (Evl.fresh_back e2 hx) (Evl.fresh_back (e2.trans ei) hr') (fun z => by rw [← z, upd_same] at hr'; cases hr') (e2.trans fun a o h => ?_) hw hr2
  exact e3 a o (by rw [hid_ne fun z => by rw [z, hx] at h; cases h]; exact ei _ _ h)
theorem o_law_far (T : Tx K mg) : FO P w K mg base 2 (He.ga K "_law_far") ["_law_pot_here", "_law_line_here", "_law_where"] (sp_law_far P w) := def_ok T.f_law_far sc_law_far (fun _ _ _ _ _ _ us hl => match us, hl with | [_, _, _], _ => rfl)
    (fun _ _ _ _ h => by obtain ⟨_, _, _, _, _, rfl, _⟩ := h; rfl) fun cdv A outer s H vs Q E hr h => by
  have hu := hu_of hr
  obtain ⟨p, ll, y, W, sp, rfl, hp, ⟨ds, hll, hdl, hmd⟩, hy, hsp, ok, hQ⟩ := h
  refine ⟨_, (pss_cons (ps_set (i := 3) sc_law_far.nd rfl (.inl rfl) (pe_op op_cat (pe_lc (own := [("_law_far_here", 4)]) rfl sc_law_far.nd (pi_range1 (by rfl) T.z_range (pa_cons pe_int pa_nil)) (blkOk_by (by rfl)) (fun _ _ _ _ _ => (pg_name (i := 4) sc_law_far.nd rfl (.inl rfl))) (fun _ _ _ _ _ => (pts_one (pt_cmpR op_gt (pe_mgetK (P := P) (w := w) rfl rfl hu (pe_ix (ix_listK (K := K) rfl) (pv 1) (pv 4) (fun _ _ => rfl)) (pv 2) (fun _ _ => rfl)) pe_int (nomark _)))) (fun _ _ _ _ _ => (pv 4))) (pe_lst (pa_cons pe_int pa_nil))))
      (pss_cons (ps_set (i := 4) sc_law_far.nd rfl (.inl rfl) (pe_ix ix_list (pv 3) (c_fn (o_law_take T) T.g_law_take (hr.mono (by decide)) (pa_cons (pv 0) (pa_cons (pe_callB call_len_seq (by rfl) T.z_len (by decide +kernel) (pa_cons (pv 3) pa_nil)) pa_nil))) (fun _ _ => rfl)))
      (pss_one (ps_ret (pe_ix ix_list (pe_lst (pa_cons (pv 4) (pa_cons (pe_callB (call_min2 rfl) (by rfl) T.z_min (by decide +kernel) (pa_cons pe_int (pa_cons (pe_op op_add (pv 4) pe_int) pa_nil))) (pa_cons (pe_callB (call_max2 rfl) (by rfl) T.z_max (by decide +kernel) (pa_cons pe_int (pa_cons (pe_op op_sub (pv 4) pe_int) pa_nil))) (pa_cons (c_fn (o_law_take T) T.g_law_take (hr.mono (by decide)) (pa_cons (pv 0) (pa_cons pe_int pa_nil))) (pa_cons (c_fn (o_law_take T) T.g_law_take (hr.mono (by decide)) (pa_cons (pv 0) (pa_cons pe_int pa_nil))) pa_nil)))))) (c_fn (o_law_take T) T.g_law_take (hr.mono (by decide)) (pa_cons (pv 0) (pa_cons pe_int pa_nil))) (fun _ _ => rfl)))))), ?_⟩
  refine seq2 fun tl htl => ?_
  dsimp only [tCKw, tM1, tVals, tVar, tC, tB, tAnd, tOr, tNot, tAndV, tOrV, tNotV, tIf, tNext, tSeq, tBreak, tCont, tDrop, tRet, tRetN, tIfS, tNever, gName, gNil, gCons, gTup, gSub, tAsg, tPar, tAug, tTest, tChain, tFld, sFld, tNil, tCons, tTup, tLst, tCall, tMeth, tCB, tBM, tNoPart, tPart, tSl, tOp, tUn, rI, rI0, rU, iList, iTup, iRng1, iRng2, iStr, iEnum, iZip, iItems, iVals, tDGet, tDIn, tDNotIn, sDPut, tDGet2, tDNewK, tDNewT, tYes, fin, List.cons_append, List.nil_append, bx, cxOf, Cx.nox]
  refine lc_te fun te tt hte htt => ?_
  dsimp only [tCKw, tM1, tVals, tVar, tC, tB, tAnd, tOr, tNot, tAndV, tOrV, tNotV, tIf, tNext, tSeq, tBreak, tCont, tDrop, tRet, tRetN, tIfS, tNever, gName, gNil, gCons, gTup, gSub, tAsg, tPar, tAug, tTest, tChain, tFld, sFld, tNil, tCons, tTup, tLst, tCall, tMeth, tCB, tBM, tNoPart, tPart, tSl, tOp, tUn, rI, rI0, rU, iList, iTup, iRng1, iRng2, iStr, iEnum, iZip, iItems, iVals, tDGet, tDIn, tDNotIn, sDPut, tDGet2, tDNewK, tDNewT, tYes, fin, List.cons_append, List.nil_append, bx, cxOf, Cx.nox]
  have nllp : ll ≠ p := hp.nref hll
  refine ⟨_, rfl, by decide, by decide, lc_pick (g := gName 4) (walk_range (lo := 0) (n := 61)) (fun i => decide (sim W.rd (nbOf W) (stOf W) i sp > 0)) (fun i _ y => y = .int (i : Int)) (by decide) (fun _ _ => True.intro) (fun _ _ _ _ _ r => r) gm_name (fun i y' Ha Hb hi e1 Y => ?_) fun D Ha ys hD e1 hys pk => ?_⟩
  · obtain ⟨rfl, rfl⟩ := Y
    refine ⟨rfl, fun Qy Qn k kn => ?_⟩
    subst hte htt
    dsimp only [tCKw, tM1, tVals, tVar, tC, tB, tAnd, tOr, tNot, tAndV, tOrV, tNotV, tIf, tNext, tSeq, tBreak, tCont, tDrop, tRet, tRetN, tIfS, tNever, gName, gNil, gCons, gTup, gSub, tAsg, tPar, tAug, tTest, tChain, tFld, sFld, tNil, tCons, tTup, tLst, tCall, tMeth, tCB, tBM, tNoPart, tPart, tSl, tOp, tUn, rI, rI0, rU, iList, iTup, iRng1, iRng2, iStr, iEnum, iZip, iItems, iVals, tDGet, tDIn, tDNotIn, sDPut, tDGet2, tDNewK, tDNewT, tYes, fin, List.cons_append, List.nil_append, bx, cxOf, Cx.nox]
    dsimp only [tMGet]
    dsimp only [tCKw, tM1, tVals, tVar, tC, tB, tAnd, tOr, tNot, tAndV, tOrV, tNotV, tIf, tNext, tSeq, tBreak, tCont, tDrop, tRet, tRetN, tIfS, tNever, gName, gNil, gCons, gTup, gSub, tAsg, tPar, tAug, tTest, tChain, tFld, sFld, tNil, tCons, tTup, tLst, tCall, tMeth, tCB, tBM, tNoPart, tPart, tSl, tOp, tUn, rI, rI0, rU, iList, iTup, iRng1, iRng2, iStr, iEnum, iZip, iItems, iVals, tDGet, tDIn, tDNotIn, sDPut, tDGet2, tDNewK, tDNewT, tYes, fin, List.cons_append, List.nil_append, bx, cxOf, Cx.nox]
    have hdi := List.getElem?_eq_getElem (show i < ds.length by omega)
    refine ⟨_, rfl, _, rfl, ll, _, _, .ref ds[i], rfl, rfl, sql (e1 _ _ hll), by rw [Int.zero_add]; exact atI_nat (by rw [List.getElem?_map, hdi]; rfl), _, rfl, ds[i], _, sp, _, rfl, ((hmd i _ hdi).mono e1).r, hy.mono fun _ _ h => e1 _ _ h, stMap_val (allS_nd ok) hsp, _, _, rfl, rfl, _, rfl, ?_⟩
    by_cases c : sim W.rd (nbOf W) (stOf W) i sp > 0
    · rw [decide_eq_true (show (0 : Int) < sim W.rd (nbOf W) (stOf W) i sp from c)]
      exact ⟨_, rfl, k (decide_eq_true c) _ _ (Evl.Ex.refl _) (by rw [Int.zero_add])⟩
    · rw [decide_eq_false (show ¬ (0 : Int) < sim W.rd (nbOf W) (stOf W) i sp from c)]
      exact kn (decide_eq_false c) _ (Evl.Ex.refl _)
  · have eys := pk.eq
    have hyb : ∀ v ∈ ys ++ [V.int 0], ∃ b : Nat, v = .int (b : Int) ∧ b ≤ 60 := fun v hv => by
      rcases List.mem_append.mp hv with h | h
      · rw [eys] at h
        obtain ⟨i, hi, rfl⟩ := List.mem_map.mp h
        have := List.mem_range.mp (List.mem_filter.mp hi).1
        exact ⟨i, rfl, by omega⟩
      · exact ⟨0, List.mem_singleton.mp h, by decide⟩
    have lys := pk.len
    refine ⟨Nat.le_of_ble_eq_true rfl, fun p1 hp1 => ⟨D, p1, _, _, rfl, rfl, (Evl.Ex.new hp1) _ _ hys, upd_same, Evl.sz_of (by show ys.length + 1 ≤ _; omega), fun u hu => ?_⟩⟩
    have e2 := (e1.trans (Evl.Ex.new (o := .lst [V.int 0]) hp1)).trans (Evl.Ex.new (o := .lst (ys ++ [V.int 0])) hu)
    have hu2 : (upd (upd Ha p1 (.lst [V.int 0])) u (.lst (ys ++ [V.int 0]))) u = some (.lst (ys ++ [V.int 0])) := upd_same
    have hpu := hp.mono e2
    have nup := (hp.mono (e1.trans (Evl.Ex.new (o := .lst [V.int 0]) hp1))).new hu
    generalize upd (upd Ha p1 (.lst [V.int 0])) u (.lst (ys ++ [V.int 0])) = Hu at e2 hu2 hpu
    have lz : (ys ++ [V.int 0]).length ≤ 62 := by rw [List.length_append]; show _ + 1 ≤ _; omega
    have lz0 : 0 < (ys ++ [V.int 0]).length := by rw [List.length_append]; exact Nat.succ_pos _
    generalize ys ++ [V.int 0] = zs at hu2 hyb lz lz0
    refine ⟨_, rfl, _, rfl, _, rfl, u, _, rfl, .inl (sql hu2), p, zs.length, rfl, hpu, lz0, by omega, fun d H3 hd e3 hp3 => ?_⟩
    obtain ⟨b, hb, hb60⟩ := hyb _ (List.getElem_mem hd)
    refine ⟨u, _, _, .int (b : Int), rfl, rfl, sql (e3 _ _ (by rw [hid_ne nup]; exact hu2)), atI_nat (by rw [List.getElem?_eq_getElem hd, hb]), ?_⟩
    have e3' : Ex (hid p H) H3 := (ex_hid (hid_ex.trans e2) hid_same).trans e3
    subst htl
    refine atSt (t := tRet _) [some (.ref p), some (.ref ll), some y, some (.ref u), some (.int (b : Int))] rfl ?_
    dsimp only [tCKw, tM1, tVals, tVar, tC, tB, tAnd, tOr, tNot, tAndV, tOrV, tNotV, tIf, tNext, tSeq, tBreak, tCont, tDrop, tRet, tRetN, tIfS, tNever, gName, gNil, gCons, gTup, gSub, tAsg, tPar, tAug, tTest, tChain, tFld, sFld, tNil, tCons, tTup, tLst, tCall, tMeth, tCB, tBM, tNoPart, tPart, tSl, tOp, tUn, rI, rI0, rU, iList, iTup, iRng1, iRng2, iStr, iEnum, iZip, iItems, iVals, tDGet, tDIn, tDNotIn, sDPut, tDGet2, tDNewK, tDNewT, tYes, fin, List.cons_append, List.nil_append, bx, cxOf, Cx.nox]
    refine ⟨_, rfl, _, rfl, _, _, rfl, rfl, _, _, rfl, _, rfl, _, _, rfl, rfl, _, _, rfl, _, rfl, p, 61, rfl, hp3, by decide, by decide, fun x1 H4 hx1 e4 hp4 => ⟨_, rfl, p, 3, rfl, hp4, by decide, by decide, fun x2 H5 hx2 e5 hp5 => ⟨Nat.le_of_ble_eq_true rfl, fun z hz => ⟨_, rfl, p, 5, rfl, hp5.mono (Evl.Ex.new hz), by decide, by decide, fun k H6 hk e6 hp6 => ?_⟩⟩⟩⟩
    have nzp := hp5.new hz
    have e6' : Ex (hid p H) H6 := (ex_hid ((ex_hid ((ex_hid e3' hid_same).trans e4) hid_same).trans e5) hid_same).trans ((hid_mono (Evl.Ex.new hz)).trans e6)
    obtain ⟨c, hc, hc60⟩ : ∃ c : Nat, atI [V.int (b : Int), .int (if (b : Int) + 1 < 60 then (b : Int) + 1 else 60), .int (if (b : Int) - 1 > 0 then (b : Int) - 1 else 0), .int (x1 : Int), .int (x2 : Int)] (k : Int) = some (.int (c : Int)) ∧ c ≤ 60 := by
      match k, hk with
      | 0, _ => exact ⟨b, rfl, hb60⟩
      | 1, _ =>
        refine ⟨if b + 1 < 60 then b + 1 else 60, ?_, by split <;> omega⟩
        show some (V.int _) = some (V.int _)
        congr 2
        split <;> split <;> omega
      | 2, _ =>
        refine ⟨b - 1, ?_, by omega⟩
        show some (V.int _) = some (V.int _)
        congr 2
        split <;> omega
      | 3, _ => exact ⟨x1, rfl, by omega⟩
      | 4, _ => exact ⟨x2, rfl, by omega⟩
      | k + 5, h => exact absurd h (by omega)
    exact ⟨z, _, _, _, rfl, rfl, sql (e6 _ _ (by rw [hid_ne nzp, upd_same])), hc, hQ c H6 hc60 e6' hp6⟩
end
end K33


set_option Elab.async false
set_option linter.all false
set_option maxRecDepth 100000
set_option maxHeartbeats 8000000
namespace K33
open PySem PySem.Spec PyProof.Rows L2 K33M
theorem spots_of {α : Type} {H : Hp} {us : List Spot} : ∀ {l : List α} {ys : List V}, Paired (fun _ y => ∃ u ∈ us, SpV H y u) l ys → ∃ us2, Paired (fun y u => SpV H y u) ys us2 ∧ ∀ u ∈ us2, u ∈ us
  | _, _, .nil => ⟨[], .nil, fun _ h => (nomatch h)⟩
  | _, _, .cons ⟨u, h1, h2⟩ t => by
    obtain ⟨us2, h3, h4⟩ := spots_of t
    exact ⟨u :: us2, .cons h2 h3, fun x m => by
      rcases List.mem_cons.mp m with rfl | m
      · exact h1
      · exact h4 x m⟩
theorem canLay_sps {us : List Spot} (h : ∀ u ∈ us, SpNm u) : SeqAt.shaped (.list (us.map pySp)) = true := sps_shaped h
def sp_law_spots (K : PySem.W.Frag) : Sp := fun vs H Q _ => ∃ (p q : Addr) (W : Web), vs = [.ref p, .ref q] ∧ Pot H p ∧ SpecAt H q W.ps W.ts ∧ WOk W ∧ W.ts.length ≤ 8 ∧
  ∀ l H' ys us, H' l = some (.lst ys) → Paired (fun y u => SpV H' y u) ys us → us ≠ [] → us.length ≤ 20 → (∀ u ∈ us, u ∈ allS W) → l ≠ p → Ex (hid p H) H' → Pot H' p → Q (.ref l) H'
section
variable {P : Program} {w : World} {K : PySem.W.Frag} {mg : Str → Option Value} {base : Heap}
theorem o_law_spots (T : Tx K mg) : FO P w K mg base 2 (He.ga K "_law_spots") ["_law_pot_here", "_law_spec"] (sp_law_spots K) := def_ok T.f_law_spots sc_law_spots (fun _ _ _ _ _ _ us hl => match us, hl with | [_, _], _ => rfl)
    (fun _ _ _ _ h => by obtain ⟨_, _, _, rfl, _⟩ := h; rfl) fun cdv A outer s H vs Q E hr h => by
  have hu := hu_of hr
  obtain ⟨p, q, W, rfl, hp, hsp, ok, ht8, hQ⟩ := h
  obtain ⟨l, lt, as, bs, hq, hl, hpsA, hlt, htsA⟩ := hsp.ex
  refine ⟨_, (pss_cons (ps_set (i := 2) sc_law_spots.nd rfl (.inr rfl) (pe_lst pa_nil))
      (pss_cons (ps_for PassesOwn.never rfl (pi_list (pe_ix ix_tup (pv 1) pe_int (fun _ _ => rfl))) (pg_tup rfl (pgs_cons (pg_name (i := 3) sc_law_spots.nd rfl (.inr rfl)) (pgs_cons (pg_name (i := 4) sc_law_spots.nd rfl (.inl rfl)) (pgs_cons (pg_name (i := 5) sc_law_spots.nd rfl (.inl rfl)) (pgs_cons (pg_name (i := 6) sc_law_spots.nd rfl (.inl rfl)) (pgs_cons (pg_name (i := 7) sc_law_spots.nd rfl (.inl rfl)) pgs_nil))))))
        (pss_one (ps_expr (pe_bm PySem.F.plainAttrs_list PySem.F.slot_list_extend PySem.F.type_list_extend mt_extend (pv 2) (pa_cons (pe_op op_cat (pe_lc (own := [("_law_place", 8), ("_law_state", 9)]) rfl sc_law_spots.nd (pi_tup (pv 7)) (blkOk_by (by rfl)) (fun _ _ _ _ _ => (pg_tupK (K := K) 2 rfl rfl (pgs_cons (pg_name (i := 8) sc_law_spots.nd rfl (.inl rfl)) (pgs_cons (pg_name (i := 9) sc_law_spots.nd rfl (.inl rfl)) pgs_nil)))) (fun _ _ _ _ _ => pts_nil) (fun _ _ _ _ _ => (pe_tup (pa_cons (pv 3) (pa_cons (pv 8) pa_nil))))) (pe_lc (own := [("_law_place", 8)]) rfl sc_law_spots.nd (pi_range2 (by rfl) T.z_range (pa_cons pe_int (pa_cons (pv 6) pa_nil))) (blkOk_by (by rfl)) (fun _ _ _ _ _ => (pg_name (i := 8) sc_law_spots.nd rfl (.inl rfl))) (fun _ _ _ _ _ => pts_nil) (fun _ _ _ _ _ => (pe_tup (pa_cons (pv 3) (pa_cons (pv 8) pa_nil)))))) pa_nil)))))
      (pss_one (ps_ret (pe_op op_cat (pe_lc (own := [("_law_name_here", 3), ("_law_state", 9)]) rfl sc_law_spots.nd (pi_list (pe_ix ix_tup (pv 1) pe_int (fun _ _ => rfl))) (blkOk_by (by rfl)) (fun _ _ _ _ _ => (pg_tupK (K := K) 2 rfl rfl (pgs_cons (pg_name (i := 3) sc_law_spots.nd rfl (.inl rfl)) (pgs_cons (pg_name (i := 9) sc_law_spots.nd rfl (.inl rfl)) pgs_nil)))) (fun _ _ _ _ _ => pts_nil) (fun _ _ _ _ _ => (pv 3))) (pe_lc (own := [("_law_k", 10)]) rfl sc_law_spots.nd (pi_range1 (by rfl) T.z_range (pa_cons pe_int pa_nil)) (blkOk_by (by rfl)) (fun _ _ _ _ _ => (pg_name (i := 10) sc_law_spots.nd rfl (.inl rfl))) (fun _ _ _ _ _ => (pts_one (pt_cmpR (op_neDK (K := K) rfl hr.units) (pv 2) (pe_lst pa_nil) (nomark _)))) (fun _ _ _ _ _ => (pe_ix (ix_listK (K := K) rfl) (pv 2) (c_fn (o_law_take T) T.g_law_take (hr.mono (by decide)) (pa_cons (pv 0) (pa_cons (pe_callB (call_len_seqK (K := K) rfl) (by rfl) T.z_len (by decide +kernel) (pa_cons (pv 2) pa_nil)) pa_nil))) (fun _ _ => rfl))))))))), ?_⟩
  refine seq2 fun tl htl => ?_
  dsimp only [tCKw, tM1, tVals, tVar, tC, tB, tAnd, tOr, tNot, tAndV, tOrV, tNotV, tIf, tNext, tSeq, tBreak, tCont, tDrop, tRet, tRetN, tIfS, tNever, gName, gNil, gCons, gTup, gSub, tAsg, tPar, tAug, tTest, tChain, tFld, sFld, tNil, tCons, tTup, tLst, tCall, tMeth, tCB, tBM, tNoPart, tPart, tSl, tOp, tUn, rI, rI0, rU, iList, iTup, iRng1, iRng2, iStr, iEnum, iZip, iItems, iVals, tDGet, tDIn, tDNotIn, sDPut, tDGet2, tDNewK, tDNewT, tYes, fin, List.cons_append, List.nil_append, bx, cxOf, Cx.nox]
  refine ⟨Nat.zero_le _, fun am ham => ?_⟩
  refine for_te fun tb htb => ?_
  refine atSt (t := tFor _ _ _) [some (.ref p), some (.ref q), some (.ref am), none, none, none, none, none, none, none, none] rfl ?_
  dsimp only [tFor]
  dsimp only [tCKw, tM1, tVals, tVar, tC, tB, tAnd, tOr, tNot, tAndV, tOrV, tNotV, tIf, tNext, tSeq, tBreak, tCont, tDrop, tRet, tRetN, tIfS, tNever, gName, gNil, gCons, gTup, gSub, tAsg, tPar, tAug, tTest, tChain, tFld, sFld, tNil, tCons, tTup, tLst, tCall, tMeth, tCB, tBM, tNoPart, tPart, tSl, tOp, tUn, rI, rI0, rU, iList, iTup, iRng1, iRng2, iStr, iEnum, iZip, iItems, iVals, tDGet, tDIn, tDNotIn, sDPut, tDGet2, tDNewK, tDNewT, tYes, fin, List.cons_append, List.nil_append, bx, cxOf, Cx.nox]
  refine ⟨_, rfl, q, _, _, _, rfl, rfl, sqt ((Evl.Ex.new ham) _ _ hq), atI_nat (j := 1) rfl, lt, rfl, ⟨_, sql ((Evl.Ex.new ham) _ _ hlt)⟩, ?_⟩
  have tlen := pr_len htsA
  have p8 := ok.ps.hi
  refine for_it (g := gTup K 5 (gCons (gName 3) (gCons (gName 4) (gCons (gName 5) (gCons (gName 6) (gCons (gName 7) gNil)))))) (tb := tb) (D := { fin Q with nx := tl (fin Q) }) (walk_list (a := lt) (xs := bs.map V.ref)) (fun i σ H' => ∃ (x3 x4 x5 x6 x7 : Option V) (ys : List V) (us : List Spot), σ = [some (.ref p), some (.ref q), some (.ref am), x3, x4, x5, x6, x7, none, none, none] ∧ Ex H H' ∧ H' am = some (.lst ys) ∧ Paired (fun y u => SpV H' y u) ys us ∧ (∀ u ∈ us, u ∈ allS W) ∧ us.length ≤ 23 * i) ?_ (fun i σ H' _ w => let ⟨_, _, _, _, _, _, _, _, e, _⟩ := w; sql (e _ _ hlt)) (fun i x σ H' H'' hi w Y => ?_) fun σ H' w => ?_
  · exact ⟨none, none, none, none, none, [], [], rfl, Evl.Ex.new ham, upd_same, .nil, fun _ h => (nomatch h), Nat.zero_le _⟩
  · obtain ⟨x3, x4, x5, x6, x7, ys, us, rfl, e5, hm5, pr5, hin5, ln5⟩ := w
    obtain ⟨rfl, hy⟩ := Y
    rw [List.getElem?_map] at hy
    obtain ⟨a, ha, rfl⟩ := Option.map_eq_some_iff.mp hy
    obtain ⟨t, htn, v, htv, z, zs, rfl, hz, hzp⟩ := pr_at htsA ha
    have ht := List.mem_of_getElem? htn
    have tok := ok.ts.ok t ht
    have l12 := len12 tok
    have i12 := (List.getElem?_eq_some_iff.mp htn).1
    have hhs : t.hs.length ≤ 12 := by
      have := ok.ts.hh
      have := sum_one (fun t : Tie => t.hs.length) ht
      omega
    refine ⟨a, _, rfl, sqt (e5 _ _ htv), rfl, ?_⟩
    dsimp only [tCKw, tM1, tVals, tVar, tC, tB, tAnd, tOr, tNot, tAndV, tOrV, tNotV, tIf, tNext, tSeq, tBreak, tCont, tDrop, tRet, tRetN, tIfS, tNever, gName, gNil, gCons, gTup, gSub, tAsg, tPar, tAug, tTest, tChain, tFld, sFld, tNil, tCons, tTup, tLst, tCall, tMeth, tCB, tBM, tNoPart, tPart, tSl, tOp, tUn, rI, rI0, rU, iList, iTup, iRng1, iRng2, iStr, iEnum, iZip, iItems, iVals, tDGet, tDIn, tDNotIn, sDPut, tDGet2, tDNewK, tDNewT, tYes, fin, List.cons_append, List.nil_append, bx, cxOf, Cx.nox]
    refine ⟨_, _, rfl, _, _, rfl, _, _, rfl, _, _, rfl, _, _, rfl, rfl, ?_⟩
    subst htb
    refine atSt (t := tDrop _) [some (.ref p), some (.ref q), some (.ref am), some (.str t.nm), some (.str t.one), some (.str t.other), some (.int t.len), some (.ref z), none, none, none] rfl ?_
    dsimp only [tCKw, tM1, tVals, tVar, tC, tB, tAnd, tOr, tNot, tAndV, tOrV, tNotV, tIf, tNext, tSeq, tBreak, tCont, tDrop, tRet, tRetN, tIfS, tNever, gName, gNil, gCons, gTup, gSub, tAsg, tPar, tAug, tTest, tChain, tFld, sFld, tNil, tCons, tTup, tLst, tCall, tMeth, tCB, tBM, tNoPart, tPart, tSl, tOp, tUn, rI, rI0, rU, iList, iTup, iRng1, iRng2, iStr, iEnum, iZip, iItems, iVals, tDGet, tDIn, tDNotIn, sDPut, tDGet2, tDNewK, tDNewT, tYes, fin, List.cons_append, List.nil_append, bx, cxOf, Cx.nox]
    have hz' := hz.mono e5
    have hlz := pr_len hzp
    refine ⟨_, rfl, .inl ⟨rfl, _, sql hm5⟩, ?_⟩
    refine lc_te fun te tt hte htt => ?_
    dsimp only [iTup]
    dsimp only [tCKw, tM1, tVals, tVar, tC, tB, tAnd, tOr, tNot, tAndV, tOrV, tNotV, tIf, tNext, tSeq, tBreak, tCont, tDrop, tRet, tRetN, tIfS, tNever, gName, gNil, gCons, gTup, gSub, tAsg, tPar, tAug, tTest, tChain, tFld, sFld, tNil, tCons, tTup, tLst, tCall, tMeth, tCB, tBM, tNoPart, tPart, tSl, tOp, tUn, rI, rI0, rU, iList, iTup, iRng1, iRng2, iStr, iEnum, iZip, iItems, iVals, tDGet, tDIn, tDNotIn, sDPut, tDGet2, tDNewK, tDNewT, tYes, fin, List.cons_append, List.nil_append, bx, cxOf, Cx.nox]
    refine ⟨_, rfl, z, rfl, ⟨_, hz'.sq⟩, lc_pick (g := gTup K 2 (gCons (gName 8) (gCons (gName 9) gNil))) (walk_tup (a := z) (xs := zs.map V.ref)) (fun _ => true) (fun i H y => ∃ q, t.hs[i]? = some q ∧ SpV H y (.h t.nm q.1)) (by rw [List.length_map, hlz]; omega) (fun H e => (hz'.mono e).sq) (fun i y H H' e ⟨q, h1, h2⟩ => ⟨q, h1, h2.monoL e⟩) gm_tup2 (fun j y Ha Hb hj e6 Y => ?_) fun D1 Ha ys1 hD1 e6 hys1 pk1 => ?_⟩
    · obtain ⟨rfl, hy⟩ := Y
      rw [List.getElem?_map] at hy
      obtain ⟨b, hb, rfl⟩ := Option.map_eq_some_iff.mp hy
      obtain ⟨q0, hq0, hqt⟩ := pr_at hzp hb
      dsimp only [tCKw, tM1, tVals, tVar, tC, tB, tAnd, tOr, tNot, tAndV, tOrV, tNotV, tIf, tNext, tSeq, tBreak, tCont, tDrop, tRet, tRetN, tIfS, tNever, gName, gNil, gCons, gTup, gSub, tAsg, tPar, tAug, tTest, tChain, tFld, sFld, tNil, tCons, tTup, tLst, tCall, tMeth, tCB, tBM, tNoPart, tPart, tSl, tOp, tUn, rI, rI0, rU, iList, iTup, iRng1, iRng2, iStr, iEnum, iZip, iItems, iVals, tDGet, tDIn, tDNotIn, sDPut, tDGet2, tDNewK, tDNewT, tYes, fin, List.cons_append, List.nil_append, bx, cxOf, Cx.nox]
      refine ⟨b, _, rfl, sqt (e6 _ _ (e5 _ _ hqt)), rfl, _, _, rfl, _, _, rfl, rfl, rfl, fun Qy Qn k _ => ?_⟩
      subst hte htt
      dsimp only [tCKw, tM1, tVals, tVar, tC, tB, tAnd, tOr, tNot, tAndV, tOrV, tNotV, tIf, tNext, tSeq, tBreak, tCont, tDrop, tRet, tRetN, tIfS, tNever, gName, gNil, gCons, gTup, gSub, tAsg, tPar, tAug, tTest, tChain, tFld, sFld, tNil, tCons, tTup, tLst, tCall, tMeth, tCB, tBM, tNoPart, tPart, tSl, tOp, tUn, rI, rI0, rU, iList, iTup, iRng1, iRng2, iStr, iEnum, iZip, iItems, iVals, tDGet, tDIn, tDNotIn, sDPut, tDGet2, tDNewK, tDNewT, tYes, fin, List.cons_append, List.nil_append, bx, cxOf, Cx.nox]
      exact ⟨_, rfl, _, rfl, Nat.le_of_ble_eq_true rfl, fun u hu => k rfl _ _ (Evl.Ex.new hu) ⟨q0, hq0, u, rfl, upd_same⟩⟩
    have pk1' := pk1.all
    rw [List.length_map, hlz] at pk1'
    have pr1 : Paired (fun y sp => SpV Ha y sp) ys1 (t.hs.map fun q => Spot.h t.nm q.1) := by
      have h0 := pr_range (l := t.hs) (S := fun q y => SpV Ha y (Spot.h t.nm q.1)) pk1' fun i q y h1 ⟨q', h2, h3⟩ => by
        rw [h1] at h2
        cases h2
        exact h3
      refine pr_of (by rw [List.length_map, pr_len h0]) fun i y sp h1 h2 => ?_
      rw [List.getElem?_map] at h2
      obtain ⟨q0, hq0, rfl⟩ := Option.map_eq_some_iff.mp h2
      obtain ⟨y', hy', h3⟩ := pr_at h0 hq0
      rw [h1] at hy'
      cases hy'
      exact h3
    refine lc_te fun te2 tt2 hte2 htt2 => ?_
    dsimp only [tCKw, tM1, tVals, tVar, tC, tB, tAnd, tOr, tNot, tAndV, tOrV, tNotV, tIf, tNext, tSeq, tBreak, tCont, tDrop, tRet, tRetN, tIfS, tNever, gName, gNil, gCons, gTup, gSub, tAsg, tPar, tAug, tTest, tChain, tFld, sFld, tNil, tCons, tTup, tLst, tCall, tMeth, tCB, tBM, tNoPart, tPart, tSl, tOp, tUn, rI, rI0, rU, iList, iTup, iRng1, iRng2, iStr, iEnum, iZip, iItems, iVals, tDGet, tDIn, tDNotIn, sDPut, tDGet2, tDNewK, tDNewT, tYes, fin, List.cons_append, List.nil_append, bx, cxOf, Cx.nox]
    refine ⟨_, rfl, _, _, rfl, ⟨by omega, by omega, by omega, by omega⟩, lc_pick (g := gName 8) (walk_range (lo := 1) (n := (t.len - 1).toNat)) (fun _ => true) (fun i H y => SpV H y (.h t.nm (1 + (i : Int)))) (by omega) (fun _ _ => True.intro) (fun i y H H' e h => h.monoL e) gm_name (fun j y Hb Hc hj e7 Y => ?_) fun D2 Hb ys2 hD2 e7 hys2 pk2 => ?_⟩
    · obtain ⟨rfl, rfl⟩ := Y
      refine ⟨rfl, fun Qy Qn k _ => ?_⟩
      subst hte2 htt2
      dsimp only [tCKw, tM1, tVals, tVar, tC, tB, tAnd, tOr, tNot, tAndV, tOrV, tNotV, tIf, tNext, tSeq, tBreak, tCont, tDrop, tRet, tRetN, tIfS, tNever, gName, gNil, gCons, gTup, gSub, tAsg, tPar, tAug, tTest, tChain, tFld, sFld, tNil, tCons, tTup, tLst, tCall, tMeth, tCB, tBM, tNoPart, tPart, tSl, tOp, tUn, rI, rI0, rU, iList, iTup, iRng1, iRng2, iStr, iEnum, iZip, iItems, iVals, tDGet, tDIn, tDNotIn, sDPut, tDGet2, tDNewK, tDNewT, tYes, fin, List.cons_append, List.nil_append, bx, cxOf, Cx.nox]
      exact ⟨_, rfl, _, rfl, Nat.le_of_ble_eq_true rfl, fun u hu => k rfl _ _ (Evl.Ex.new hu) ⟨u, rfl, upd_same⟩⟩
    have pk2' := pk2.all
    have pr2 : Paired (fun y sp => SpV Hb y sp) ys2 (inT t) := by
      have hl2 := pr_len pk2'
      rw [List.length_range] at hl2
      refine pr_of (by unfold inT; rw [List.length_map, List.length_range]; exact hl2.symm) fun i y sp h1 h2 => ?_
      unfold inT at h2
      rw [List.getElem?_map] at h2
      obtain ⟨j, hj, rfl⟩ := Option.map_eq_some_iff.mp h2
      obtain ⟨y', hy', h3⟩ := pr_at pk2' hj
      have hi' := (List.getElem?_eq_some_iff.mp hj)
      obtain ⟨hi1, hi2⟩ := hi'
      rw [List.getElem_range] at hi2
      subst hi2
      rw [h1] at hy'
      cases hy'
      exact h3
    have l1 := pr_len pr1
    have l2 := pr_len pr2
    rw [List.length_map] at l1
    have l2b : (inT t).length ≤ 11 := by unfold inT; rw [List.length_map, List.length_range]; omega
    have l0 := pr_len pr5
    refine ⟨D1, D2, _, _, rfl, rfl, e7 _ _ hys1, hys2, Evl.sz_of (by omega), fun u hu => ?_⟩
    have eu := (e6.trans e7).trans (Evl.Ex.new (o := .lst (ys1 ++ ys2)) hu)
    have eb := Evl.Ex.new (o := .lst (ys1 ++ ys2)) hu
    have hmu := eu _ _ hm5
    have xl := ExL.upd (ys := ys ++ (ys1 ++ ys2)) hmu
    have q5 : Paired (fun y sp => SpV (upd Hb u (.lst (ys1 ++ ys2))) y sp) ys us := pr_mono pr5 fun _ _ q => q.mono fun _ _ h => eu _ _ h
    have q1 : Paired (fun y sp => SpV (upd Hb u (.lst (ys1 ++ ys2))) y sp) ys1 (t.hs.map fun q => Spot.h t.nm q.1) := pr_mono pr1 fun _ _ q => q.mono fun _ _ h => eb _ _ (e7 _ _ h)
    have q2 : Paired (fun y sp => SpV (upd Hb u (.lst (ys1 ++ ys2))) y sp) ys2 (inT t) := pr_mono pr2 fun _ _ q => q.mono fun _ _ h => eb _ _ h
    refine ⟨am, u, ys, _, rfl, rfl, hmu, upd_same, Evl.sz_of (by rw [List.length_append]; omega), some (.str t.nm), some (.str t.one), some (.str t.other), some (.int t.len), some (.ref z), _, us ++ ((t.hs.map fun q => Spot.h t.nm q.1) ++ inT t), rfl, (e5.trans eu).mut ham, upd_same, ?_, fun x hx => ?_, ?_⟩
    · exact pr_mono (K33M.paired_app q5 (K33M.paired_app q1 q2)) fun _ _ q => q.monoL xl
    · rcases List.mem_append.mp hx with h | h
      · exact hin5 x h
      · rcases List.mem_append.mp h with h | h
        · obtain ⟨q0, hq0, rfl⟩ := List.mem_map.mp h
          have := tok.hs.2 q0 hq0
          exact allS_mem.mpr ⟨t, ht, rfl, this.1, this.2.1⟩
        · obtain ⟨i, rfl, h1, h2⟩ := inT_mem.mp h
          exact allS_mem.mpr ⟨t, ht, rfl, h1, h2⟩
    · rw [List.length_append, List.length_append, List.length_map]
      omega
  · obtain ⟨x3, x4, x5, x6, x7, ys, us, rfl, e5, hm5, pr5, hin5, ln5⟩ := w
    subst htl
    dsimp only [tCKw, tM1, tVals, tVar, tC, tB, tAnd, tOr, tNot, tAndV, tOrV, tNotV, tIf, tNext, tSeq, tBreak, tCont, tDrop, tRet, tRetN, tIfS, tNever, gName, gNil, gCons, gTup, gSub, tAsg, tPar, tAug, tTest, tChain, tFld, sFld, tNil, tCons, tTup, tLst, tCall, tMeth, tCB, tBM, tNoPart, tPart, tSl, tOp, tUn, rI, rI0, rU, iList, iTup, iRng1, iRng2, iStr, iEnum, iZip, iItems, iVals, tDGet, tDIn, tDNotIn, sDPut, tDGet2, tDNewK, tDNewT, tYes, fin, List.cons_append, List.nil_append, bx, cxOf, Cx.nox]
    have ln5' : us.length ≤ 200 := by
      rw [List.length_map, tlen] at ln5
      omega
    have plen := pr_len hpsA
    refine lc_te fun te tt hte htt => ?_
    dsimp only [iList]
    dsimp only [tCKw, tM1, tVals, tVar, tC, tB, tAnd, tOr, tNot, tAndV, tOrV, tNotV, tIf, tNext, tSeq, tBreak, tCont, tDrop, tRet, tRetN, tIfS, tNever, gName, gNil, gCons, gTup, gSub, tAsg, tPar, tAug, tTest, tChain, tFld, sFld, tNil, tCons, tTup, tLst, tCall, tMeth, tCB, tBM, tNoPart, tPart, tSl, tOp, tUn, rI, rI0, rU, iList, iTup, iRng1, iRng2, iStr, iEnum, iZip, iItems, iVals, tDGet, tDIn, tDNotIn, sDPut, tDGet2, tDNewK, tDNewT, tYes, fin, List.cons_append, List.nil_append, bx, cxOf, Cx.nox]
    refine ⟨_, rfl, q, _, _, _, rfl, rfl, sqt (e5 _ _ hq), atI_nat (j := 0) rfl, l, rfl, ⟨_, sql (e5 _ _ hl)⟩, lc_pick (g := gTup K 2 (gCons (gName 3) (gCons (gName 9) gNil))) (walk_list (a := l) (xs := as.map V.ref)) (fun _ => true) (fun i _ y => ∃ q, W.ps[i]? = some q ∧ y = .str q.1) (by rw [List.length_map]; omega) (fun H e => sql (e _ _ (e5 _ _ hl))) (fun _ _ _ _ _ r => r) gm_tup2 (fun j y Ha Hb hj e6 Y => ?_) fun D1 Ha ys1 hD1 e6 hys1 pk1 => ?_⟩
    · obtain ⟨rfl, hy⟩ := Y
      rw [List.getElem?_map] at hy
      obtain ⟨a, ha, rfl⟩ := Option.map_eq_some_iff.mp hy
      obtain ⟨q0, hq0, hqt⟩ := pr_at hpsA ha
      dsimp only [tCKw, tM1, tVals, tVar, tC, tB, tAnd, tOr, tNot, tAndV, tOrV, tNotV, tIf, tNext, tSeq, tBreak, tCont, tDrop, tRet, tRetN, tIfS, tNever, gName, gNil, gCons, gTup, gSub, tAsg, tPar, tAug, tTest, tChain, tFld, sFld, tNil, tCons, tTup, tLst, tCall, tMeth, tCB, tBM, tNoPart, tPart, tSl, tOp, tUn, rI, rI0, rU, iList, iTup, iRng1, iRng2, iStr, iEnum, iZip, iItems, iVals, tDGet, tDIn, tDNotIn, sDPut, tDGet2, tDNewK, tDNewT, tYes, fin, List.cons_append, List.nil_append, bx, cxOf, Cx.nox]
      refine ⟨a, _, rfl, sqt (e6 _ _ (e5 _ _ hqt)), rfl, _, _, rfl, _, _, rfl, rfl, ?_, fun Qy Qn k _ => ?_⟩
      · show wipe _ [3, 9] = wipe _ [3, 9]
        rw [wipe_set (by decide), wipe_set (by decide)]
        rfl
      subst hte htt
      dsimp only [tCKw, tM1, tVals, tVar, tC, tB, tAnd, tOr, tNot, tAndV, tOrV, tNotV, tIf, tNext, tSeq, tBreak, tCont, tDrop, tRet, tRetN, tIfS, tNever, gName, gNil, gCons, gTup, gSub, tAsg, tPar, tAug, tTest, tChain, tFld, sFld, tNil, tCons, tTup, tLst, tCall, tMeth, tCB, tBM, tNoPart, tPart, tSl, tOp, tUn, rI, rI0, rU, iList, iTup, iRng1, iRng2, iStr, iEnum, iZip, iItems, iVals, tDGet, tDIn, tDNotIn, sDPut, tDGet2, tDNewK, tDNewT, tYes, fin, List.cons_append, List.nil_append, bx, cxOf, Cx.nox]
      exact ⟨_, rfl, k rfl _ _ (Evl.Ex.refl _) ⟨q0, hq0, rfl⟩⟩
    have pk1' := pk1.all
    rw [List.length_map, plen] at pk1'
    have pr1 : Paired (fun y sp => SpV Ha y sp) ys1 (W.ps.map fun q => Spot.p q.1) := by
      have h0 := pr_range (l := W.ps) (S := fun q y => SpV Ha y (Spot.p q.1)) pk1' fun i q y h1 ⟨q', h2, h3⟩ => by
        rw [h1] at h2
        cases h2
        exact h3
      refine pr_of (by rw [List.length_map, pr_len h0]) fun i y sp h1 h2 => ?_
      rw [List.getElem?_map] at h2
      obtain ⟨q0, hq0, rfl⟩ := Option.map_eq_some_iff.mp h2
      obtain ⟨y', hy', h3⟩ := pr_at h0 hq0
      rw [h1] at hy'
      cases hy'
      exact h3
    refine lc_te fun te2 tt2 hte2 htt2 => ?_
    dsimp only [tCKw, tM1, tVals, tVar, tC, tB, tAnd, tOr, tNot, tAndV, tOrV, tNotV, tIf, tNext, tSeq, tBreak, tCont, tDrop, tRet, tRetN, tIfS, tNever, gName, gNil, gCons, gTup, gSub, tAsg, tPar, tAug, tTest, tChain, tFld, sFld, tNil, tCons, tTup, tLst, tCall, tMeth, tCB, tBM, tNoPart, tPart, tSl, tOp, tUn, rI, rI0, rU, iList, iTup, iRng1, iRng2, iStr, iEnum, iZip, iItems, iVals, tDGet, tDIn, tDNotIn, sDPut, tDGet2, tDNewK, tDNewT, tYes, fin, List.cons_append, List.nil_append, bx, cxOf, Cx.nox]
    have nD1p := (hp.mono e5).new hD1
    have hpa := (hp.mono e5).mono e6
    have hma := e6 _ _ hm5
    have pra : Paired (fun y u => SpV Ha y u) ys us := pr_mono pr5 fun _ _ q => q.mono fun _ _ h => e6 _ _ h
    have namp := hp.new ham
    have lyu := pr_len pra
    refine ⟨_, rfl, by decide, by decide, lc_pot (g := gName 10) (walk_range (lo := 0) (n := 10)) (fun _ => !us.isEmpty) (fun _ H y => ∃ u ∈ us, SpV H y u) (by decide) hpa (fun _ _ => True.intro) (fun i y H H' e ⟨u, h1, h2⟩ => ⟨u, h1, h2.monoL e⟩) gm_name (fun i y Hb Hc hi e7 hp7 Y => ?_) fun D2 Hb ys2 hD2 e7 hp7 hys2 pk2 => ?_⟩
    · obtain ⟨rfl, rfl⟩ := Y
      refine ⟨rfl, fun Qy Qn k kn => ?_⟩
      subst hte2 htt2
      dsimp only [tCKw, tM1, tVals, tVar, tC, tB, tAnd, tOr, tNot, tAndV, tOrV, tNotV, tIf, tNext, tSeq, tBreak, tCont, tDrop, tRet, tRetN, tIfS, tNever, gName, gNil, gCons, gTup, gSub, tAsg, tPar, tAug, tTest, tChain, tFld, sFld, tNil, tCons, tTup, tLst, tCall, tMeth, tCB, tBM, tNoPart, tPart, tSl, tOp, tUn, rI, rI0, rU, iList, iTup, iRng1, iRng2, iStr, iEnum, iZip, iItems, iVals, tDGet, tDIn, tDNotIn, sDPut, tDGet2, tDNewK, tDNewT, tYes, fin, List.cons_append, List.nil_append, bx, cxOf, Cx.nox]
      have prb : Paired (fun y u => SpV Hc y u) ys us := pr_mono pra fun y sp q => (q.monoL hpa.exl).mono fun _ _ h => e7 _ _ h
      have hmb : Hc am = some (.lst ys) := e7 _ _ (by rw [hid_ne namp]; exact hma)
      refine ⟨_, rfl, Nat.zero_le _, fun p1 hp1 => ⟨_, _, .lst (sql ((Evl.Ex.new hp1) _ _ hmb)) (dp_sps (pr_mono prb fun _ _ q => q.mono fun _ _ h => (Evl.Ex.new hp1) _ _ h)), .lst (sql upd_same) .nil, sps_shaped (fun u hu => allS_nm ok u (hin5 u hu)), rfl, ?_⟩⟩
      have e8 := Evl.Ex.new (o := .lst []) hp1
      have hp8 := hp7.mono e8
      have hm8 := e8 _ _ hmb
      have pr8 : Paired (fun y u => SpV (upd Hc p1 (.lst [])) y u) ys us := pr_mono prb fun _ _ q => q.mono fun _ _ h => e8 _ _ h
      generalize upd Hc p1 (.lst []) = H8 at e8 hp8 hm8 pr8
      have eEq : PyData.eqv (.list (us.map pySp)) (.list []) = us.isEmpty := by cases us <;> rfl
      rw [eEq]
      cases hu : us.isEmpty with
      | true => exact ⟨_, rfl, kn (by rw [hu]; rfl) _ ((hid_ex (p := p)).trans e8) hp8⟩
      | false =>
        have lpos : 0 < ys.length := by
          rw [lyu]
          cases us with
          | nil => cases hu
          | cons _ _ => exact Nat.succ_pos _
        refine ⟨_, rfl, _, rfl, _, rfl, _, rfl, am, _, rfl, .inl (sql hm8), p, ys.length, rfl, hp8, lpos, by omega, fun d H9 hd e9 hp9 => ?_⟩
        obtain ⟨u, hu1, hu2⟩ := pr_at pr8 (List.getElem?_eq_getElem hd)
        refine ⟨am, _, _, ys[d], rfl, rfl, sql (e9 _ _ (by rw [hid_ne namp]; exact hm8)), atI_nat (List.getElem?_eq_getElem hd), ?_⟩
        exact k (by rw [hu]; rfl) _ _ ((ex_hid ((hid_ex (p := p)).trans e8) hid_same).trans e9) hp9 ⟨u, List.mem_of_getElem? hu1, (hu2.monoL hp8.exl).mono fun _ _ h => e9 _ _ h⟩
    · obtain ⟨us2, pr2, hin2⟩ := spots_of pk2
      have l2 := pk2.len
      have l2' := pr_len pr2
      have l1 := pr_len pr1
      rw [List.length_map] at l1
      have hD1b : Hb D1 = some (.lst ys1) := e7 _ _ (by rw [hid_ne nD1p]; exact hys1)
      refine ⟨D1, D2, _, _, rfl, rfl, hD1b, hys2, Evl.sz_of (by omega), fun u hu => ?_⟩
      have eu := Evl.Ex.new (o := .lst (ys1 ++ ys2)) hu
      have pr1b : Paired (fun y u => SpV Hb y u) ys1 (W.ps.map fun q => Spot.p q.1) := pr_mono pr1 fun y sp q => (q.monoL hpa.exl).mono fun _ _ h => e7 _ _ h
      refine hQ u _ _ _ upd_same (K33M.paired_app (pr_mono pr1b fun _ _ q => q.mono fun _ _ h => eu _ _ h) (pr_mono pr2 fun _ _ q => q.mono fun _ _ h => eu _ _ h)) (fun z => ?_) ?_ (fun x hx => ?_) (hp7.new hu) ((ex_hid (hid_ex.trans (e5.trans e6)) hid_same).trans (e7.trans eu)) (hp7.mono eu)
      · have := congrArg List.length z
        rw [List.length_append, List.length_map] at this
        have hlo := ok.ps.lo
        have h0 : ([] : List Spot).length = 0 := rfl
        rw [h0] at this
        omega
      · rw [List.length_append, List.length_map]
        omega
      · rcases List.mem_append.mp hx with h | h
        · obtain ⟨q0, hq0, rfl⟩ := List.mem_map.mp h
          exact allS_mem.mpr (List.mem_map_of_mem hq0)
        · exact hin5 x (hin2 x h)
end
end K33


set_option Elab.async false
set_option linter.all false
set_option maxRecDepth 100000
set_option maxHeartbeats 8000000
namespace K33
open PySem PySem.Spec PyProof.Rows L2 K33M
/-! ### the pot aside -/
theorem Tie4.monoL {H H' : Hp} (e : ExL H H') {a : Addr} {t : Tie} (h : Tie4 H a t) : Tie4 H' a t := let ⟨v, h1, h2⟩ := h; ⟨v, e _ _ h1 (fun _ z => nomatch z), h2.monoL e⟩
theorem WebAt.monoL {C : Addr} {H H' : Hp} {p : Addr} {W : Web} {r : Addr} (e : ExL H H') (h : WebAt C H p W r) : WebAt C H' p W r :=
  let ⟨dx, ds, dt, tas, h1, h2, h3, h4⟩ := h.ex
  ⟨dx, ds, dt, tas, e _ _ h1 (fun _ z => nomatch z), e _ _ h2 (fun _ z => nomatch z), e _ _ h3 (fun _ z => nomatch z), pr_mono h4 fun _ _ q => q.monoL e⟩
theorem no_int_sp {H : Hp} {a : Int} {ys : List V} : ∀ {sps : List Spot}, Paired (fun y sp => SpV H y sp) (V.int a :: ys) sps → False
  | .p _ :: _, .cons q _ => by cases q
  | .h _ _ :: _, .cons q _ => by obtain ⟨b, z, _⟩ := q; cases z
theorem KnAt.hidPot {K : PySem.W.Frag} {H : Hp} {p : Addr} (hp : Pot H p) {x : Addr} {W : Web} (ok : WOk W) {pl : List (List Pc)} {pw kr : Addr} (h : KnAt K H x W pl pw kr) : KnAt K (hid p H) x W pl pw kr := by
  obtain ⟨dx, s, nu, pcs, h1, ⟨ys, h2, h3⟩, ls, h4, h5⟩ := h.ex
  have ns : s ≠ p := fun z => by
    obtain ⟨a, b, k1, _⟩ := hp
    rw [z, k1] at h2
    cases h2
    exact no_int_sp h3
  exact ⟨dx, s, nu, pcs, hp.exl _ _ h1 (fun _ z => nomatch z), ⟨ys, by rw [hid_ne ns]; exact h2, pr_mono h3 fun _ _ q => q.monoL hp.exl⟩, ls, by rw [hid_ne (hp.nref h4)]; exact h4,
    pr_mono h5 fun l _ ⟨xs, q1, q2⟩ => ⟨xs, by rw [hid_ne (hp.nref q1)]; exact q1, pr_mono q2 fun _ _ q => hp.exl _ _ q (fun _ z => nomatch z)⟩⟩
theorem AhAt.hidPot {K : PySem.W.Frag} {H : Hp} {p : Addr} (hp : Pot H p) {x wp : Addr} {W : Web} (ok : WOk W) {pl : List (List Pc)} {pw kr : Addr} (h : AhAt K H x W wp pl pw kr) : AhAt K (hid p H) x W wp pl pw kr :=
  let ⟨dx, kx, h1, h2⟩ := h.ex
  ⟨dx, kx, hp.exl _ _ h1 (fun _ z => nomatch z), h2.hidPot hp ok⟩
theorem Hot.hidPot {H : Hp} {p : Addr} (hp : Pot H p) {W : Web} {pl : List (List Pc)} {pw kr : Addr} (h : Hot H W pl pw kr) : Hot (hid p H) W pl pw kr := by
  obtain ⟨⟨as, h1, h2, h3⟩, kvs, k1, k2⟩ := h
  have npw : pw ≠ p := hp.nref h1
  refine ⟨⟨as, by rw [hid_ne npw]; exact h1, h2, fun i a ha => ?_⟩, kvs, hp.exl _ _ k1 (fun _ z => nomatch z), k2⟩
  obtain ⟨rs, g1, g2, g3⟩ := h3 i a ha
  have npa : a ≠ pw := fun z => by rw [z, hid_same] at g1; cases g1
  rw [hid_ne npa] at g1
  refine ⟨rs, by rw [hid_ne npa, hid_ne (hp.nref g1)]; exact g1, g2, fun j b hb => ?_⟩
  obtain ⟨kv, q1, q2⟩ := g3 j b hb
  have nb : b ≠ pw := fun z => by rw [z, hid_same] at q1; cases q1
  rw [hid_ne nb] at q1
  exact ⟨kv, by rw [hid_ne nb]; exact hp.exl _ _ q1 (fun _ z => nomatch z), q2⟩
/-- the web reckons, the pot goes on -/
structure RInv (K : PySem.W.Frag) (W : Web) (x r p : Addr) (Vb H : Hp) : Prop where
  ex : ∃ Vw, Ex Vb Vw ∧ Ex Vw H ∧ Vw r = none ∧ Pot Vw p ∧ Cache K W x r Vw H
theorem RInv.view {K : PySem.W.Frag} {W : Web} {x r p : Addr} {Vb H : Hp} (h : RInv K W x r p Vb H) : Ex Vb H := let ⟨_, e1, e2, _⟩ := h.ex; e1.trans e2
theorem RInv.pot {K : PySem.W.Frag} {W : Web} {x r p : Addr} {Vb H : Hp} (h : RInv K W x r p Vb H) : Pot H p := let ⟨_, _, e2, _, hp, _⟩ := h.ex; hp.mono e2
theorem RInv.take {K : PySem.W.Frag} {W : Web} (ok : WOk W) {x r p : Addr} {Vb H H' : Hp} (nr : r ≠ p) (hb : Vb p = none) (h : RInv K W x r p Vb H) (e : Ex (hid p H) H') (hp' : Pot H' p) : RInv K W x r p Vb H' := by
  obtain ⟨Vw, e1, e2, hr, hp, hc⟩ := h.ex
  obtain ⟨a, b, g1, g2⟩ := hp'
  have eh : Ex (hid p Vw) (upd Vw p (.lst [.int a, .int b])) := hid_ex.mut hid_same
  have hpH := hp.mono e2
  refine ⟨upd Vw p (.lst [.int a, .int b]), fun q o h => ?_, fun q o h => ?_, by rw [upd_ne nr]; exact hr, ⟨a, b, upd_same, g2⟩, ?_⟩
  · rw [upd_ne fun z => by rw [z, hb] at h; cases h]
    exact e1 _ _ h
  · by_cases c : q = p
    · subst c
      rw [upd_same] at h
      rw [← h]
      exact g1
    · rw [upd_ne c] at h
      exact e _ _ (by rw [hid_ne c]; exact e2 _ _ h)
  · rcases hc with hc | ⟨ah, pl, pw, kr, c1, c2, c3, c4, c5, c6, c7⟩
    · exact .inl (e _ _ (by rw [hid_ne nr]; exact hc))
    · have npw : pw ≠ p := fun z => by
        obtain ⟨a, b, h1, _⟩ := hp
        rw [z, h1] at c4
        cases c4
      have nkr : kr ≠ p := fun z => by
        obtain ⟨a, b, h1, _⟩ := hp
        rw [z, h1] at c5
        cases c5
      exact .inr ⟨ah, pl, pw, kr, e _ _ (by rw [hid_ne nr]; exact c1), (c2.hidPot hp ok).mono eh, c3, by rw [upd_ne npw]; exact c4, by rw [upd_ne nkr]; exact c5, c6, (c7.hidPot hpH).mono e⟩
theorem RInv.on {K : PySem.W.Frag} {W : Web} {x r p : Addr} {Vb Vw Vw' H' : Hp} (e1 : Ex Vb Vw) (hp : Pot Vw p) (e : Ex Vw Vw') (e2 : Ex Vw' H') (hr : Vw' r = none) (hc : Cache K W x r Vw' H') : RInv K W x r p Vb H' :=
  ⟨Vw', e1.trans e, e2, hr, hp.mono e, hc⟩
def sp_law_right (K : PySem.W.Frag) : Sp := fun vs H Q _ => ∃ (p q : Addr) (W : Web), vs = [.ref p, .ref q, .bl W.rd] ∧ Pot H p ∧ SpecAt H q W.ps W.ts ∧ WOk W ∧ W.ts.length ≤ 8 ∧ ∀ H', Ex (hid p H) H' → Q (.bl true) H'
section
variable {P : Program} {w : World} {K : PySem.W.Frag} {mg : Str → Option Value} {base : Heap}
theorem o_law_right (T : Tx K mg) : FO P w K mg base 15 (He.ga K "_law_right") ["_law_pot_here", "_law_spec", "_law_is_rounds"] (sp_law_right K) := def_ok T.f_law_right sc_law_right (fun _ _ _ _ _ _ us hl => match us, hl with | [_, _, _], _ => rfl)
    (fun _ _ _ _ h => by obtain ⟨_, _, _, rfl, _⟩ := h; rfl) fun cdv A outer s H vs Q E hr h => by
  have hu := hu_of hr
  obtain ⟨p, q, W, rfl, hp, hsp, ok, ht8, hQ⟩ := h
  obtain ⟨fe, Fe, be, ke⟩ := (o_Web_eq (P := P) (w := w) (base := base) T).ex
  have EQw := rcG_ins (X := bx P w K mg base ["_law_pot_here", "_law_spec", "_law_is_rounds", "_law_net", "_law_line_here", "_law_spots_here", "_law_turn", "_law_where", "_law_far_here", "_law_told"] "_law_right" s_law_right (He.ga K "_law_right") cdv A outer s H E) Fe T.m_Web_eq.at_ T.m_Web_eq.fn be pass0
  refine ⟨_, (pss_cons (ps_set (i := 3) sc_law_right.nd rfl (.inl rfl) (c_fn (o_law_made T) T.g_law_made (hr.mono (by decide)) (pa_cons (pv 1) (pa_cons (pv 2) pa_nil))))
      (pss_cons (ps_set (i := 4) sc_law_right.nd rfl (.inl rfl) (c_fn (o_law_line T) T.g_law_line (hr.mono (by decide)) (pa_cons (pv 1) (pa_cons (pv 2) pa_nil))))
      (pss_cons (ps_set (i := 5) sc_law_right.nd rfl (.inl rfl) (c_fn (o_law_spots T) T.g_law_spots (hr.mono (by decide)) (pa_cons (pv 0) (pa_cons (pv 1) pa_nil))))
      (pss_cons (ps_for PassesOwn.never rfl (pi_range1 (by rfl) T.z_range (pa_cons pe_int pa_nil)) (pg_name (i := 6) sc_law_right.nd rfl (.inl rfl))
        (pss_cons (ps_set (i := 7) sc_law_right.nd rfl (.inl rfl) (pe_ix ix_list (pv 5) (c_fn (o_law_take T) T.g_law_take (hr.mono (by decide)) (pa_cons (pv 0) (pa_cons (pe_callB call_len_seq (by rfl) T.z_len (by decide +kernel) (pa_cons (pv 5) pa_nil)) pa_nil))) (fun _ _ => rfl)))
        (pss_cons (ps_set (i := 8) sc_law_right.nd rfl (.inl rfl) (c_fn (o_law_far T) T.g_law_far (hr.mono (by decide)) (pa_cons (pv 0) (pa_cons (pv 4) (pa_cons (pv 7) pa_nil)))))
        (pss_cons (ps_set (i := 9) sc_law_right.nd rfl (.inl rfl) (c_fn (o_state_behind T) T.g_state_behind (hr.mono (by decide)) (pa_cons (pv 3) (pa_cons (pv 7) (pa_cons (pv 8) pa_nil)))))
        (pss_one (ps_if (PW.pt (pw_or (pt_cmpR op_ne (pe_callB SkE.call_repr_int (by rfl) T.z_repr (by decide +kernel) (pa_cons (pv 9) pa_nil)) (pe_callB SkE.call_repr_int (by rfl) T.z_repr (by decide +kernel) (pa_cons (pe_mget hu (pe_ix ix_list (pv 4) (pv 8) (fun _ _ => rfl)) (pv 7) (fun _ _ => rfl)) pa_nil)) (nomark _)) (pw_or1 (PW.pt (pw_and (pt_cmpR op_eq (pv 6) pe_int (nomark _)) (pw_and1 (pt_cmpR op_ne (c_fn (o_state_behind T) T.g_state_behind (hr.mono (by decide)) (pa_cons (pv 3) (pa_cons (pv 7) (pa_cons (pv 8) pa_nil)))) (pv 9) (nomark _)))))))) (pss_one (ps_ret pe_bl)) pss_nil))))))
      (pss_one (ps_ret (pe_cmpR (op_eqG EQw (hr.mono (by decide))) (pv 3) (c_fn (o_law_made T) T.g_law_made (hr.mono (by decide)) (pa_cons (pv 1) (pa_cons (pv 2) pa_nil))) (nomark _)))))))), ?_⟩
  refine seq4 fun tl htl => ?_
  dsimp only [tCKw, tM1, tVals, tVar, tC, tB, tAnd, tOr, tNot, tAndV, tOrV, tNotV, tIf, tNext, tSeq, tBreak, tCont, tDrop, tRet, tRetN, tIfS, tNever, gName, gNil, gCons, gTup, gSub, tAsg, tPar, tAug, tTest, tChain, tFld, sFld, tNil, tCons, tTup, tLst, tCall, tMeth, tCB, tBM, tNoPart, tPart, tSl, tOp, tUn, rI, rI0, rU, iList, iTup, iRng1, iRng2, iStr, iEnum, iZip, iItems, iVals, tDGet, tDIn, tDNotIn, sDPut, tDGet2, tDNewK, tDNewT, tYes, fin, List.cons_append, List.nil_append, bx, cxOf, Cx.nox]
  refine ⟨_, rfl, _, rfl, q, W, rfl, hsp, ok, fun x r H1 hx hr nxr e1 hw hr1 => ⟨_, rfl, _, rfl, q, W, rfl, hsp.mono e1, ok, fun ll H2 hll e2 hline => ⟨_, rfl, _, rfl, p, q, W, rfl, hp.mono (e1.trans e2), hsp.mono (e1.trans e2), ok, ht8, fun sl H3 ys us hsl prs une lus hus nsp e3 hp3 => ?_⟩⟩⟩
  have nrp : r ≠ p := hp.new hr
  have hp1 := hp.mono e1
  have hp2 := hp1.mono e2
  have hr3 : H3 r = some (.lst []) := e3 _ _ (by rw [hid_ne nrp]; exact e2 _ _ hr1)
  have exr : ExL H3 (hid r H3) := fun a o h n => by
    rw [hid_ne fun z => by rw [z, hr3] at h; cases h; exact n _ rfl]
    exact h
  have hp3r : Pot (hid r H3) p := by
    obtain ⟨a, b, h1, h2⟩ := hp3
    exact ⟨a, b, by rw [hid_ne nrp.symm]; exact h1, h2⟩
  have exb : ExL H3 (hid p (hid r H3)) := exr.trans hp3r.exl
  have x23 : ExL H2 H3 := hp2.exl.trans (ExL.of e3)
  have keep : ∀ (a : Addr) (zs : List V), a ≠ r → a ≠ p → H3 a = some (.lst zs) → hid p (hid r H3) a = some (.lst zs) := fun a zs n1 n2 h => by
    rw [hid_ne n2, hid_ne n1]
    exact h
  have hwb : WebAt (cW K) (hid p (hid r H3)) x W r := ((hw.mono e2).monoL x23).monoL exb
  obtain ⟨ds, hds, dlen, hmd⟩ := hline
  have nllr : ll ≠ r := fun z => by rw [z, hr1] at hll; cases hll
  have nllp : ll ≠ p := hp2.nref hds
  have hlb : LineAt P w (hid p (hid r H3)) ll W := ⟨ds, keep _ _ nllr nllp (e3 _ _ (by rw [hid_ne nllp]; exact hds)), dlen, fun b d hd => ((hmd b d hd).monoL x23).monoL exb⟩
  have nslr : sl ≠ r := fun z => by
    rw [z, hr3] at hsl
    cases hsl
    cases us with
    | nil => exact une rfl
    | cons _ _ => cases prs
  have hslb := keep _ _ nslr nsp hsl
  have prb : Paired (fun y u => SpV (hid p (hid r H3)) y u) ys us := pr_mono prs fun _ _ q => q.monoL exb
  have hspb : SpecAt (hid p (hid r H3)) q W.ps W.ts := by
    obtain ⟨l, lt, as, bs, k1, k2, k3, k4, k5⟩ := hsp.ex
    have kk : ∀ (a : Addr) (zs : List V), H a = some (.lst zs) → a ≠ p → hid p (hid r H3) a = some (.lst zs) := fun a zs h np => keep a zs (fun z => by rw [z, hr] at h; cases h) np (e3 _ _ (by rw [hid_ne np]; exact e2 _ _ (e1 _ _ h)))
    have xx : ExL H (hid p (hid r H3)) := ((ExL.of (e1.trans e2)).trans x23).trans exb
    exact ⟨l, lt, as, bs, xx _ _ k1 (fun _ z => nomatch z), kk _ _ k2 (hp.nref k2), k3.monoL xx, kk _ _ k4 (hp.nref k4), k5.monoL xx⟩
  have hVb : hid p (hid r H3) r = none := by rw [hid_ne nrp, hid_same]
  have hVp : hid p (hid r H3) p = none := hid_same
  have inv0 : RInv K W x r p (hid p (hid r H3)) H3 := ⟨hid r H3, hid_ex, hid_ex, hid_same, hp3r, .inl hr3⟩
  have eB : Ex (hid p H) (hid p (hid r H3)) := fun a o h => by
    by_cases c : a = p
    · rw [c, hid_same] at h; cases h
    · rw [hid_ne c] at h
      have na : a ≠ r := fun z => by rw [z, hr] at h; cases h
      rw [hid_ne c, hid_ne na]
      exact e3 _ _ (by rw [hid_ne c]; exact e2 _ _ (e1 _ _ h))
  generalize hid p (hid r H3) = Vb at hwb hlb hslb prb hVb hVp inv0 hspb eB
  clear hmd hds exb exr x23 keep hp3r hr3 hsl prs hw e1 e2 e3
  show tFor _ _ _ _ _ _
  refine endsT fun D' hD' => ?_
  refine for_te fun tb htb => ?_
  refine atSt (t := tFor _ _ _) [some (.ref p), some (.ref q), some (.bl W.rd), some (.ref x), some (.ref ll), some (.ref sl), none, none, none, none] rfl ?_
  dsimp only [tFor]
  dsimp only [tCKw, tM1, tVals, tVar, tC, tB, tAnd, tOr, tNot, tAndV, tOrV, tNotV, tIf, tNext, tSeq, tBreak, tCont, tDrop, tRet, tRetN, tIfS, tNever, gName, gNil, gCons, gTup, gSub, tAsg, tPar, tAug, tTest, tChain, tFld, sFld, tNil, tCons, tTup, tLst, tCall, tMeth, tCB, tBM, tNoPart, tPart, tSl, tOp, tUn, rI, rI0, rU, iList, iTup, iRng1, iRng2, iStr, iEnum, iZip, iItems, iVals, tDGet, tDIn, tDNotIn, sDPut, tDGet2, tDNewK, tDNewT, tYes, fin, List.cons_append, List.nil_append, bx, cxOf, Cx.nox]
  have hVw : ∀ {H'}, RInv K W x r p Vb H' → LineAt P w H' ll W := fun inv => by
    obtain ⟨ds, g1, g2, g3⟩ := hlb
    exact ⟨ds, inv.view _ _ g1, g2, fun b d hd => (g3 b d hd).mono inv.view⟩
  have lyu := pr_len prb
  have lpos : 0 < ys.length := by
    rw [lyu]
    exact List.length_pos_iff.mpr une
  refine ⟨_, rfl, by decide, by decide, ?_⟩
  refine for_it (g := gName 6) (tb := tb) (D := D') (walk_range (lo := 0) (n := 11)) (fun i σ H' => ∃ (x6 x7 x8 x9 : Option V), σ = [some (.ref p), some (.ref q), some (.bl W.rd), some (.ref x), some (.ref ll), some (.ref sl), x6, x7, x8, x9] ∧ RInv K W x r p Vb H') ?_ (fun _ _ _ _ _ => True.intro) (fun i z σ H' H'' hi w Y => ?_) fun σ H' w => ?_
  · exact ⟨none, none, none, none, rfl, inv0⟩
  · obtain ⟨x6, x7, x8, x9, rfl, inv⟩ := w
    obtain ⟨rfl, rfl⟩ := Y
    subst htb
    refine seqT fun t1 ht1 => ?_
    dsimp only [tCKw, tM1, tVals, tVar, tC, tB, tAnd, tOr, tNot, tAndV, tOrV, tNotV, tIf, tNext, tSeq, tBreak, tCont, tDrop, tRet, tRetN, tIfS, tNever, gName, gNil, gCons, gTup, gSub, tAsg, tPar, tAug, tTest, tChain, tFld, sFld, tNil, tCons, tTup, tLst, tCall, tMeth, tCB, tBM, tNoPart, tPart, tSl, tOp, tUn, rI, rI0, rU, iList, iTup, iRng1, iRng2, iStr, iEnum, iZip, iItems, iVals, tDGet, tDIn, tDNotIn, sDPut, tDGet2, tDNewK, tDNewT, tYes, fin, List.cons_append, List.nil_append, bx, cxOf, Cx.nox]
    have hsl5 := inv.view _ _ hslb
    have nslp : sl ≠ p := nsp
    refine ⟨_, rfl, _, rfl, _, rfl, sl, _, rfl, .inl (sql hsl5), p, ys.length, rfl, inv.pot, lpos, by omega, fun d Ha hd ea hpa => ?_⟩
    have inva := inv.take ok nrp hVp ea hpa
    obtain ⟨sp, hsp1, hsp2⟩ := pr_at prb (List.getElem?_eq_getElem hd)
    have hspa := hus sp (List.mem_of_getElem? hsp1)
    refine ⟨sl, _, _, ys[d], rfl, rfl, sql (inva.view _ _ hslb), atI_nat (List.getElem?_eq_getElem hd), ?_⟩
    generalize ys[d] = y at hsp2
    subst ht1
    refine seqT fun t2 ht2 => ?_
    dsimp only [tCKw, tM1, tVals, tVar, tC, tB, tAnd, tOr, tNot, tAndV, tOrV, tNotV, tIf, tNext, tSeq, tBreak, tCont, tDrop, tRet, tRetN, tIfS, tNever, gName, gNil, gCons, gTup, gSub, tAsg, tPar, tAug, tTest, tChain, tFld, sFld, tNil, tCons, tTup, tLst, tCall, tMeth, tCB, tBM, tNoPart, tPart, tSl, tOp, tUn, rI, rI0, rU, iList, iTup, iRng1, iRng2, iStr, iEnum, iZip, iItems, iVals, tDGet, tDIn, tDNotIn, sDPut, tDGet2, tDNewK, tDNewT, tYes, fin, List.cons_append, List.nil_append, bx, cxOf, Cx.nox]
    refine ⟨_, rfl, _, rfl, _, rfl, p, ll, y, W, sp, rfl, inva.pot, hVw inva, hsp2.mono fun _ _ h => inva.view _ _ h, hspa, ok, fun b Hb hb eb hpb => ?_⟩
    have invb := inva.take ok nrp hVp eb hpb
    obtain ⟨Vw, v1, v2, v3, v4, v5⟩ := invb.ex
    subst ht2
    refine seqT fun t3 ht3 => ?_
    dsimp only [tCKw, tM1, tVals, tVar, tC, tB, tAnd, tOr, tNot, tAndV, tOrV, tNotV, tIf, tNext, tSeq, tBreak, tCont, tDrop, tRet, tRetN, tIfS, tNever, gName, gNil, gCons, gTup, gSub, tAsg, tPar, tAug, tTest, tChain, tFld, sFld, tNil, tCons, tTup, tLst, tCall, tMeth, tCB, tBM, tNoPart, tPart, tSl, tOp, tUn, rI, rI0, rU, iList, iTup, iRng1, iRng2, iStr, iEnum, iZip, iItems, iVals, tDGet, tDIn, tDNotIn, sDPut, tDGet2, tDNewK, tDNewT, tYes, fin, List.cons_append, List.nil_append, bx, cxOf, Cx.nox]
    refine ⟨_, rfl, _, rfl, _, rfl, Vw, x, r, W, y, sp, b, rfl, v2, v3, hwb.mono v1, ok, v5, hsp2.mono fun _ _ h => v1 _ _ h, allS_mem.mp hspa, hb, fun Vw' Hc ec1 ec2 hrc cc => ?_⟩
    have invc := RInv.on v1 v4 ec1 ec2 hrc cc
    subst ht3
    refine atSt (t := tIfS _ _ _) [some (.ref p), some (.ref q), some (.bl W.rd), some (.ref x), some (.ref ll), some (.ref sl), some (.int (0 + (i : Int))), some y, some (.int (b : Int)), some (.int (stAt W b sp))] rfl ?_
    dsimp only [tCKw, tM1, tVals, tVar, tC, tB, tAnd, tOr, tNot, tAndV, tOrV, tNotV, tIf, tNext, tSeq, tBreak, tCont, tDrop, tRet, tRetN, tIfS, tNever, gName, gNil, gCons, gTup, gSub, tAsg, tPar, tAug, tTest, tChain, tFld, sFld, tNil, tCons, tTup, tLst, tCall, tMeth, tCB, tBM, tNoPart, tPart, tSl, tOp, tUn, rI, rI0, rU, iList, iTup, iRng1, iRng2, iStr, iEnum, iZip, iItems, iVals, tDGet, tDIn, tDNotIn, sDPut, tDGet2, tDNewK, tDNewT, tYes, fin, List.cons_append, List.nil_append, bx, cxOf, Cx.nox]
    dsimp only [tMGet]
    dsimp only [tCKw, tM1, tVals, tVar, tC, tB, tAnd, tOr, tNot, tAndV, tOrV, tNotV, tIf, tNext, tSeq, tBreak, tCont, tDrop, tRet, tRetN, tIfS, tNever, gName, gNil, gCons, gTup, gSub, tAsg, tPar, tAug, tTest, tChain, tFld, sFld, tNil, tCons, tTup, tLst, tCall, tMeth, tCB, tBM, tNoPart, tPart, tSl, tOp, tUn, rI, rI0, rU, iList, iTup, iRng1, iRng2, iStr, iEnum, iZip, iItems, iVals, tDGet, tDIn, tDNotIn, sDPut, tDGet2, tDNewK, tDNewT, tYes, fin, List.cons_append, List.nil_append, bx, cxOf, Cx.nox]
    have h012 : stAt W b sp = 0 ∨ stAt W b sp = 1 ∨ stAt W b sp = 2 := by
      have h0 : 0 ≤ stAt W b sp ∧ stAt W b sp ≤ 2 := sim_tri (stOf_tri ok) b sp
      omega
    have hlog : (stAt W b sp).natAbs.log2 < 1920 := by
      rcases h012 with h | h | h <;> rw [h] <;> decide
    obtain ⟨ds', g1, g2, g3⟩ := hVw invc
    have hdb := List.getElem?_eq_getElem (show b < ds'.length by omega)
    refine ⟨_, rfl, _, rfl, hlog, _, rfl, _, rfl, ll, _, _, .ref ds'[b], rfl, rfl, sql g1, atI_nat (by rw [List.getElem?_map, hdb]; rfl), _, rfl, ds'[b], _, sp, _, rfl, (g3 b _ hdb).r, hsp2.mono fun _ _ h => invc.view _ _ h, stMap_val (allS_nd ok) hspa, stAt W b sp, rfl, hlog, rfl, ?_⟩
    refine ⟨_, rfl, ?_⟩
    rw [if_neg (by simp)]
    refine ⟨_, rfl, rfl, _, rfl, ?_⟩
    by_cases c0 : V.int (0 + (i : Int)) = V.int 0
    · rw [decide_eq_true c0, if_pos rfl]
      obtain ⟨Vx, v1, v2, v3, v4, v5⟩ := invc.ex
      refine ⟨_, rfl, _, rfl, _, rfl, Vx, x, r, W, y, sp, b, rfl, v2, v3, hwb.mono v1, ok, v5, hsp2.mono fun _ _ h => v1 _ _ h, allS_mem.mp hspa, hb, fun Vx' Hd ed1 ed2 hrd cd => ⟨_, rfl, rfl, _, rfl, ?_⟩⟩
      rw [if_neg (by simp)]
      exact ⟨_, _, _, _, rfl, RInv.on v1 v4 ed1 ed2 hrd cd⟩
    · rw [decide_eq_false c0, if_neg (by decide), if_neg (by decide)]
      exact ⟨_, _, _, _, rfl, invc⟩
  · obtain ⟨x6, x7, x8, x9, rfl, inv⟩ := w
    subst hD'
    subst htl
    dsimp only [tCKw, tM1, tVals, tVar, tC, tB, tAnd, tOr, tNot, tAndV, tOrV, tNotV, tIf, tNext, tSeq, tBreak, tCont, tDrop, tRet, tRetN, tIfS, tNever, gName, gNil, gCons, gTup, gSub, tAsg, tPar, tAug, tTest, tChain, tFld, sFld, tNil, tCons, tTup, tLst, tCall, tMeth, tCB, tBM, tNoPart, tPart, tSl, tOp, tUn, rI, rI0, rU, iList, iTup, iRng1, iRng2, iStr, iEnum, iZip, iItems, iVals, tDGet, tDIn, tDNotIn, sDPut, tDGet2, tDNewK, tDNewT, tYes, fin, List.cons_append, List.nil_append, bx, cxOf, Cx.nox]
    have hw5 := hwb.mono inv.view
    refine ⟨_, rfl, _, rfl, _, rfl, q, W, rfl, hspb.mono inv.view, ok, fun x2 r2 H4 hx2 hr2 _ e4 hw2 _ => ?_⟩
    have hw6 := hw5.mono e4
    obtain ⟨dx, _, _, _, g1, _⟩ := id hw6.ex
    obtain ⟨dy, _, _, _, g2, _⟩ := id hw2.ex
    exact ⟨⟨x, x2, dx, dy, _, _, rfl, rfl, g1, g2, W, r, r2, ok, hw6, hw2⟩, fun H5 e5 => hQ H5 (((eB.trans inv.view).trans e4).trans e5)⟩
end
end K33


set_option Elab.async false
set_option linter.all false
set_option maxRecDepth 100000
set_option maxHeartbeats 8000000
namespace K33
open PySem PySem.Spec PyProof.Rows L2 K33M
theorem sql_mono {K : PySem.W.Frag} {H H' : Hp} (e : Ex H H') {a : Addr} {xs : List V} (h : SqL K H a xs) : SqL K H' a xs := h.imp (Evl.ex_rd e) id
def sp_law (K : PySem.W.Frag) : Sp := fun vs H Q _ => ∃ (s : Addr) (xs : List Int), vs = [.ref s] ∧ SqL K H s (xs.map .int) ∧ ∀ H', Ex H H' → Q (.bl true) H'
section
variable {P : Program} {w : World} {K : PySem.W.Frag} {mg : Str → Option Value} {base : Heap}
theorem def_okF {x qual : Str} {st : Stmt} {f : Addr} {N ps : List Str} {k : Nat} {sp : Sp} {fd : FuncData} (F : FunD K x qual (defArgs st) (defBody st) (defScope st) [] [] f fd) (S : FnScope N ps (defScope st))
    (len : ∀ vs H Q E, sp vs H Q E → vs.length = ps.length)
    (body : ∀ (cdv : Value) (A : Around) (outer : List Env) (s : Shared) (H : Hp) (vs : List V) (Q : VK) (E : XK), Room k (A.deeper (envOfC qual (defScope st) s.heap.objs.size f cdv)) → sp vs H Q E →
      ∃ t, PSs (bx P w K mg base N qual st f cdv A outer s H E) (defBody st) t ∧ t (fin Q) (L2.start N vs) H) : FnOk P w K mg base CX0 (k + 1) f fd ps sp := by
  refine F.ok S len fun cdv A outer s H vs Q E hr h => ?_
  obtain ⟨t, h1, h2⟩ := body cdv A outer s H vs Q E hr h
  exact ⟨t, h1.nox, h2⟩
theorem o_law (T : Tx K mg) {fd : FuncData} (F : FunD K "law" "law" (defArgs s_law) (defBody s_law) (defScope s_law) [] [] (He.ga K "law") fd) : FnOk P w K mg base CX0 16 (He.ga K "law") fd ["_law_script"] (sp_law K) := def_okF F sc_law
    (fun _ _ _ _ h => by obtain ⟨_, _, rfl, _⟩ := h; rfl) fun cdv A outer s H vs Q E hr h => by
  have hu := hu_of hr
  obtain ⟨sa, xs, rfl, hs, hQ⟩ := h
  refine ⟨_, (pss_cons (ps_for PassesOwn.never rfl (pi_range1 (by rfl) T.z_range (pa_cons (pe_callB (call_max2 rfl) (by rfl) T.z_max (by decide +kernel) (pa_cons pe_int (pa_cons (pe_callB (call_min2 rfl) (by rfl) T.z_min (by decide +kernel) (pa_cons (pe_callB call_len_seq (by rfl) T.z_len (by decide +kernel) (pa_cons (pv 0) pa_nil)) (pa_cons pe_int pa_nil))) pa_nil))) pa_nil)) (pg_name (i := 1) sc_law.nd rfl (.inl rfl))
        (pss_cons (ps_set (i := 2) sc_law.nd rfl (.inl rfl) (c_fn (o_law_pot T) T.g_law_pot (hr.mono (by decide)) (pa_cons (pv 0) (pa_cons (pv 1) pa_nil))))
        (pss_cons (ps_set (i := 3) sc_law.nd rfl (.inl rfl) (pe_cmpR op_eq (c_fn (o_law_take T) T.g_law_take (hr.mono (by decide)) (pa_cons (pv 2) (pa_cons pe_int pa_nil))) pe_int (nomark _)))
        (pss_cons (ps_set (i := 4) sc_law.nd rfl (.inl rfl) (pe_ifExp (pt_val (pv 3)) (c_fn (o_law_rounds T) T.g_law_rounds (hr.mono (by decide)) (pa_cons (pv 2) (pa_cons pe_int (pa_cons pe_int pa_nil)))) (c_fn (o_law_web T) T.g_law_web (hr.mono (by decide)) (pa_cons (pv 2) (pa_cons pe_int (pa_cons pe_int (pa_cons (c_fn (o_law_take T) T.g_law_take (hr.mono (by decide)) (pa_cons (pv 2) (pa_cons pe_int pa_nil))) (pa_cons pe_int pa_nil))))))))
        (pss_one (ps_if (pt_not (pt_val (c_fn (o_law_right T) T.g_law_right (hr.mono (by decide)) (pa_cons (pv 2) (pa_cons (pv 4) (pa_cons (pv 3) pa_nil)))))) (pss_one (ps_ret pe_bl)) pss_nil))))))
      (pss_one (ps_ret pe_bl))), ?_⟩
  refine seqT fun rt hrt => ?_
  refine for_te fun tb htb => ?_
  refine atSt (t := tFor _ _ _) [some (.ref sa), none, none, none, none] rfl ?_
  dsimp only [tFor]
  dsimp only [tCKw, tM1, tVals, tVar, tC, tB, tAnd, tOr, tNot, tAndV, tOrV, tNotV, tIf, tNext, tSeq, tBreak, tCont, tDrop, tRet, tRetN, tIfS, tNever, gName, gNil, gCons, gTup, gSub, tAsg, tPar, tAug, tTest, tChain, tFld, sFld, tNil, tCons, tTup, tLst, tCall, tMeth, tCB, tBM, tNoPart, tPart, tSl, tOp, tUn, rI, rI0, rU, iList, iTup, iRng1, iRng2, iStr, iEnum, iZip, iItems, iVals, tDGet, tDIn, tDNotIn, sDPut, tDGet2, tDNewK, tDNewT, tYes, fin, List.cons_append, List.nil_append, bx, cxOf, Cx.nox]
  obtain ⟨n, hn1, hn2⟩ : ∃ n : Nat, (if (if (2 : Int) < ((xs.map V.int).length : Int) then (2 : Int) else ((xs.map V.int).length : Int)) > 1 then (if (2 : Int) < ((xs.map V.int).length : Int) then (2 : Int) else ((xs.map V.int).length : Int)) else 1) = (n : Int) ∧ n ≤ 2 := by
    by_cases c : (2 : Int) < ((xs.map V.int).length : Int)
    · rw [if_pos c]
      exact ⟨2, by decide, Nat.le_refl _⟩
    · rw [if_neg c]
      by_cases c2 : ((xs.map V.int).length : Int) > 1
      · rw [if_pos c2]
        exact ⟨_, rfl, by omega⟩
      · rw [if_neg c2]
        exact ⟨1, rfl, by decide⟩
  refine ⟨_, rfl, sa, _, rfl, .inl hs, _, _, rfl, _, _, rfl, _, rfl, ?_⟩
  rw [hn1]
  refine ⟨by omega, by omega, ?_⟩
  rw [Int.toNat_natCast]
  refine for_it (g := gName 1) (tb := tb) (D := { fin Q with nx := rt (fin Q) }) (walk_range (lo := 0) (n := n)) (fun i σ H' => ∃ (x1 x2 x3 x4 : Option V), σ = [some (.ref sa), x1, x2, x3, x4] ∧ Ex H H') ?_ (fun _ _ _ _ _ => True.intro) (fun i z σ H' H'' hi w Y => ?_) fun σ H' w => ?_
  · exact ⟨none, none, none, none, rfl, Evl.Ex.refl _⟩
  · obtain ⟨x1, x2, x3, x4, rfl, e0⟩ := w
    obtain ⟨rfl, rfl⟩ := Y
    subst htb
    refine seqT fun t1 ht1 => ?_
    dsimp only [tCKw, tM1, tVals, tVar, tC, tB, tAnd, tOr, tNot, tAndV, tOrV, tNotV, tIf, tNext, tSeq, tBreak, tCont, tDrop, tRet, tRetN, tIfS, tNever, gName, gNil, gCons, gTup, gSub, tAsg, tPar, tAug, tTest, tChain, tFld, sFld, tNil, tCons, tTup, tLst, tCall, tMeth, tCB, tBM, tNoPart, tPart, tSl, tOp, tUn, rI, rI0, rU, iList, iTup, iRng1, iRng2, iStr, iEnum, iZip, iItems, iVals, tDGet, tDIn, tDNotIn, sDPut, tDGet2, tDNewK, tDNewT, tYes, fin, List.cons_append, List.nil_append, bx, cxOf, Cx.nox]
    refine ⟨_, rfl, _, rfl, sa, xs, i, by rw [Int.zero_add], sql_mono e0 hs, by omega, fun p H1 e1 hpn hp1 => ?_⟩
    subst ht1
    refine seqT fun t2 ht2 => ?_
    dsimp only [tCKw, tM1, tVals, tVar, tC, tB, tAnd, tOr, tNot, tAndV, tOrV, tNotV, tIf, tNext, tSeq, tBreak, tCont, tDrop, tRet, tRetN, tIfS, tNever, gName, gNil, gCons, gTup, gSub, tAsg, tPar, tAug, tTest, tChain, tFld, sFld, tNil, tCons, tTup, tLst, tCall, tMeth, tCB, tBM, tNoPart, tPart, tSl, tOp, tUn, rI, rI0, rU, iList, iTup, iRng1, iRng2, iStr, iEnum, iZip, iItems, iVals, tDGet, tDIn, tDNotIn, sDPut, tDGet2, tDNewK, tDNewT, tYes, fin, List.cons_append, List.nil_append, bx, cxOf, Cx.nox]
    refine ⟨_, rfl, p, 4, rfl, hp1, by decide, by decide, fun d H2 hd e2 hp2 => ⟨rfl, ?_⟩⟩
    have ev : Ex H'' (hid p H1) := ex_hid e1 hpn
    have e2' := ev.trans e2
    have last : ∀ (bb : Bool) (q : Addr) (ps : List (Str × Int)) (ts : List Tie) (H3 : Hp) (x3 : Option V), SpecAt H3 q ps ts → PsOk ps → TsOk ps bb ts → ts.length ≤ 8 → Ex H'' H3 → Pot H3 p →
        (tIfS (tNot (tB (tCall (sp_law_right K) [] E0 (tCons (tVar 2) (tCons (tVar 4) (tCons (tVar 3) tNil)))))) (tRet (tC (.bl false))) tNext) { (fin Q) with nx := (fun σ H' => ∃ (x1 x2 x3 x4 : Option V), σ = [some (.ref sa), x1, x2, x3, x4] ∧ Ex H H'), ct := (fun σ H' => ∃ (x1 x2 x3 x4 : Option V), σ = [some (.ref sa), x1, x2, x3, x4] ∧ Ex H H'), bk := rt (fin Q) } [some (.ref sa), some (.int (0 + (i : Int))), some (.ref p), some (.bl bb), some (.ref q)] H3 := fun bb q ps ts H3 x3 hsp hps hts ht8 e3 hp3 => by
      dsimp only [tCKw, tM1, tVals, tVar, tC, tB, tAnd, tOr, tNot, tAndV, tOrV, tNotV, tIf, tNext, tSeq, tBreak, tCont, tDrop, tRet, tRetN, tIfS, tNever, gName, gNil, gCons, gTup, gSub, tAsg, tPar, tAug, tTest, tChain, tFld, sFld, tNil, tCons, tTup, tLst, tCall, tMeth, tCB, tBM, tNoPart, tPart, tSl, tOp, tUn, rI, rI0, rU, iList, iTup, iRng1, iRng2, iStr, iEnum, iZip, iItems, iVals, tDGet, tDIn, tDNotIn, sDPut, tDGet2, tDNewK, tDNewT, tYes, fin, List.cons_append, List.nil_append, bx, cxOf, Cx.nox]
      refine ⟨_, rfl, _, rfl, _, rfl, p, q, ⟨ps, ts, bb⟩, rfl, hp3, hsp, ⟨hps, hts⟩, ht8, fun H4 e4 => ⟨_, rfl, ?_⟩⟩
      have npe : ∀ a o, H'' a = some o → a ≠ p := fun a o h z => by
        have := ev _ _ h
        rw [z, hid_same] at this
        cases this
      exact ⟨_, _, _, _, rfl, e0.trans fun a o h => e4 _ _ (by rw [hid_ne (npe a o h)]; exact e3 _ _ h)⟩
    generalize decide (V.int (d : Int) = V.int 0) = bb
    subst ht2
    show tSeq _ _ _ _ _
    refine seqT fun t3 ht3 => ?_
    dsimp only [tCKw, tM1, tVals, tVar, tC, tB, tAnd, tOr, tNot, tAndV, tOrV, tNotV, tIf, tNext, tSeq, tBreak, tCont, tDrop, tRet, tRetN, tIfS, tNever, gName, gNil, gCons, gTup, gSub, tAsg, tPar, tAug, tTest, tChain, tFld, sFld, tNil, tCons, tTup, tLst, tCall, tMeth, tCB, tBM, tNoPart, tPart, tSl, tOp, tUn, rI, rI0, rU, iList, iTup, iRng1, iRng2, iStr, iEnum, iZip, iItems, iVals, tDGet, tDIn, tDNotIn, sDPut, tDGet2, tDNewK, tDNewT, tYes, fin, List.cons_append, List.nil_append, bx, cxOf, Cx.nox]
    refine ⟨_, rfl, _, rfl, ?_⟩
    have npe : ∀ a o, H'' a = some o → a ≠ p := fun a o h z => by
      have := ev _ _ h
      rw [z, hid_same] at this
      cases this
    have evh : ∀ {Hx : Hp}, Ex H'' Hx → Ex H'' (hid p Hx) := fun e a o h => by
      rw [hid_ne (npe a o h)]
      exact e _ _ h
    cases bb with
    | true =>
      rw [if_pos rfl]
      refine ⟨_, rfl, p, 6, 8, rfl, hp2, by decide, by decide, by decide, fun q ps ts H3 hsp hps hts ht8 e3 hp3 => ?_⟩
      subst ht3
      exact last true q ps ts H3 none hsp hps hts ht8 ((evh e2').trans e3) hp3
    | false =>
      rw [if_neg (by decide)]
      refine ⟨_, rfl, _, rfl, p, 2, rfl, hp2, by decide, by decide, fun way H3 hway e3 hp3 => ?_⟩
      have e3' := (evh e2').trans e3
      refine ⟨p, 4, 5, way, 4, rfl, hp3, by decide, by decide, by decide, hway, by decide, fun q ps ts H4 hsp hps hts ht8 _ e4 hp4 => ?_⟩
      subst ht3
      exact last false q ps ts H4 none hsp hps hts ht8 ((evh e3').trans e4) hp4
  · obtain ⟨x1, x2, x3, x4, rfl, e0⟩ := w
    subst hrt
    dsimp only [tCKw, tM1, tVals, tVar, tC, tB, tAnd, tOr, tNot, tAndV, tOrV, tNotV, tIf, tNext, tSeq, tBreak, tCont, tDrop, tRet, tRetN, tIfS, tNever, gName, gNil, gCons, gTup, gSub, tAsg, tPar, tAug, tTest, tChain, tFld, sFld, tNil, tCons, tTup, tLst, tCall, tMeth, tCB, tBM, tNoPart, tPart, tSl, tOp, tUn, rI, rI0, rU, iList, iTup, iRng1, iRng2, iStr, iEnum, iZip, iItems, iVals, tDGet, tDIn, tDNotIn, sDPut, tDGet2, tDNewK, tDNewT, tYes, fin, List.cons_append, List.nil_append, bx, cxOf, Cx.nox]
    exact hQ _ e0
end
end K33


set_option Elab.async false
set_option linter.all false
set_option maxRecDepth 100000
set_option maxHeartbeats 0
/-! The head: one kernel run of the top. -/
namespace K33
open PySem PySem.Spec PyProof.Rows L2
def insB (K : PySem.W.Frag) : Bool :=
  decide (PySem.W.findIn K (.ref (He.ga K "Web")) "__class__" = some (some (.builtin "object.__class__"))) &&
  (decide (PySem.W.specialIn K (.builtin "object.__class__") "__get__" = some (some (.builtin "getset_descriptor.__get__"))) &&
  (decide (PySem.W.takesIn K (.builtin "object.__class__") = some true) &&
  (decide (PySem.W.mroIn K (He.ga K "Web") (.type "object") = some true) &&
  decide (PySem.W.kitOne K (.ref (He.ga K "Web")) (.ref (He.ga K "Web")) = some true))))
abbrev R : PySem.W.OpenRow := PySem.W.OpenLaw.row PySem.Challenge.rw_crywalks_k33_whole_states_by_steps
abbrev hk : PySem.W.Hook := He.hookX 4 fa fn [] [] insB
def ob (s : PySem.W.SharedT) : He.AlX := He.obsX 4 fa fn [] [] insB (HandSHeadRun.getT s)
theorem ob_eq (s : PySem.W.SharedT) : ob s = hk.obs s.abs := He.obsX_eq (HandSHeadRun.getT_eq s)
theorem run (w : World) : HandSHeadRun.RunEq R (PySem.W.view R.prog [68]) hk ob 6000 loose w := by
  intro os
  kernel_rfl
end K33


set_option Elab.async false
set_option linter.all false
set_option maxRecDepth 100000
set_option maxHeartbeats 0
/-! The end. -/
namespace K33
open PySem PySem.Spec PyProof.Rows L2
theorem tx_of {K : PySem.W.Frag} {h : Heap} {mg : Str → Option Value} {w : World} (X : K.In h) (G : h.Ns mainGlobals mg) (c : He.SaysX fa fn [] [] insB w h K) : Tx K mg := by
  have cd : He.SaysD fa fn K := congrArg (fun z : He.AlT => z.1) c.t
  have ex : ∃ h : Heap, K.In h ∧ h.Ns mainGlobals mg ∧ He.SaysD fa fn K := ⟨h, X, G, cd⟩
  have hm : insB K = true := c.more
  unfold insB at hm
  obtain ⟨h1, hm⟩ := Bool.and_eq_true_iff.mp hm
  obtain ⟨h2, hm⟩ := Bool.and_eq_true_iff.mp hm
  obtain ⟨h3, hm⟩ := Bool.and_eq_true_iff.mp hm
  obtain ⟨h4, h5⟩ := Bool.and_eq_true_iff.mp hm
  have cls : Cls K (He.ga K "Web") := He.cls_ok (cd.fact 77 (f := .cls "Web") rfl)
  exact ⟨ex, cls, of_decide_eq_true h1, of_decide_eq_true h2, of_decide_eq_true h3, of_decide_eq_true h4, of_decide_eq_true h5⟩
theorem facts {P : Program} {w : World} {K : PySem.W.Frag} {h : Heap} {mg : Str → Option Value} {f : Addr} (X : K.In h) (G : h.Ns mainGlobals mg) (hfa : mg ("law" : Str) = some (.ref f)) (c : He.SaysX fa fn [] [] insB w h K) :
    ∃ fd : FuncData, (∀ (s : Shared) (v : Value), BindsTo s fd ⟨[v], []⟩ [("_law_script", v)]) ∧ ∀ base : Heap, K.In base → base.Ns mainGlobals mg → FnOk P w K mg base CX0 16 f fd ["_law_script"] (sp_law K) := by
  have T := tx_of X G c
  obtain ⟨fd, F⟩ := T.f_law
  have e := hfa.symm.trans T.g_law
  cases e
  have b := FunD.bindsA (ps := ["_law_script"]) F fun _ _ _ _ _ _ us hl => match us, hl with | [_], _ => rfl
  exact ⟨fd, fun s v => b s [v] rfl, fun base _ _ => o_law T F⟩
end K33
open PySem PySem.W PySem.Calls PyProof.Rows
theorem PySem.Challenge.cw_crywalks_k33_whole_states_by_steps_holds : PySem.Challenge.rw_crywalks_k33_whole_states_by_steps.Holds := by
  w_on; o_law
  refine HandSHeadRun.head_any (r := OpenLaw.row PySem.Challenge.rw_crywalks_k33_whole_states_by_steps) (q := view (OpenLaw.row PySem.Challenge.rw_crywalks_k33_whole_states_by_steps).prog [68]) (H := K33.hk) (ob := K33.ob) (M := 6000) (loose := K33.loose) (d := HandSHeadRun.topDef (OpenLaw.row PySem.Challenge.rw_crywalks_k33_whole_states_by_steps).prog 68) (kwd := []) K33.ob_eq
    (by kernel_rfl) (fun s => by kernel_rfl) K33.run (by kernel_rfl) (by kernel_rfl) (by kernel_rfl) (by rfl) (by first | assumption | decide +kernel) (by decide +kernel) ⟨rfl, rfl, rfl, rfl, rfl, by decide +kernel⟩ ?hw ?hc
  case hw => w_witness2
  case hc =>
    refine L2.walk_ofE (l := PySem.Challenge.rw_crywalks_k33_whole_states_by_steps) (n := 63) (k := 16) (x := "_law_script") (CX := L2.CX0) rfl (by decide) (by kernel_rfl) ⟨rfl, by decide, by decide⟩ ?F (fun _ _ _ _ z => z)
    intro w mg fa h Y G hmg0
    obtain ⟨K, KX, c⟩ := Y
    have hmg : mg ("law" : PySem.Str) = some (.ref fa) := by
      have e : (HandSHeadRun.topDef (OpenLaw.row PySem.Challenge.rw_crywalks_k33_whole_states_by_steps).prog 68).name = ("law" : PySem.Str) := by kernel_rfl
      rw [← e]
      exact hmg0
    obtain ⟨fd, hb, hF⟩ := K33.facts (P := (PySem.Challenge.rw_crywalks_k33_whole_states_by_steps).prog) (w := w) KX G hmg c
    exact ⟨K, fd, K33.sp_law K, KX, hb, fun H a ns hl _ hS => ⟨a, ns, rfl, hS, fun _ _ => rfl⟩, hF⟩


