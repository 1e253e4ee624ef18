import PyProof.Rows.All
import Wide.All
import OpenK.AllK
import Wide.FinOn
import KE.KStateDown
import HandS.ForMost
import HandS.Walk
import HandS.Flow
import HandS.Style
import HandS.IsInst
import HandS.Defaults
import HandS.MakeKw
import HandS.Exc
import HandS.TryOnly
import HandS.ExcOwn
import HandS.ExcInit
import HandS.WordsExc
import HandS.Lambda
import HandS.Nested
import HandS.NestedK
import HandS.CallLocal
import HandS.Deep
import HandS.Strs
import HandS.SetKeys
import HandS.TupAny
import HandS.TupSets
import HandS.DictTup
import HandS.SortInts
import HandS.SortOrd
import HandS.SortRule
import HandS.GenBody
import HandS.GenYield
import HandS.GenCall
import HandS.GenList
import HandS.WideBits
import HandS.Wide
import HandS.More
import HandS.ClsMeth
import HandS.NoneIn
import HandS.Conv
import HandS.HeadEnd
import HandS.HeadHook4
import HandS.HeadWalk
import HandS.EndTab
import HandS.SetFor
import HandS.FStr
import KE.KExcInit
import KE.KDictKeyed
import KE.KIndexOf
import HandS.Head0
import HandS.Head1
import HandS.Head2
import HandS.HeadNt
import PySem.Challenge.RW_sealedslots_k17_whole_trimmed_reads_the
set_option Elab.async false
set_option linter.all false
section TM1
set_option autoImplicit false
/-! Least words by breadth-first groups: plain mathematics. -/
namespace K17
abbrev Wd := List Nat
def wlt (u v : Wd) : Prop := u.length < v.length ∨ (u.length = v.length ∧ u < v)

theorem lex_irrefl : ∀ u : Wd, ¬ u < u := fun u => List.lt_irrefl u
theorem lex_trans {u v w : Wd} (h : u < v) (h' : v < w) : u < w := List.lt_trans h h'
theorem lex_asymm {u v : Wd} (h : u < v) : ¬ v < u := fun h' => lex_irrefl u (lex_trans h h')
theorem lex_tri : ∀ {u v : Wd}, ¬ u < v → ¬ v < u → u = v
  | [], [], _, _ => rfl
  | [], b :: v, h, _ => absurd (List.nil_lt_cons b v) h
  | a :: u, [], _, h => absurd (List.nil_lt_cons a u) h
  | a :: u, b :: v, h, h' => by
    rw [List.cons_lt_cons_iff] at h h'
    have e : a = b := by omega
    subst e
    have := @lex_tri u v (fun z => h (.inr ⟨rfl, z⟩)) (fun z => h' (.inr ⟨rfl, z⟩))
    rw [this]
theorem lex_snoc_lt : ∀ {u v : Wd} (a b : Nat), u.length = v.length → u < v → u ++ [a] < v ++ [b]
  | [], [], _, _, _, h => absurd h (lex_irrefl _)
  | [], _ :: _, _, _, e, _ => by simp at e
  | _ :: _, [], _, _, e, _ => by simp at e
  | x :: u, y :: v, a, b, e, h => by
    rw [List.cons_append, List.cons_append, List.cons_lt_cons_iff]
    rcases List.cons_lt_cons_iff.mp h with z | ⟨z, z'⟩
    · exact .inl z
    · exact .inr ⟨z, lex_snoc_lt a b (by simpa using e) z'⟩
theorem lex_snoc_same (a b : Nat) : ∀ u : Wd, (u ++ [a] < u ++ [b]) ↔ a < b
  | [] => by
    simp only [List.nil_append]
    rw [List.cons_lt_cons_iff]
    constructor
    · rintro (z | ⟨_, z⟩)
      · exact z
      · exact absurd z (lex_irrefl _)
    · exact .inl
  | x :: u => by
    rw [List.cons_append, List.cons_append, List.cons_lt_cons_iff, lex_snoc_same a b u]
    constructor
    · rintro (z | ⟨_, z⟩)
      · exact absurd z (Nat.lt_irrefl _)
      · exact z
    · exact fun z => .inr ⟨rfl, z⟩

theorem wlt_irrefl (u : Wd) : ¬ wlt u u := by
  rintro (h | ⟨_, h⟩)
  · exact Nat.lt_irrefl _ h
  · exact lex_irrefl _ h
theorem wlt_trans {u v w : Wd} (h : wlt u v) (h' : wlt v w) : wlt u w := by
  rcases h with h | ⟨e, h⟩ <;> rcases h' with h' | ⟨e', h'⟩
  · exact .inl (by omega)
  · exact .inl (by omega)
  · exact .inl (by omega)
  · exact .inr ⟨e.trans e', lex_trans h h'⟩
theorem wlt_tri {u v : Wd} (h : ¬ wlt u v) (h' : ¬ wlt v u) : u = v := by
  have e : u.length = v.length := by
    have a1 : ¬ u.length < v.length := fun z => h (.inl z)
    have a2 : ¬ v.length < u.length := fun z => h' (.inl z)
    omega
  exact lex_tri (fun z => h (.inr ⟨e, z⟩)) fun z => h' (.inr ⟨e.symm, z⟩)
theorem wlt_snoc {u v : Wd} (a b : Nat) (h : wlt u v) : wlt (u ++ [a]) (v ++ [b]) := by
  rcases h with h | ⟨e, h⟩
  · exact .inl (by simp; omega)
  · exact .inr ⟨by simp [e], lex_snoc_lt a b e h⟩
theorem wlt_snoc_same {a b : Nat} (u : Wd) (h : a < b) : wlt (u ++ [a]) (u ++ [b]) := .inr ⟨by simp, (lex_snoc_same a b u).mpr h⟩
theorem wlt_cases (u v : Wd) : wlt u v ∨ u = v ∨ wlt v u := by
  by_cases h : wlt u v
  · exact .inl h
  · by_cases h' : wlt v u
    · exact .inr (.inr h')
    · exact .inr (.inl (wlt_tri h h'))

/-- the least word of a set of words -/
def Least (P : Wd → Prop) (w : Wd) : Prop := P w ∧ ∀ u, P u → ¬ wlt u w
theorem Least.eq {P : Wd → Prop} {u v : Wd} (h : Least P u) (h' : Least P v) : u = v := wlt_tri (h'.2 u h.1) (h.2 v h'.1)
theorem Least.imp {P P' : Wd → Prop} {u : Wd} (h : Least P u) (e : ∀ w, P w ↔ P' w) : Least P' u := ⟨(e u).mp h.1, fun v hv => h.2 v ((e v).mpr hv)⟩

theorem nat_min {P : Nat → Prop} (h : ∃ n, P n) : ∃ n, P n ∧ ∀ m, P m → n ≤ m := by
  obtain ⟨n, hn⟩ := h
  induction n using Nat.strongRecOn with
  | ind n ih =>
    by_cases q : ∃ m, m < n ∧ P m
    · obtain ⟨m, hm, pm⟩ := q
      exact ih m hm pm
    · exact ⟨n, hn, fun m pm => Nat.le_of_not_lt fun z => q ⟨m, z, pm⟩⟩
theorem lex_min : ∀ (k : Nat) (P : Wd → Prop), (∃ u, u.length = k ∧ P u) → ∃ w, w.length = k ∧ P w ∧ ∀ u, u.length = k → P u → ¬ u < w
  | 0, P, ⟨u, hu, pu⟩ => by
    have e : u = [] := List.length_eq_zero_iff.mp hu
    subst e
    refine ⟨[], rfl, pu, fun v hv _ => ?_⟩
    have e : v = [] := List.length_eq_zero_iff.mp hv
    subst e
    exact lex_irrefl _
  | k + 1, P, ⟨u, hu, pu⟩ => by
    obtain ⟨a, ⟨v, hv, pv⟩, hm⟩ := nat_min (P := fun a => ∃ v, v.length = k ∧ P (a :: v)) (by
      cases u with
      | nil => simp at hu
      | cons a v => exact ⟨a, v, by simpa using hu, pu⟩)
    obtain ⟨w, hw, pw, mw⟩ := lex_min k (fun v => P (a :: v)) ⟨v, hv, pv⟩
    refine ⟨a :: w, by simp [hw], pw, fun x hx px => ?_⟩
    cases x with
    | nil => simp at hx
    | cons b x =>
      have hxk : x.length = k := by simpa using hx
      have hab := hm b ⟨x, hxk, px⟩
      rw [List.cons_lt_cons_iff]
      rintro (z | ⟨z, z'⟩)
      · omega
      · subst z
        exact mw x hxk px z'
theorem least_exists {P : Wd → Prop} (h : ∃ u, P u) : ∃ w, Least P w := by
  obtain ⟨k, ⟨u, hu, pu⟩, hk⟩ := nat_min (P := fun k => ∃ u, u.length = k ∧ P u) (let ⟨u, pu⟩ := h; ⟨u.length, u, rfl, pu⟩)
  obtain ⟨w, hw, pw, mw⟩ := lex_min k P ⟨u, hu, pu⟩
  refine ⟨w, pw, fun v pv => ?_⟩
  have := hk v.length ⟨v, rfl, pv⟩
  rintro (z | ⟨z, z'⟩)
  · omega
  · exact mw v (z.trans hw) pv z'
theorem least_below {P : Wd → Prop} {u : Wd} (h : P u) : ∃ w, Least P w ∧ (w = u ∨ wlt w u) := by
  obtain ⟨w, hw⟩ := least_exists ⟨u, h⟩
  refine ⟨w, hw, ?_⟩
  rcases wlt_cases w u with z | z | z
  · exact .inr z
  · exact .inl z
  · exact absurd z (hw.2 u h)

section
variable {ν : Type} (B : List ν) (fo : ν → List (Nat × ν))
inductive Reach : Wd → ν → Prop
  | nil {n : ν} : n ∈ B → Reach [] n
  | snoc {w : Wd} {n m : ν} {s : Nat} : Reach w n → (s, m) ∈ fo n → Reach (w ++ [s]) m
def Lw (w : Wd) (n : ν) : Prop := Least (fun u => Reach B fo u n) w
variable {B : List ν} {fo : ν → List (Nat × ν)}
theorem reach_nil {n : ν} (h : Reach B fo [] n) : n ∈ B := by
  generalize e : ([] : Wd) = w at h
  cases h with
  | nil h => exact h
  | snoc h h' => simp at e
theorem reach_snoc {w : Wd} {s : Nat} {m : ν} (h : Reach B fo (w ++ [s]) m) : ∃ n, Reach B fo w n ∧ (s, m) ∈ fo n := by
  generalize e : w ++ [s] = v at h
  cases h with
  | nil h => simp at e
  | @snoc w' n _ s' h h' =>
    obtain ⟨e1, e2⟩ := List.append_inj' e rfl
    cases e2
    subst e1
    exact ⟨n, h, h'⟩
theorem reach_pos {u : Wd} {m : ν} (h : Reach B fo u m) (hu : 0 < u.length) : ∃ w s n, u = w ++ [s] ∧ Reach B fo w n ∧ (s, m) ∈ fo n := by
  cases h with
  | nil h => simp at hu
  | @snoc w n _ s h h' => exact ⟨w, s, n, rfl, h, h'⟩
theorem Lw.eq {u v : Wd} {n : ν} (h : Lw B fo u n) (h' : Lw B fo v n) : u = v := Least.eq h h'
theorem lw_below {u : Wd} {n : ν} (h : Reach B fo u n) : ∃ w, Lw B fo w n ∧ (w = u ∨ wlt w u) := least_below h

/-- what later_groups hands back, and the known nodes behind it -/
structure Later (fo : ν → List (Nat × ν)) (w : Wd) (N L : List ν) (out : List (Wd × List ν)) (L' : List ν) : Prop where
  kn : ∀ g, g ∈ L' ↔ g ∈ L ∨ ∃ n ∈ N, ∃ s, (s, g) ∈ fo n
  wd : ∀ p ∈ out, ∃ s, p.1 = w ++ [s]
  inc : out.Pairwise fun p q => p.1 < q.1
  ne : ∀ p ∈ out, p.2 ≠ []
  mem : ∀ p ∈ out, ∀ s, p.1 = w ++ [s] → ∀ g, g ∈ p.2 ↔ g ∉ L ∧ (∃ n ∈ N, (s, g) ∈ fo n) ∧ ∀ s', s' < s → ¬ ∃ n ∈ N, (s', g) ∈ fo n
  all : ∀ s g, g ∉ L → (∃ n ∈ N, (s, g) ∈ fo n) → (∀ s', s' < s → ¬ ∃ n ∈ N, (s', g) ∈ fo n) → ∃ p ∈ out, p.1 = w ++ [s]

/-- the groups of the nodes first met by words of k signs -/
structure Lvl (B : List ν) (fo : ν → List (Nat × ν)) (k : Nat) (L : List ν) (gs : List (Wd × List ν)) : Prop where
  len : ∀ p ∈ gs, p.1.length = k
  inc : gs.Pairwise fun p q => p.1 < q.1
  ne : ∀ p ∈ gs, p.2 ≠ []
  mem : ∀ p ∈ gs, ∀ n, n ∈ p.2 ↔ Lw B fo p.1 n
  all : ∀ w n, Lw B fo w n → w.length = k → ∃ p ∈ gs, p.1 = w
  kn : ∀ g, g ∈ L ↔ ∃ u, Reach B fo u g ∧ u.length ≤ k
/-- .. and of the first groups done the later ones -/
structure Mid (B : List ν) (fo : ν → List (Nat × ν)) (k : Nat) (done : List (Wd × List ν)) (L : List ν) (la : List (Wd × List ν)) : Prop where
  kn : ∀ g, g ∈ L ↔ (∃ u, Reach B fo u g ∧ u.length ≤ k) ∨ ∃ p ∈ done, ∃ n ∈ p.2, ∃ s, (s, g) ∈ fo n
  pre : ∀ q ∈ la, ∃ p ∈ done, ∃ s, q.1 = p.1 ++ [s]
  inc : la.Pairwise fun p q => p.1 < q.1
  ne : ∀ p ∈ la, p.2 ≠ []
  mem : ∀ p ∈ la, ∀ n, n ∈ p.2 ↔ Lw B fo p.1 n
  all : ∀ p ∈ done, ∀ s n, Lw B fo (p.1 ++ [s]) n → ∃ q ∈ la, q.1 = p.1 ++ [s]

theorem Lvl.start (h : ∀ n, n ∈ B → True) (hB : B ≠ []) : Lvl B fo 0 B [([], B)] where
  len := fun p hp => by simp at hp; subst hp; rfl
  inc := by simp
  ne := fun p hp => by simp at hp; subst hp; exact hB
  mem := fun p hp n => by
    simp at hp; subst hp
    constructor
    · exact fun z => ⟨.nil z, fun u _ z => by
        rcases z with z | ⟨z, z'⟩
        · simp at z
        · exact List.not_lt_nil _ z'⟩
    · exact fun z => reach_nil z.1
  all := fun w n _ hw => ⟨([], B), by simp, (List.length_eq_zero_iff.mp hw).symm⟩
  kn := fun g => by
    constructor
    · exact fun z => ⟨[], .nil z, Nat.le_refl _⟩
    · rintro ⟨u, h, hu⟩
      have e : u = [] := List.length_eq_zero_iff.mp (Nat.le_zero.mp hu)
      subst e
      exact reach_nil h
theorem Mid.start {k : Nat} {L : List ν} {gs : List (Wd × List ν)} (h : Lvl B fo k L gs) : Mid B fo k [] L [] where
  kn := fun g => by rw [h.kn g]; simp
  pre := fun q hq => by simp at hq
  inc := .nil
  ne := fun q hq => by simp at hq
  mem := fun q hq => by simp at hq
  all := fun q hq => by simp at hq

theorem lw_pre {w : Wd} {s : Nat} {g : ν} (h : Lw B fo (w ++ [s]) g) : ∃ n, Lw B fo w n ∧ (s, g) ∈ fo n := by
  obtain ⟨n, hn, hs⟩ := reach_snoc h.1
  obtain ⟨v, hv, e⟩ := lw_below hn
  rcases e with e | e
  · subst e
    exact ⟨n, hv, hs⟩
  · exact absurd (wlt_snoc s s e) (h.2 _ (.snoc hv.1 hs))

theorem Mid.step {k : Nat} {L0 L L' : List ν} {gs done rest la out : List (Wd × List ν)} {w : Wd} {N : List ν} (h : Lvl B fo k L0 gs) (e : gs = done ++ (w, N) :: rest) (m : Mid B fo k done L la) (l : Later fo w N L out L') :
    Mid B fo k (done ++ [(w, N)]) L' (la ++ out) := by
  have hwg : (w, N) ∈ gs := by rw [e]; simp
  have hwk : w.length = k := h.len _ hwg
  have hN : ∀ n, n ∈ N ↔ Lw B fo w n := h.mem _ hwg
  have dlt : ∀ p ∈ done, p.1 < w := fun p hp => by
    have z := h.inc
    rw [e, List.pairwise_append] at z
    exact z.2.2 p hp _ List.mem_cons_self
  have dg : ∀ p ∈ done, p ∈ gs := fun p hp => by rw [e]; exact List.mem_append_left _ hp
  -- a node met by a word of w's own sign s, not known: its least word is w ++ [s] if no smaller sign meets it
  have key : ∀ s g, g ∉ L → (∃ n ∈ N, (s, g) ∈ fo n) → (∀ s', s' < s → ¬ ∃ n ∈ N, (s', g) ∈ fo n) → Lw B fo (w ++ [s]) g := by
    intro s g hg ⟨n, hn, hs⟩ hmin
    have hr : Reach B fo (w ++ [s]) g := .snoc ((hN n).mp hn).1 hs
    refine ⟨hr, fun u hu hlt => hg ?_⟩
    rw [m.kn g]
    by_cases hk : u.length ≤ k
    · exact .inl ⟨u, hu, hk⟩
    · have hu1 : u.length = k + 1 := by
        rcases hlt with z | ⟨z, _⟩
        · rw [List.length_append] at z
          simp at z
          omega
        · rw [List.length_append] at z
          simp at z
          omega
      obtain ⟨v, t, x, rfl, hv, ht⟩ := reach_pos hu (by omega)
      have hvk : v.length = k := by simpa using hu1
      obtain ⟨y, hy, ey⟩ := lw_below hv
      -- the least word of x
      have hyv : y = v ∨ wlt y v := ey
      by_cases hyk : y.length < k
      · exact .inl ⟨y ++ [t], .snoc hy.1 ht, by simp; omega⟩
      · have hyk' : y.length = k := by
          rcases hyv with z | z | ⟨z, _⟩
          · rw [z]; exact hvk
          · omega
          · omega
        obtain ⟨p, hp, epy⟩ := h.all y x hy hyk'
        -- y ≤ v, v ++ [t] < w ++ [s]
        have hle : ¬ wlt w y := fun z => by
          have z2 : wlt w v := by
            rcases hyv with q | q
            · rw [← q]; exact z
            · exact wlt_trans z q
          exact wlt_irrefl _ (wlt_trans hlt (wlt_snoc s t z2))
        rcases wlt_cases y w with z | z | z
        · -- y's group is done
          refine .inr ⟨p, ?_, x, ?_, t, ht⟩
          · rw [e] at hp
            rcases List.mem_append.mp hp with q | q
            · exact q
            · exfalso
              have pw := h.inc
              rw [e, List.pairwise_append] at pw
              rcases List.mem_cons.mp q with q | q
              · rw [q] at epy
                rw [← epy] at z
                exact wlt_irrefl _ z
              · have q2 := (List.pairwise_cons.mp pw.2.1).1 p q
                rw [epy] at q2
                exact wlt_irrefl _ (wlt_trans z (.inr ⟨hwk.trans hyk'.symm, q2⟩))
          · rw [h.mem p hp, epy]
            exact hy
        · -- y = w: a smaller sign of N
          exfalso
          subst z
          have hts : t < s := by
            rcases hyv with q | q
            · subst q
              rcases hlt with q2 | ⟨_, q2⟩
              · simp at q2
              · exact (lex_snoc_same t s y).mp q2
            · exact absurd (wlt_trans hlt (wlt_snoc s t q)) (wlt_irrefl _)
          exact hmin t hts ⟨x, (hN x).mpr hy, ht⟩
        · exact absurd z hle
  have lwN : ∀ s g, Lw B fo (w ++ [s]) g → g ∉ L ∧ (∃ n ∈ N, (s, g) ∈ fo n) ∧ ∀ s', s' < s → ¬ ∃ n ∈ N, (s', g) ∈ fo n := by
    intro s g hl
    refine ⟨fun hg => ?_, ?_, fun s' hs' => ?_⟩
    · rw [m.kn g] at hg
      rcases hg with ⟨u, hu, hk⟩ | ⟨p, hp, n, hn, t, ht⟩
      · exact hl.2 u hu (.inl (by simp; omega))
      · have hpn := (h.mem p (dg p hp) n).mp hn
        have := dlt p hp
        exact hl.2 _ (.snoc hpn.1 ht) (wlt_snoc t s (.inr ⟨(h.len p (dg p hp)).trans hwk.symm, this⟩))
    · obtain ⟨n, hn, hs⟩ := lw_pre hl
      exact ⟨n, (hN n).mpr hn, hs⟩
    · rintro ⟨n, hn, hs⟩
      exact hl.2 _ (.snoc ((hN n).mp hn).1 hs) (wlt_snoc_same w hs')
  refine ⟨fun g => ?_, fun q hq => ?_, ?_, fun p hp => ?_, fun p hp n => ?_, fun p hp s n hl => ?_⟩
  · rw [l.kn g, m.kn g]
    constructor
    · rintro ((z | ⟨p, hp, z⟩) | ⟨n, hn, z⟩)
      · exact .inl z
      · exact .inr ⟨p, List.mem_append_left _ hp, z⟩
      · exact .inr ⟨(w, N), by simp, n, hn, z⟩
    · rintro (z | ⟨p, hp, z⟩)
      · exact .inl (.inl z)
      · rcases List.mem_append.mp hp with q | q
        · exact .inl (.inr ⟨p, q, z⟩)
        · simp at q; subst q
          exact .inr z
  · rcases List.mem_append.mp hq with q | q
    · obtain ⟨p, hp, z⟩ := m.pre _ q
      exact ⟨p, List.mem_append_left _ hp, z⟩
    · obtain ⟨s, z⟩ := l.wd _ q
      exact ⟨(w, N), by simp, s, z⟩
  · rw [List.pairwise_append]
    refine ⟨m.inc, l.inc, fun a ha b hb => ?_⟩
    obtain ⟨p, hp, s, ea⟩ := m.pre a ha
    obtain ⟨t, eb⟩ := l.wd b hb
    rw [ea, eb]
    exact lex_snoc_lt s t ((h.len p (dg p hp)).trans hwk.symm) (dlt p hp)
  · rcases List.mem_append.mp hp with q | q
    · exact m.ne _ q
    · exact l.ne _ q
  · rcases List.mem_append.mp hp with q | q
    · exact m.mem _ q n
    · obtain ⟨s, es⟩ := l.wd _ q
      rw [l.mem _ q s es n, es]
      exact ⟨fun ⟨a, b, c⟩ => key s n a b c, lwN s n⟩
  · rcases List.mem_append.mp hp with q | q
    · obtain ⟨r, hr, er⟩ := m.all p q s n hl
      exact ⟨r, List.mem_append_left _ hr, er⟩
    · simp at q; subst q
      obtain ⟨a, b, c⟩ := lwN s n hl
      obtain ⟨r, hr, er⟩ := l.all s n a b c
      exact ⟨r, List.mem_append_right _ hr, er⟩
theorem Mid.done {k : Nat} {L0 L : List ν} {gs la : List (Wd × List ν)} (h : Lvl B fo k L0 gs) (m : Mid B fo k gs L la) : Lvl B fo (k + 1) L la where
  len := fun q hq => by
    obtain ⟨p, hp, s, e⟩ := m.pre q hq
    rw [e, List.length_append, h.len p hp]; rfl
  inc := m.inc
  ne := m.ne
  mem := m.mem
  all := fun w n hl hw => by
    obtain ⟨v, s, x, rfl, hv, hs⟩ := reach_pos hl.1 (by omega)
    obtain ⟨y, hy, hys⟩ := lw_pre hl
    obtain ⟨p, hp, e⟩ := h.all v y hy (by simpa using hw)
    subst e
    exact m.all p hp s n hl
  kn := fun g => by
    rw [m.kn g]
    constructor
    · rintro (⟨u, hu, hk⟩ | ⟨p, hp, n, hn, s, hs⟩)
      · exact ⟨u, hu, by omega⟩
      · refine ⟨p.1 ++ [s], .snoc ((h.mem p hp n).mp hn).1 hs, ?_⟩
        rw [List.length_append, h.len p hp]
        exact Nat.le_refl _
    · rintro ⟨u, hu, hk⟩
      by_cases hk' : u.length ≤ k
      · exact .inl ⟨u, hu, hk'⟩
      · obtain ⟨v, s, x, rfl, hv, hs⟩ := reach_pos hu (by omega)
        obtain ⟨y, hy, ey⟩ := lw_below hv
        have hvk : v.length = k := by simp at hk hk'; omega
        by_cases hyk : y.length < k
        · exact .inl ⟨y ++ [s], .snoc hy.1 hs, by simp; omega⟩
        · have hyk' : y.length = k := by
            rcases ey with z | z | ⟨z, _⟩
            · rw [z]; exact hvk
            · omega
            · omega
          obtain ⟨p, hp, epy⟩ := h.all y x hy hyk'
          exact .inr ⟨p, hp, x, by rw [h.mem p hp, epy]; exact hy, s, hs⟩

/-- the words that lead to a goal -/
def ToGoal (B : List ν) (fo : ν → List (Nat × ν)) (G : ν → Prop) (w : Wd) : Prop := ∃ n, Reach B fo w n ∧ G n
def NoGoal (B : List ν) (fo : ν → List (Nat × ν)) (G : ν → Prop) (k : Nat) : Prop := ∀ u n, Reach B fo u n → u.length < k → ¬ G n
theorem found_least {G : ν → Prop} {k : Nat} {L : List ν} {gs done rest : List (Wd × List ν)} {w : Wd} {N : List ν} {n : ν} (h : Lvl B fo k L gs) (e : gs = done ++ (w, N) :: rest) (ng : NoGoal B fo G k) (hd : ∀ p ∈ done, ∀ n ∈ p.2, ¬ G n) (hn : n ∈ N) (hg : G n) : Least (ToGoal B fo G) w := by
  have hwg : (w, N) ∈ gs := by rw [e]; simp
  refine ⟨⟨n, ((h.mem _ hwg n).mp hn).1, hg⟩, fun u ⟨x, hx, gx⟩ hlt => ?_⟩
  obtain ⟨y, hy, ey⟩ := lw_below hx
  have hyw : wlt y w := by
    rcases ey with z | z
    · rw [z]; exact hlt
    · exact wlt_trans z hlt
  have hwk := h.len _ hwg
  by_cases hyk : y.length < k
  · exact ng y x hy.1 hyk gx
  · have hyk' : y.length = k := by
      rcases hyw with z | ⟨z, _⟩
      · have z' : y.length < w.length := z
        have hwk' : w.length = k := hwk
        omega
      · have hwk' : w.length = k := hwk
        omega
    obtain ⟨p, hp, epy⟩ := h.all y x hy hyk'
    have hpd : p ∈ done := by
      rw [e] at hp
      rcases List.mem_append.mp hp with q | q
      · exact q
      · exfalso
        have pw := h.inc
        rw [e, List.pairwise_append] at pw
        rcases List.mem_cons.mp q with q | q
        · rw [q] at epy
          rw [← epy] at hyw
          exact wlt_irrefl _ hyw
        · have q2 := (List.pairwise_cons.mp pw.2.1).1 p q
          rw [epy] at q2
          exact wlt_irrefl _ (wlt_trans hyw (.inr ⟨hwk.trans hyk'.symm, q2⟩))
    exact hd p hpd x (by rw [h.mem p (by rw [e]; exact List.mem_append_left _ hpd), epy]; exact hy) gx
theorem NoGoal.step {G : ν → Prop} {k : Nat} {L : List ν} {gs : List (Wd × List ν)} (h : Lvl B fo k L gs) (ng : NoGoal B fo G k) (hd : ∀ p ∈ gs, ∀ n ∈ p.2, ¬ G n) : NoGoal B fo G (k + 1) := by
  intro u n hu hk gn
  obtain ⟨y, hy, ey⟩ := lw_below hu
  have hyu : y.length ≤ u.length := by
    rcases ey with z | z | ⟨z, _⟩
    · rw [z]; exact Nat.le_refl _
    · omega
    · omega
  by_cases hyk : y.length < k
  · exact ng y n hy.1 hyk gn
  · obtain ⟨p, hp, epy⟩ := h.all y n hy (by omega)
    exact hd p hp n (by rw [h.mem p hp, epy]; exact hy) gn
theorem NoGoal.zero {G : ν → Prop} : NoGoal B fo G 0 := fun _ _ _ h => absurd h (Nat.not_lt_zero _)
theorem no_word {G : ν → Prop} {k : Nat} {L : List ν} (h : Lvl B fo k L []) (ng : NoGoal B fo G k) (u : Wd) : ¬ ToGoal B fo G u := by
  rintro ⟨n, hn, gn⟩
  -- no least word has k signs; so none has more
  have none : ∀ j, ∀ w m, Lw B fo w m → w.length = k + j → False := by
    intro j
    induction j with
    | zero =>
      intro w m hl hw
      obtain ⟨p, hp, _⟩ := h.all w m hl hw
      simp at hp
    | succ j ih =>
      intro w m hl hw
      obtain ⟨v, s, x, rfl, _, _⟩ := reach_pos hl.1 (by omega)
      obtain ⟨y, hy, _⟩ := lw_pre hl
      exact ih v y hy (by simp at hw; omega)
  obtain ⟨y, hy, ey⟩ := lw_below hn
  by_cases hyk : y.length < k
  · exact ng y n hy.1 hyk gn
  · exact none (y.length - k) y n hy (by omega)
end
end K17
end TM1
section TM2
set_option autoImplicit false
/-! Readers as lists of rows: runs, readings, least pages, useful states, trimming. Plain mathematics. -/
namespace K17
variable {τ : Type}
abbrev Row (τ : Type) := List (Nat × Nat × Option τ)
structure Rdr (τ : Type) where
  rows : List (Row τ)
  ends : List Nat
  start : Nat
def Rdr.row (R : Rdr τ) (q : Nat) : Row τ := R.rows.getD q []
def Rdr.mv (R : Rdr τ) (q c : Nat) : Option (Nat × Option τ) := (R.row q).lookup c
def Rdr.run (R : Rdr τ) : Nat → Wd → Option (List τ × Nat)
  | q, [] => some ([], q)
  | q, c :: w => (R.mv q c).bind fun m => (R.run m.1 w).map fun z => (m.2.toList ++ z.1, z.2)
def Rdr.read (R : Rdr τ) (w : Wd) : Option (List τ) := (R.run R.start w).bind fun z => if z.2 ∈ R.ends then some z.1 else none
/-- what every reader here keeps -/
structure Rdr.Ok (R : Rdr τ) : Prop where
  pos : 0 < R.rows.length
  keys : ∀ r ∈ R.rows, (r.map (·.1)).Nodup
  goal : ∀ r ∈ R.rows, ∀ e ∈ r, e.2.1 < R.rows.length
  ends : ∀ e ∈ R.ends, e < R.rows.length
  nd : R.ends.Nodup
  start : R.start < R.rows.length

theorem row_mem {R : Rdr τ} {q : Nat} {e : Nat × Nat × Option τ} (h : e ∈ R.row q) : q < R.rows.length ∧ R.row q ∈ R.rows := by
  unfold Rdr.row at *
  by_cases hq : q < R.rows.length
  · refine ⟨hq, ?_⟩
    rw [List.getD_eq_getElem?_getD, List.getElem?_eq_getElem hq]
    exact List.getElem_mem hq
  · rw [List.getD_eq_getElem?_getD, List.getElem?_eq_none (by omega)] at h
    simp at h
theorem row_keys {R : Rdr τ} (ok : R.Ok) (q : Nat) : ((R.row q).map (·.1)).Nodup := by
  unfold Rdr.row
  by_cases hq : q < R.rows.length
  · rw [List.getD_eq_getElem?_getD, List.getElem?_eq_getElem hq]
    exact ok.keys _ (List.getElem_mem hq)
  · rw [List.getD_eq_getElem?_getD, List.getElem?_eq_none (by omega)]
    exact .nil
theorem lookup_of_mem {α : Type} : ∀ {l : List (Nat × α)} {c : Nat} {x : α}, (l.map (·.1)).Nodup → (c, x) ∈ l → l.lookup c = some x
  | [], _, _, _, h => by simp at h
  | (d, y) :: l, c, x, nd, h => by
    rw [List.map_cons, List.nodup_cons] at nd
    rw [List.lookup_cons]
    rcases List.mem_cons.mp h with e | h2
    · cases e
      simp
    · have hcd : (c == d) = false := by
        rw [beq_eq_false_iff_ne]
        intro e
        exact nd.1 (List.mem_map.mpr ⟨(c, x), h2, e⟩)
      rw [hcd]
      exact lookup_of_mem nd.2 h2
theorem mem_of_lookup' {α : Type} : ∀ {l : List (Nat × α)} {c : Nat} {x : α}, l.lookup c = some x → (c, x) ∈ l
  | [], _, _, h => by simp at h
  | (d, y) :: l, c, x, h => by
    rw [List.lookup_cons] at h
    cases hb : c == d with
    | true =>
      rw [hb] at h
      have e : c = d := by simpa using hb
      have e2 : y = x := Option.some.inj h
      rw [e, e2]
      exact List.mem_cons_self
    | false =>
      rw [hb] at h
      exact List.mem_cons_of_mem _ (mem_of_lookup' h)
theorem mv_iff {R : Rdr τ} (ok : R.Ok) (q c : Nat) (m : Nat × Option τ) : R.mv q c = some m ↔ (c, m) ∈ R.row q :=
  ⟨mem_of_lookup', lookup_of_mem (row_keys ok q)⟩
theorem mv_goal {R : Rdr τ} (ok : R.Ok) {q c : Nat} {m : Nat × Option τ} (h : R.mv q c = some m) : m.1 < R.rows.length := by
  have h' := (mv_iff ok q c m).mp h
  exact ok.goal _ (row_mem h').2 _ h'

theorem run_nil (R : Rdr τ) (q : Nat) : R.run q [] = some ([], q) := rfl
theorem run_cons (R : Rdr τ) (q c : Nat) (w : Wd) : R.run q (c :: w) = (R.mv q c).bind fun m => (R.run m.1 w).map fun z => (m.2.toList ++ z.1, z.2) := rfl
theorem run_cons_some {R : Rdr τ} {q c : Nat} {w : Wd} {r : List τ} {z : Nat} : R.run q (c :: w) = some (r, z) ↔ ∃ g t r', R.mv q c = some (g, t) ∧ R.run g w = some (r', z) ∧ r = t.toList ++ r' := by
  rw [run_cons]
  constructor
  · intro h
    cases e : R.mv q c with
    | none => rw [e] at h; cases h
    | some m =>
      obtain ⟨g, t⟩ := m
      rw [e] at h
      have h : (R.run g w).map (fun z => (t.toList ++ z.1, z.2)) = some (r, z) := h
      cases e2 : R.run g w with
      | none => rw [e2] at h; cases h
      | some x =>
        obtain ⟨r', z'⟩ := x
        rw [e2] at h
        cases h
        exact ⟨g, t, r', rfl, e2, rfl⟩
  · rintro ⟨g, t, r', e1, e2, e3⟩
    rw [e1]
    show (R.run g w).map (fun z => (t.toList ++ z.1, z.2)) = some (r, z)
    rw [e2, e3]
    rfl
theorem run_append {R : Rdr τ} : ∀ {q : Nat} {u v : Wd} {r : List τ} {z : Nat}, R.run q (u ++ v) = some (r, z) ↔ ∃ r1 x r2, R.run q u = some (r1, x) ∧ R.run x v = some (r2, z) ∧ r = r1 ++ r2
  | q, [], v, r, z => by
    constructor
    · exact fun h => ⟨[], q, r, rfl, h, rfl⟩
    · rintro ⟨r1, x, r2, e1, e2, e3⟩
      cases e1
      rw [e3]
      exact e2
  | q, c :: u, v, r, z => by
    rw [List.cons_append, run_cons_some]
    constructor
    · rintro ⟨g, t, r', e1, e2, e3⟩
      obtain ⟨r1, x, r2, f1, f2, f3⟩ := run_append.mp e2
      exact ⟨t.toList ++ r1, x, r2, run_cons_some.mpr ⟨g, t, r1, e1, f1, rfl⟩, f2, by rw [e3, f3, List.append_assoc]⟩
    · rintro ⟨r1, x, r2, e1, e2, e3⟩
      obtain ⟨g, t, r', f1, f2, f3⟩ := run_cons_some.mp e1
      exact ⟨g, t, r' ++ r2, f1, run_append.mpr ⟨r', x, r2, f2, e2, rfl⟩, by rw [e3, f3, List.append_assoc]⟩
theorem run_snoc {R : Rdr τ} {q c : Nat} {u : Wd} {r : List τ} {z : Nat} : R.run q (u ++ [c]) = some (r, z) ↔ ∃ r1 x t, R.run q u = some (r1, x) ∧ R.mv x c = some (z, t) ∧ r = r1 ++ t.toList := by
  rw [run_append]
  constructor
  · rintro ⟨r1, x, r2, e1, e2, e3⟩
    obtain ⟨g, t, r', f1, f2, f3⟩ := run_cons_some.mp e2
    cases f2
    exact ⟨r1, x, t, e1, f1, by rw [e3, f3, List.append_nil]⟩
  · rintro ⟨r1, x, t, e1, e2, e3⟩
    exact ⟨r1, x, t.toList, e1, run_cons_some.mpr ⟨z, t, [], e2, rfl, by simp⟩, e3⟩
theorem run_lt {R : Rdr τ} (ok : R.Ok) : ∀ {q : Nat} {w : Wd} {r : List τ} {z : Nat}, q < R.rows.length → R.run q w = some (r, z) → z < R.rows.length
  | q, [], r, z, hq, h => by cases h; exact hq
  | q, c :: w, r, z, hq, h => by
    obtain ⟨g, t, r', e1, e2, _⟩ := run_cons_some.mp h
    exact run_lt ok (mv_goal ok e1) e2
theorem read_some {R : Rdr τ} {w : Wd} {r : List τ} : R.read w = some r ↔ ∃ e, R.run R.start w = some (r, e) ∧ e ∈ R.ends := by
  unfold Rdr.read
  constructor
  · intro h
    cases e : R.run R.start w with
    | none => rw [e] at h; cases h
    | some z =>
      obtain ⟨r', e'⟩ := z
      rw [e] at h
      have h : (if e' ∈ R.ends then some r' else none) = some r := h
      split at h
      · cases h
        rename_i hm
        exact ⟨e', rfl, hm⟩
      · cases h
  · rintro ⟨e, e1, e2⟩
    rw [e1]
    show (if e ∈ R.ends then some r else none) = some r
    rw [if_pos e2]

/-- two readers with the same moves -/
structure Alike (R S : Rdr τ) : Prop where
  len : R.rows.length = S.rows.length
  mv : ∀ q c, R.mv q c = S.mv q c
  ends : ∀ e, e ∈ R.ends ↔ e ∈ S.ends
  start : R.start = S.start
theorem Alike.symm {R S : Rdr τ} (a : Alike R S) : Alike S R := ⟨a.len.symm, fun q c => (a.mv q c).symm, fun e => (a.ends e).symm, a.start.symm⟩
theorem Alike.run {R S : Rdr τ} (a : Alike R S) : ∀ q w, R.run q w = S.run q w
  | q, [] => rfl
  | q, c :: w => by
    rw [run_cons, run_cons, a.mv q c]
    congr 1
    funext m
    rw [a.run m.1 w]
theorem Alike.read {R S : Rdr τ} (a : Alike R S) (w : Wd) : R.read w = S.read w := by
  unfold Rdr.read
  rw [a.start, a.run S.start w]
  congr 1
  funext z
  by_cases h : z.2 ∈ R.ends
  · rw [if_pos h, if_pos ((a.ends _).mp h)]
  · rw [if_neg h, if_neg fun z => h ((a.ends _).mpr z)]

/-! ### least pages -/
section
variable [DecidableEq τ]
/-- follow of least_page -/
def foPage (R : Rdr τ) (row : List τ) (n : Nat × Nat) : List (Nat × Nat × Nat) := (R.row n.1).filterMap fun e => match e.2.2 with
  | none => some (e.1, e.2.1, n.2)
  | some x => if row[n.2]? = some x then some (e.1, e.2.1, n.2 + 1) else none
theorem foPage_mem {R : Rdr τ} (ok : R.Ok) {row : List τ} {n : Nat × Nat} {c g j : Nat} : (c, g, j) ∈ foPage R row n ↔ ∃ t, R.mv n.1 c = some (g, t) ∧ ((t = none ∧ j = n.2) ∨ ∃ x, t = some x ∧ row[n.2]? = some x ∧ j = n.2 + 1) := by
  unfold foPage
  rw [List.mem_filterMap]
  constructor
  · rintro ⟨⟨c', g', t⟩, hm, h⟩
    cases t with
    | none =>
      cases h
      exact ⟨none, (mv_iff ok _ _ _).mpr hm, .inl ⟨rfl, rfl⟩⟩
    | some x =>
      have h : (if row[n.2]? = some x then some (c', g', n.2 + 1) else none) = some (c, g, j) := h
      split at h
      · cases h
        rename_i hx
        exact ⟨some x, (mv_iff ok _ _ _).mpr hm, .inr ⟨x, rfl, hx, rfl⟩⟩
      · cases h
  · rintro ⟨t, hm, h⟩
    refine ⟨(c, g, t), (mv_iff ok _ _ _).mp hm, ?_⟩
    rcases h with ⟨rfl, rfl⟩ | ⟨x, rfl, hx, rfl⟩
    · rfl
    · show (if row[n.2]? = some x then some (c, g, n.2 + 1) else none) = some (c, g, n.2 + 1)
      rw [if_pos hx]
theorem take_succ_of {α : Type} : ∀ {l : List α} {i : Nat} {x : α}, l[i]? = some x → l.take (i + 1) = l.take i ++ [x]
  | [], i, x, h => by simp at h
  | a :: l, 0, x, h => by
    have e : a = x := Option.some.inj h
    subst e
    rfl
  | a :: l, i + 1, x, h => by
    have ih := take_succ_of (l := l) (i := i) (x := x) h
    show a :: l.take (i + 1) = a :: l.take i ++ [x]
    rw [ih]
    rfl
theorem reach_page {R : Rdr τ} (ok : R.Ok) (row : List τ) {w : Wd} {n : Nat × Nat} (h : Reach [(R.start, 0)] (foPage R row) w n) : R.run R.start w = some (row.take n.2, n.1) ∧ n.2 ≤ row.length := by
  induction h with
  | nil h =>
    simp at h
    subst h
    exact ⟨by simp [run_nil], Nat.zero_le _⟩
  | @snoc w n m s h h' ih =>
    obtain ⟨g, j⟩ := m
    obtain ⟨t, hm, ht⟩ := (foPage_mem ok).mp h'
    rcases ht with ⟨rfl, rfl⟩ | ⟨x, rfl, hx, rfl⟩
    · exact ⟨run_snoc.mpr ⟨_, _, _, ih.1, hm, by simp⟩, ih.2⟩
    · refine ⟨run_snoc.mpr ⟨_, _, _, ih.1, hm, ?_⟩, ?_⟩
      · rw [take_succ_of hx]
        rfl
      · obtain ⟨hl, _⟩ := List.getElem?_eq_some_iff.mp hx
        exact hl
theorem reach_page' {R : Rdr τ} (ok : R.Ok) (row : List τ) : ∀ {k : Nat} {w : Wd} {i q : Nat}, w.length = k → R.run R.start w = some (row.take i, q) → i ≤ row.length → Reach [(R.start, 0)] (foPage R row) w (q, i) := by
  intro k
  induction k with
  | zero =>
    intro w i q hw h hi
    have e : w = [] := List.length_eq_zero_iff.mp hw
    subst e
    rw [run_nil] at h
    have h' := Option.some.inj h
    have e1 : row.take i = [] := (congrArg Prod.fst h').symm
    have e2 : R.start = q := congrArg Prod.snd h'
    have e3 : i = 0 := by
      have z : min i row.length = 0 := by
        have := congrArg List.length e1
        rw [List.length_take] at this
        exact this
      omega
    subst e3
    subst e2
    exact .nil (by simp)
  | succ k ih =>
    intro w i q hw h hi
    obtain ⟨u, c, rfl⟩ : ∃ u c, w = u ++ [c] := by
      have hne : w ≠ [] := by rintro rfl; simp at hw
      exact ⟨w.dropLast, w.getLast hne, (List.dropLast_concat_getLast hne).symm⟩
    have hu : u.length = k := by simpa using hw
    obtain ⟨r1, x, t, e1, e2, e3⟩ := run_snoc.mp h
    cases t with
    | none =>
      have e3' : row.take i = r1 := by simpa using e3
      rw [← e3'] at e1
      exact .snoc (ih hu e1 hi) ((foPage_mem ok).mpr ⟨none, e2, .inl ⟨rfl, rfl⟩⟩)
    | some y =>
      have e3' : row.take i = r1 ++ [y] := e3
      obtain ⟨j, rfl⟩ : ∃ j, i = j + 1 := by
        cases i with
        | zero => simp at e3'
        | succ j => exact ⟨j, rfl⟩
      have hj : j < row.length := hi
      have e4 : row.take (j + 1) = row.take j ++ [row[j]] := take_succ_of (List.getElem?_eq_getElem hj)
      rw [e4] at e3'
      obtain ⟨f1, f2⟩ := List.append_inj' e3' rfl
      cases f2
      rw [← f1] at e1
      exact .snoc (ih hu e1 (by omega)) ((foPage_mem ok).mpr ⟨some row[j], e2, .inr ⟨_, rfl, List.getElem?_eq_getElem hj, rfl⟩⟩)
def goalPage (R : Rdr τ) (row : List τ) (n : Nat × Nat) : Prop := n.2 = row.length ∧ n.1 ∈ R.ends
theorem toGoal_page {R : Rdr τ} (ok : R.Ok) (row : List τ) (w : Wd) : ToGoal [(R.start, 0)] (foPage R row) (goalPage R row) w ↔ R.read w = some row := by
  rw [read_some]
  constructor
  · rintro ⟨⟨q, i⟩, h, hi, hq⟩
    have hi : i = row.length := hi
    obtain ⟨e, _⟩ := reach_page ok row h
    have e : R.run R.start w = some (row.take i, q) := e
    rw [hi, List.take_length] at e
    exact ⟨q, e, hq⟩
  · rintro ⟨e, h, he⟩
    refine ⟨(e, row.length), reach_page' ok row rfl (by rw [List.take_length]; exact h) (Nat.le_refl _), rfl, he⟩
end
/-- follow of shortest_page -/
def foAny (R : Rdr τ) (q : Nat) : List (Nat × Nat) := (R.row q).map fun e => (e.1, e.2.1)
theorem foAny_mem {R : Rdr τ} (ok : R.Ok) {q c g : Nat} : (c, g) ∈ foAny R q ↔ ∃ t, R.mv q c = some (g, t) := by
  unfold foAny
  rw [List.mem_map]
  constructor
  · rintro ⟨⟨c', g', t⟩, hm, h⟩
    cases h
    exact ⟨t, (mv_iff ok _ _ _).mpr hm⟩
  · rintro ⟨t, h⟩
    exact ⟨(c, g, t), (mv_iff ok _ _ _).mp h, rfl⟩
theorem reach_any {R : Rdr τ} (ok : R.Ok) {b : Nat} {w : Wd} {q : Nat} (h : Reach [b] (foAny R) w q) : ∃ r, R.run b w = some (r, q) := by
  induction h with
  | nil h =>
    simp at h
    subst h
    exact ⟨[], rfl⟩
  | snoc h h' ih =>
    obtain ⟨r, e⟩ := ih
    obtain ⟨t, ht⟩ := (foAny_mem ok).mp h'
    exact ⟨_, run_snoc.mpr ⟨_, _, _, e, ht, rfl⟩⟩
theorem reach_any' {R : Rdr τ} (ok : R.Ok) {b : Nat} : ∀ {k : Nat} {w : Wd} {r : List τ} {q : Nat}, w.length = k → R.run b w = some (r, q) → Reach [b] (foAny R) w q := by
  intro k
  induction k with
  | zero =>
    intro w r q hw h
    have e : w = [] := List.length_eq_zero_iff.mp hw
    subst e
    cases h
    exact .nil (by simp)
  | succ k ih =>
    intro w r q hw h
    obtain ⟨u, c, rfl⟩ : ∃ u c, w = u ++ [c] := by
      have hne : w ≠ [] := by rintro rfl; simp at hw
      exact ⟨w.dropLast, w.getLast hne, (List.dropLast_concat_getLast hne).symm⟩
    obtain ⟨r1, x, t, e1, e2, e3⟩ := run_snoc.mp h
    exact .snoc (ih (by simpa using hw) e1) ((foAny_mem ok).mpr ⟨t, e2⟩)
def goalAny (R : Rdr τ) (q : Nat) : Prop := q ∈ R.ends
theorem toGoal_any {R : Rdr τ} (ok : R.Ok) (w : Wd) : ToGoal [R.start] (foAny R) (goalAny R) w ↔ ∃ r, R.read w = some r := by
  constructor
  · rintro ⟨q, h, hq⟩
    obtain ⟨r, e⟩ := reach_any ok h
    exact ⟨r, read_some.mpr ⟨q, e, hq⟩⟩
  · rintro ⟨r, h⟩
    obtain ⟨e, h, he⟩ := read_some.mp h
    exact ⟨e, reach_any' ok rfl h, he⟩

/-! ### reached, ending, useful states -/
def Reached (R : Rdr τ) (q : Nat) : Prop := ∃ w r, R.run R.start w = some (r, q)
def CanEnd (R : Rdr τ) (q : Nat) : Prop := ∃ w r e, R.run q w = some (r, e) ∧ e ∈ R.ends
def Useful (R : Rdr τ) (q : Nat) : Prop := Reached R q ∧ (CanEnd R q ∨ q = R.start)
theorem Alike.reached {R S : Rdr τ} (a : Alike R S) (q : Nat) : Reached R q ↔ Reached S q := by
  unfold Reached
  rw [a.start]
  simp only [a.run]
theorem Alike.canEnd {R S : Rdr τ} (a : Alike R S) (q : Nat) : CanEnd R q ↔ CanEnd S q := by
  unfold CanEnd
  simp only [a.run, a.ends]
theorem Alike.useful {R S : Rdr τ} (a : Alike R S) (q : Nat) : Useful R q ↔ Useful S q := by
  unfold Useful
  rw [a.reached, a.canEnd, a.start]
theorem reached_start (R : Rdr τ) : Reached R R.start := ⟨[], [], rfl⟩
theorem Reached.next {R : Rdr τ} {q c g : Nat} {t : Option τ} (h : Reached R q) (m : R.mv q c = some (g, t)) : Reached R g := by
  obtain ⟨w, r, e⟩ := h
  exact ⟨_, _, run_snoc.mpr ⟨_, _, _, e, m, rfl⟩⟩
theorem Reached.lt {R : Rdr τ} (ok : R.Ok) {q : Nat} (h : Reached R q) : q < R.rows.length := by
  obtain ⟨w, r, e⟩ := h
  exact run_lt ok ok.start e
theorem canEnd_end {R : Rdr τ} {q : Nat} (h : q ∈ R.ends) : CanEnd R q := ⟨[], [], q, rfl, h⟩
theorem CanEnd.back {R : Rdr τ} {q c g : Nat} {t : Option τ} (h : CanEnd R g) (m : R.mv q c = some (g, t)) : CanEnd R q := by
  obtain ⟨w, r, e, h1, h2⟩ := h
  exact ⟨c :: w, _, e, run_cons_some.mpr ⟨g, t, r, m, h1, rfl⟩, h2⟩
/-- closed under moves, from the start: all reached -/
theorem reached_all {R : Rdr τ} (F : List Nat) (h0 : R.start ∈ F) (hc : ∀ q ∈ F, ∀ c g t, R.mv q c = some (g, t) → g ∈ F) {q : Nat} (h : Reached R q) : q ∈ F := by
  obtain ⟨w, r, e⟩ := h
  have go : ∀ (w : Wd) (b : Nat) (r : List τ) (q : Nat), b ∈ F → R.run b w = some (r, q) → q ∈ F := by
    intro w
    induction w with
    | nil => intro b r q hb h; cases h; exact hb
    | cons c w ih =>
      intro b r q hb h
      obtain ⟨g, t, r', e1, e2, _⟩ := run_cons_some.mp h
      exact ih g r' q (hc b hb c g t e1) e2
  exact go w _ r q h0 e
theorem canEnd_all {R : Rdr τ} (F : List Nat) (h0 : ∀ e ∈ R.ends, e ∈ F) (hc : ∀ q c g t, R.mv q c = some (g, t) → g ∈ F → q ∈ F) {q : Nat} (h : CanEnd R q) : q ∈ F := by
  obtain ⟨w, r, e, h1, h2⟩ := h
  induction w generalizing q r with
  | nil => cases h1; exact h0 _ h2
  | cons c w ih =>
    obtain ⟨g, t, r', e1, e2, _⟩ := run_cons_some.mp h1
    exact hc q c g t e1 (ih _ e2)

/-! ### trimming -/
def trimRow (kept : List Nat) (r : Row τ) : Row τ := r.filterMap fun e => if e.2.1 ∈ kept then some (e.1, kept.idxOf e.2.1, e.2.2) else none
def trim (R : Rdr τ) (kept : List Nat) : Rdr τ where
  rows := kept.map fun q => trimRow kept (R.row q)
  ends := (R.ends.filter fun e => decide (e ∈ kept)).map fun e => kept.idxOf e
  start := kept.idxOf R.start
structure Kept (R : Rdr τ) (kept : List Nat) : Prop where
  mem : ∀ q, q ∈ kept ↔ Useful R q
  nd : kept.Nodup
theorem Kept.start {R : Rdr τ} {kept : List Nat} (k : Kept R kept) : R.start ∈ kept := (k.mem _).mpr ⟨reached_start R, .inr rfl⟩
theorem idx_lt {kept : List Nat} {q : Nat} (h : q ∈ kept) : kept.idxOf q < kept.length := List.idxOf_lt_length_iff.mpr h
theorem idx_get {kept : List Nat} {q : Nat} (h : q ∈ kept) : kept[kept.idxOf q]? = some q := by
  rw [List.getElem?_eq_getElem (idx_lt h), List.getElem_idxOf (idx_lt h)]
theorem get_idx {kept : List Nat} (nd : kept.Nodup) {i q : Nat} (h : kept[i]? = some q) : kept.idxOf q = i := by
  obtain ⟨hi, e⟩ := List.getElem?_eq_some_iff.mp h
  subst e
  exact nd.idxOf_getElem i hi
theorem idx_inj {kept : List Nat} {p q : Nat} (hp : p ∈ kept) (hq : q ∈ kept) (e : kept.idxOf p = kept.idxOf q) : p = q := by
  have h1 := idx_get hp
  rw [e, idx_get hq] at h1
  exact (Option.some.inj h1).symm
theorem trim_row {R : Rdr τ} {kept : List Nat} {i q : Nat} (h : kept[i]? = some q) : (trim R kept).row i = trimRow kept (R.row q) := by
  unfold Rdr.row trim
  rw [List.getD_eq_getElem?_getD, List.getElem?_map, h]
  rfl
theorem trimRow_mem {kept : List Nat} {r : Row τ} {c j : Nat} {t : Option τ} : (c, j, t) ∈ trimRow kept r ↔ ∃ g, (c, g, t) ∈ r ∧ g ∈ kept ∧ j = kept.idxOf g := by
  unfold trimRow
  rw [List.mem_filterMap]
  constructor
  · rintro ⟨⟨c', g, t'⟩, hm, h⟩
    have h : (if g ∈ kept then some (c', kept.idxOf g, t') else none) = some (c, j, t) := h
    split at h
    · cases h
      rename_i hg
      exact ⟨g, hm, hg, rfl⟩
    · cases h
  · rintro ⟨g, hm, hg, rfl⟩
    refine ⟨(c, g, t), hm, ?_⟩
    show (if g ∈ kept then some (c, kept.idxOf g, t) else none) = some (c, kept.idxOf g, t)
    rw [if_pos hg]
theorem trimRow_keys {kept : List Nat} : ∀ {r : Row τ}, (r.map (·.1)).Nodup → ((trimRow kept r).map (·.1)).Nodup := by
  intro r nd
  refine nd.sublist ?_
  unfold trimRow
  induction r with
  | nil => exact .refl _
  | cons e r ih =>
    rw [List.filterMap_cons, List.map_cons]
    rw [List.map_cons, List.nodup_cons] at nd
    split
    · exact .cons _ (ih nd.2)
    · rename_i b hb
      split at hb
      · cases hb
        exact .cons_cons _ (ih nd.2)
      · cases hb
theorem trim_ok {R : Rdr τ} (ok : R.Ok) {kept : List Nat} (k : Kept R kept) : (trim R kept).Ok where
  pos := by
    show 0 < (kept.map _).length
    rw [List.length_map]
    exact List.length_pos_of_mem k.start
  keys := fun r hr => by
    obtain ⟨q, _, rfl⟩ := List.mem_map.mp hr
    exact trimRow_keys (row_keys ok q)
  goal := fun r hr e he => by
    obtain ⟨q, _, rfl⟩ := List.mem_map.mp hr
    obtain ⟨c, j, t⟩ := e
    obtain ⟨g, _, hg, rfl⟩ := trimRow_mem.mp he
    show kept.idxOf g < (kept.map _).length
    rw [List.length_map]
    exact idx_lt hg
  ends := fun e he => by
    obtain ⟨x, hx, rfl⟩ := List.mem_map.mp he
    show kept.idxOf x < (kept.map _).length
    rw [List.length_map]
    exact idx_lt (of_decide_eq_true (List.mem_filter.mp hx).2)
  nd := by
    show ((R.ends.filter fun e => decide (e ∈ kept)).map fun e => kept.idxOf e).Nodup
    have h := ok.nd.sublist (List.filter_sublist (p := fun e => decide (e ∈ kept)) (l := R.ends))
    rw [List.nodup_iff_pairwise_ne, List.pairwise_map]
    rw [List.nodup_iff_pairwise_ne] at h
    refine List.Pairwise.imp_of_mem (fun {a b} ha hb hne e => hne ?_) h
    exact idx_inj (of_decide_eq_true (List.mem_filter.mp ha).2) (of_decide_eq_true (List.mem_filter.mp hb).2) e
  start := by
    show kept.idxOf R.start < (kept.map _).length
    rw [List.length_map]
    exact idx_lt k.start
theorem trim_up {R : Rdr τ} (ok : R.Ok) {kept : List Nat} (k : Kept R kept) : ∀ {w : Wd} {q : Nat} {r : List τ} {e : Nat}, Reached R q → q ∈ kept → R.run q w = some (r, e) → e ∈ R.ends → e ∈ kept ∧ (trim R kept).run (kept.idxOf q) w = some (r, kept.idxOf e)
  | [], q, r, e, _, hk, h, _ => by cases h; exact ⟨hk, rfl⟩
  | c :: w, q, r, e, hq, hk, h, he => by
    obtain ⟨g, t, r', e1, e2, e3⟩ := run_cons_some.mp h
    have rg : Reached R g := hq.next e1
    have gk : g ∈ kept := (k.mem g).mpr ⟨rg, .inl ⟨w, r', e, e2, he⟩⟩
    obtain ⟨f1, f2⟩ := trim_up ok k rg gk e2 he
    refine ⟨f1, run_cons_some.mpr ⟨kept.idxOf g, t, r', ?_, f2, e3⟩⟩
    rw [mv_iff (trim_ok ok k), trim_row (idx_get hk), trimRow_mem]
    exact ⟨g, (mv_iff ok _ _ _).mp e1, gk, rfl⟩
theorem trim_down {R : Rdr τ} (ok : R.Ok) {kept : List Nat} (k : Kept R kept) : ∀ {w : Wd} {q i : Nat} {r : List τ} {j : Nat}, kept[i]? = some q → (trim R kept).run i w = some (r, j) → ∃ e, kept[j]? = some e ∧ R.run q w = some (r, e)
  | [], q, i, r, j, hi, h => by cases h; exact ⟨q, hi, rfl⟩
  | c :: w, q, i, r, j, hi, h => by
    obtain ⟨g, t, r', e1, e2, e3⟩ := run_cons_some.mp h
    rw [mv_iff (trim_ok ok k), trim_row hi, trimRow_mem] at e1
    obtain ⟨x, hx, hk, rfl⟩ := e1
    obtain ⟨e, f1, f2⟩ := trim_down ok k (idx_get hk) e2
    exact ⟨e, f1, run_cons_some.mpr ⟨x, t, r', (mv_iff ok _ _ _).mpr hx, f2, e3⟩⟩
theorem trim_read {R : Rdr τ} (ok : R.Ok) {kept : List Nat} (k : Kept R kept) (w : Wd) : (trim R kept).read w = R.read w := by
  have key : ∀ r, (trim R kept).read w = some r ↔ R.read w = some r := by
    intro r
    rw [read_some, read_some]
    constructor
    · rintro ⟨j, h, hj⟩
      obtain ⟨e, e1, e2⟩ := trim_down ok k (idx_get k.start) h
      obtain ⟨x, hx, hxj⟩ := List.mem_map.mp hj
      have hxk := of_decide_eq_true (List.mem_filter.mp hx).2
      have : x = e := by
        have q := idx_get hxk
        rw [hxj, e1] at q
        exact (Option.some.inj q).symm
      exact ⟨e, e2, this ▸ (List.mem_filter.mp hx).1⟩
    · rintro ⟨e, h, he⟩
      obtain ⟨f1, f2⟩ := trim_up ok k (reached_start R) k.start h he
      exact ⟨kept.idxOf e, f2, List.mem_map.mpr ⟨e, List.mem_filter.mpr ⟨he, decide_eq_true f1⟩, rfl⟩⟩
  cases h : R.read w with
  | some r => exact (key r).mpr h
  | none =>
    cases h' : (trim R kept).read w with
    | none => rfl
    | some r => rw [(key r).mp h'] at h; cases h
end K17
end TM2
section TM3
set_option autoImplicit false
/-! later_groups: the goals by sign, then the groups in the order of the signs. Plain mathematics. -/
namespace K17
section
variable {ν α : Type}
theorem nodup_le [DecidableEq ν] : ∀ {L U : List ν}, L.Nodup → (∀ x ∈ L, x ∈ U) → L.length ≤ U.length
  | [], _, _, _ => Nat.zero_le _
  | x :: L, U, nd, h => by
    obtain ⟨h1, h2⟩ := List.nodup_cons.mp nd
    have hx := h x List.mem_cons_self
    have := nodup_le (L := L) (U := U.erase x) h2 fun y hy => (List.mem_erase_of_ne (fun z : y = x => h1 (z ▸ hy))).mpr (h y (List.mem_cons_of_mem _ hy))
    have := List.length_erase_of_mem hx
    have : 0 < U.length := List.length_pos_of_mem hx
    rw [List.length_cons]
    omega
/-- the goals met so far, by their signs: E the pairs told, L the nodes known -/
structure BySign (L : List ν) (E : List (Nat × ν)) (bs : List (Nat × α × List ν)) : Prop where
  nd : (bs.map (·.1)).Nodup
  mem : ∀ p ∈ bs, ∀ g, g ∈ p.2.2 ↔ g ∉ L ∧ (p.1, g) ∈ E
  gnd : ∀ p ∈ bs, p.2.2.Nodup
  all : ∀ e ∈ E, e.2 ∉ L → ∃ p ∈ bs, p.1 = e.1
theorem BySign.nil {L : List ν} : BySign (α := α) L [] [] := ⟨List.nodup_nil, fun _ h => (nomatch h), fun _ h => (nomatch h), fun _ h => (nomatch h)⟩
variable {L : List ν} {E : List (Nat × ν)} {bs : List (Nat × α × List ν)} {s : Nat} {g : ν}
theorem BySign.old (b : BySign L E bs) (h : g ∈ L) : BySign L (E ++ [(s, g)]) bs where
  nd := b.nd
  mem := fun p hp x => by
    rw [b.mem p hp x, List.mem_append, List.mem_singleton]
    exact ⟨fun z => ⟨z.1, .inl z.2⟩, fun z => ⟨z.1, z.2.elim id fun e => by
      injection e with e1 e2
      exact absurd h (e2 ▸ z.1)⟩⟩
  gnd := b.gnd
  all := fun e he hn => by
    rcases List.mem_append.mp he with z | z
    · exact b.all e z hn
    · rw [List.mem_singleton] at z
      rw [z] at hn
      exact absurd h hn
theorem BySign.fresh {a : α} (b : BySign L E bs) (h : g ∉ L) (hs : ∀ p ∈ bs, p.1 ≠ s) : BySign L (E ++ [(s, g)]) (bs ++ [(s, a, [g])]) where
  nd := by
    rw [List.map_append, List.nodup_append]
    refine ⟨b.nd, by simp, fun x hx y hy => ?_⟩
    obtain ⟨p, hp, rfl⟩ := List.mem_map.mp hx
    simp at hy
    subst hy
    exact hs p hp
  mem := fun p hp x => by
    rw [List.mem_append, List.mem_singleton]
    rcases List.mem_append.mp hp with z | z
    · rw [b.mem p z x]
      exact ⟨fun y => ⟨y.1, .inl y.2⟩, fun y => ⟨y.1, y.2.elim id fun e => absurd (Prod.mk.inj e).1 (hs p z)⟩⟩
    · rw [List.mem_singleton] at z
      subst z
      show x ∈ [g] ↔ _
      rw [List.mem_singleton]
      constructor
      · rintro rfl
        exact ⟨h, .inr rfl⟩
      · rintro ⟨hx, y | y⟩
        · obtain ⟨p, hp, e⟩ := b.all (s, x) y hx
          exact absurd e (hs p hp)
        · exact (Prod.mk.inj y).2
  gnd := fun p hp => by
    rcases List.mem_append.mp hp with z | z
    · exact b.gnd p z
    · rw [List.mem_singleton] at z
      subst z
      simp
  all := fun e he hn => by
    rcases List.mem_append.mp he with z | z
    · obtain ⟨p, hp, e2⟩ := b.all e z hn
      exact ⟨p, List.mem_append_left _ hp, e2⟩
    · rw [List.mem_singleton] at z
      subst z
      exact ⟨(s, a, [g]), by simp, rfl⟩
theorem BySign.uniq (b : BySign L E bs) {p q : Nat × α × List ν} (hp : p ∈ bs) (hq : q ∈ bs) (e : p.1 = q.1) : p = q := by
  have nd := b.nd
  clear b
  induction bs with
  | nil => exact nomatch hp
  | cons x bs ih =>
    rw [List.map_cons, List.nodup_cons] at nd
    rcases List.mem_cons.mp hp with z | z <;> rcases List.mem_cons.mp hq with y | y
    · rw [z, y]
    · exact absurd (List.mem_map_of_mem (f := (·.1)) y) (by rw [← e, z]; exact nd.1)
    · exact absurd (List.mem_map_of_mem (f := (·.1)) z) (by rw [e, y]; exact nd.1)
    · exact ih z y nd.2
theorem BySign.there (b : BySign L E bs) (h : g ∉ L) {p : Nat × α × List ν} (hp : p ∈ bs) (e : p.1 = s) (hg : g ∈ p.2.2) : BySign L (E ++ [(s, g)]) bs where
  nd := b.nd
  mem := fun q hq x => by
    rw [b.mem q hq x, List.mem_append, List.mem_singleton]
    refine ⟨fun z => ⟨z.1, .inl z.2⟩, fun z => ⟨z.1, z.2.elim id fun y => ?_⟩⟩
    obtain ⟨y1, y2⟩ := Prod.mk.inj y
    have := b.uniq hp hq (e.trans y1.symm)
    rw [← this, y2]
    exact ((b.mem p hp g).mp hg).2
  gnd := b.gnd
  all := fun x hx hn => by
    rcases List.mem_append.mp hx with z | z
    · exact b.all x z hn
    · rw [List.mem_singleton] at z
      subst z
      exact ⟨p, hp, e⟩
/-- one more goal of a sign that stands -/
def addG (s : Nat) (g : ν) (p : Nat × α × List ν) : Nat × α × List ν := if p.1 = s then (p.1, p.2.1, p.2.2 ++ [g]) else p
theorem addG_1 (p : Nat × α × List ν) : (addG s g p).1 = p.1 := by unfold addG; split <;> rfl
theorem addG_2 (p : Nat × α × List ν) : (addG s g p).2.1 = p.2.1 := by unfold addG; split <;> rfl
theorem BySign.more (b : BySign L E bs) (h : g ∉ L) {p : Nat × α × List ν} (hp : p ∈ bs) (e : p.1 = s) (hg : g ∉ p.2.2) : BySign L (E ++ [(s, g)]) (bs.map (addG s g)) where
  nd := by
    rw [List.map_map]
    have : (bs.map ((fun p => p.1) ∘ addG s g)) = bs.map (·.1) := List.map_congr_left fun q _ => addG_1 q
    rw [this]
    exact b.nd
  mem := fun q hq x => by
    obtain ⟨r, hr, rfl⟩ := List.mem_map.mp hq
    rw [addG_1, List.mem_append, List.mem_singleton]
    unfold addG
    by_cases z : r.1 = s
    · rw [if_pos z]
      show x ∈ r.2.2 ++ [g] ↔ _
      rw [List.mem_append, List.mem_singleton, b.mem r hr x, z]
      constructor
      · rintro (y | rfl)
        · exact ⟨y.1, .inl y.2⟩
        · exact ⟨h, .inr rfl⟩
      · rintro ⟨y1, y2 | y2⟩
        · exact .inl ⟨y1, y2⟩
        · exact .inr (Prod.mk.inj y2).2
    · rw [if_neg z, b.mem r hr x]
      exact ⟨fun y => ⟨y.1, .inl y.2⟩, fun y => ⟨y.1, y.2.elim id fun e => absurd (Prod.mk.inj e).1 z⟩⟩
  gnd := fun q hq => by
    obtain ⟨r, hr, rfl⟩ := List.mem_map.mp hq
    unfold addG
    by_cases z : r.1 = s
    · rw [if_pos z]
      show (r.2.2 ++ [g]).Nodup
      have er := b.uniq hr hp (z.trans e.symm)
      rw [List.nodup_append]
      refine ⟨b.gnd r hr, by simp, fun x hx y hy => ?_⟩
      rw [List.mem_singleton] at hy
      subst hy
      rw [er] at hx
      exact fun w => hg (w ▸ hx)
    · rw [if_neg z]
      exact b.gnd r hr
  all := fun x hx hn => by
    rcases List.mem_append.mp hx with z | z
    · obtain ⟨q, hq, e2⟩ := b.all x z hn
      exact ⟨_, List.mem_map_of_mem hq, (addG_1 q).trans e2⟩
    · rw [List.mem_singleton] at z
      subst z
      exact ⟨_, List.mem_map_of_mem hp, (addG_1 p).trans e⟩
/-- the groups of the first i signs -/
structure Part (w : Wd) (L : List ν) (E : List (Nat × ν)) (cs : List Nat) (i : Nat) (out : List (Wd × List ν)) (Li : List ν) : Prop where
  kn : ∀ g, g ∈ Li ↔ g ∈ L ∨ ∃ c ∈ cs.take i, (c, g) ∈ E
  wd : ∀ p ∈ out, ∃ c ∈ cs.take i, p.1 = w ++ [c]
  inc : out.Pairwise fun p q => p.1 < q.1
  ne : ∀ p ∈ out, p.2 ≠ []
  mem : ∀ p ∈ out, ∀ s, p.1 = w ++ [s] → ∀ g, g ∈ p.2 ↔ g ∉ L ∧ (s, g) ∈ E ∧ ∀ s', s' < s → (s', g) ∉ E
  all : ∀ s ∈ cs.take i, ∀ g, g ∉ L → (s, g) ∈ E → (∀ s', s' < s → (s', g) ∉ E) → ∃ p ∈ out, p.1 = w ++ [s]
variable {w : Wd} {cs : List Nat} {i : Nat} {out : List (Wd × List ν)} {Li : List ν}
theorem Part.start : Part w L E cs 0 [] L := ⟨fun g => by simp, fun _ h => (nomatch h), .nil, fun _ h => (nomatch h), fun _ h => (nomatch h), fun _ h => by simp at h⟩
theorem take_lt {cs : List Nat} (inc : cs.Pairwise (· < ·)) {i c : Nat} (hc : cs[i]? = some c) {x : Nat} : x ∈ cs.take i ↔ x ∈ cs ∧ x < c := by
  have hi := (List.getElem?_eq_some_iff.mp hc).1
  have e : cs = cs.take i ++ c :: cs.drop (i + 1) := by
    have h1 := (List.take_append_drop i cs).symm
    rw [List.drop_eq_getElem_cons hi, (List.getElem?_eq_some_iff.mp hc).2] at h1
    exact h1
  have inc2 := inc
  rw [e, List.pairwise_append] at inc2
  constructor
  · intro h
    exact ⟨List.mem_of_mem_take h, inc2.2.2 x h c List.mem_cons_self⟩
  · rintro ⟨h, hlt⟩
    rw [e] at h
    rcases List.mem_append.mp h with z | z
    · exact z
    · rcases List.mem_cons.mp z with z | z
      · omega
      · have := (List.pairwise_cons.mp inc2.2.1).1 x z
        omega
theorem Part.step (inc : cs.Pairwise (· < ·)) {c : Nat} (hc : cs[i]? = some c) (hall : ∀ s g, (s, g) ∈ E → g ∉ L → s ∈ cs) (m : Part w L E cs i out Li) {fr Lj : List ν}
    (hf : ∀ g, g ∈ fr ↔ (g ∉ L ∧ (c, g) ∈ E) ∧ g ∉ Li) (hL : ∀ g, g ∈ Lj ↔ g ∈ Li ∨ g ∈ fr) (out' : List (Wd × List ν)) (ho : out' = if fr = [] then out else out ++ [(w ++ [c], fr)]) : Part w L E cs (i + 1) out' Lj := by
  have tk : cs.take (i + 1) = cs.take i ++ [c] := take_succ_of hc
  have lt : ∀ x, x ∈ cs.take i ↔ x ∈ cs ∧ x < c := fun x => take_lt inc hc
  have hfr : ∀ g, g ∈ fr ↔ g ∉ L ∧ (c, g) ∈ E ∧ ∀ s', s' < c → (s', g) ∉ E := by
    intro g
    rw [hf g, m.kn g]
    constructor
    · rintro ⟨⟨a, b⟩, z⟩
      refine ⟨a, b, fun s' hs' he => z (.inr ⟨s', ?_, he⟩)⟩
      exact (lt s').mpr ⟨hall s' g he a, hs'⟩
    · rintro ⟨a, b, z⟩
      refine ⟨⟨a, b⟩, ?_⟩
      rintro (y | ⟨s', hs', he⟩)
      · exact a y
      · exact z s' ((lt s').mp hs').2 he
  have kn' : ∀ g, g ∈ Lj ↔ g ∈ L ∨ ∃ c' ∈ cs.take (i + 1), (c', g) ∈ E := by
    intro g
    rw [hL g, hf g, m.kn g, tk]
    constructor
    · rintro ((z | ⟨x, hx, z⟩) | z)
      · exact .inl z
      · exact .inr ⟨x, List.mem_append_left _ hx, z⟩
      · exact .inr ⟨c, by simp, z.1.2⟩
    · rintro (z | ⟨x, hx, z⟩)
      · exact .inl (.inl z)
      · rcases List.mem_append.mp hx with y | y
        · exact .inl (.inr ⟨x, y, z⟩)
        · rw [List.mem_singleton] at y
          subst y
          by_cases hg : g ∈ L ∨ ∃ c ∈ cs.take i, (c, g) ∈ E
          · exact .inl hg
          · exact .inr ⟨⟨fun q => hg (.inl q), z⟩, hg⟩
  have wlt' : ∀ p ∈ out, p.1 < w ++ [c] := fun p hp => by
    obtain ⟨x, hx, e⟩ := m.wd p hp
    rw [e]
    exact (lex_snoc_same x c w).mpr ((lt x).mp hx).2
  by_cases h0 : fr = []
  · rw [if_pos h0] at ho
    subst ho
    refine ⟨kn', fun p hp => ?_, m.inc, m.ne, m.mem, fun s hs g a b z => ?_⟩
    · obtain ⟨x, hx, e⟩ := m.wd p hp
      exact ⟨x, by rw [tk]; exact List.mem_append_left _ hx, e⟩
    · rw [tk] at hs
      rcases List.mem_append.mp hs with y | y
      · exact m.all s y g a b z
      · rw [List.mem_singleton] at y
        subst y
        have := (hfr g).mpr ⟨a, b, z⟩
        rw [h0] at this
        exact nomatch this
  · rw [if_neg h0] at ho
    subst ho
    refine ⟨kn', fun p hp => ?_, ?_, fun p hp => ?_, fun p hp s e g => ?_, fun s hs g a b z => ?_⟩
    · rcases List.mem_append.mp hp with y | y
      · obtain ⟨x, hx, e⟩ := m.wd p y
        exact ⟨x, by rw [tk]; exact List.mem_append_left _ hx, e⟩
      · rw [List.mem_singleton] at y
        subst y
        exact ⟨c, by rw [tk]; simp, rfl⟩
    · rw [List.pairwise_append]
      refine ⟨m.inc, by simp, fun a ha b hb => ?_⟩
      rw [List.mem_singleton] at hb
      subst hb
      exact wlt' a ha
    · rcases List.mem_append.mp hp with y | y
      · exact m.ne p y
      · rw [List.mem_singleton] at y
        subst y
        exact h0
    · rcases List.mem_append.mp hp with y | y
      · exact m.mem p y s e g
      · rw [List.mem_singleton] at y
        subst y
        have : c = s := by
          have := (List.append_inj' e rfl).2
          simpa using this
        subst this
        exact hfr g
    · rw [tk] at hs
      rcases List.mem_append.mp hs with y | y
      · obtain ⟨p, hp, e⟩ := m.all s y g a b z
        exact ⟨p, List.mem_append_left _ hp, e⟩
      · rw [List.mem_singleton] at y
        subst y
        exact ⟨_, List.mem_append_right _ (List.mem_singleton.mpr rfl), rfl⟩
theorem Part.later {fo : ν → List (Nat × ν)} {N : List ν} (hE : ∀ s g, (s, g) ∈ E ↔ ∃ n ∈ N, (s, g) ∈ fo n) (hall : ∀ s g, (s, g) ∈ E → g ∉ L → s ∈ cs) (m : Part w L E cs cs.length out Li) : Later fo w N L out Li where
  kn := fun g => by
    rw [m.kn g, List.take_length]
    constructor
    · rintro (z | ⟨c, _, z⟩)
      · exact .inl z
      · obtain ⟨n, hn, y⟩ := (hE c g).mp z
        exact .inr ⟨n, hn, c, y⟩
    · rintro (z | ⟨n, hn, c, y⟩)
      · exact .inl z
      · by_cases hg : g ∈ L
        · exact .inl hg
        · have he := (hE c g).mpr ⟨n, hn, y⟩
          exact .inr ⟨c, hall c g he hg, he⟩
  wd := fun p hp => let ⟨c, _, e⟩ := m.wd p hp; ⟨c, e⟩
  inc := m.inc
  ne := m.ne
  mem := fun p hp s e g => by
    rw [m.mem p hp s e g, hE s g]
    exact ⟨fun ⟨a, b, c⟩ => ⟨a, b, fun s' h z => c s' h ((hE s' g).mpr z)⟩, fun ⟨a, b, c⟩ => ⟨a, b, fun s' h z => c s' h ((hE s' g).mp z)⟩⟩
  all := fun s g a b c => by
    have he := (hE s g).mpr b
    refine m.all s ?_ g a he fun s' h z => c s' h ((hE s' g).mp z)
    rw [List.take_length]
    exact hall s g he a
end
end K17
end TM3
section TB
set_option Elab.async false
set_option linter.all false
set_option maxRecDepth 100000
set_option maxHeartbeats 4000000
/-! The text by places, the facts of the top, the defs' promises in short words. -/
namespace K17
open PySem PySem.Spec PyProof.Rows L2
/-! ### the text -/
def top (i : Nat) : Stmt := PySem.Challenge.pw_sealedslots_k17_whole_trimmed_reads_the.main.body.getD i (.Pass ⟨0, 0, 0, 0⟩)
def defs : List (Str × Nat) := [(("is_word" : Str), 14), (("is_sign" : Str), 15), (("is_mark" : Str), 16), (("is_name" : Str), 17), (("is_row" : Str), 18), (("is_below" : Str), 19), (("are_different" : Str), 20), (("is_move" : Str), 21), (("is_state_dict" : Str), 22), (("told_in" : Str), 23), (("signs_in" : Str), 24), (("reader_problem" : Str), 25), (("require_word" : Str), 28), (("steps" : Str), 30), (("reading" : Str), 31), (("later_groups" : Str), 32), (("least_walk" : Str), 33), (("least_page" : Str), 34), (("goals_of" : Str), 35), (("shortest_page" : Str), 36), (("reached_states" : Str), 37), (("ending_states" : Str), 38), (("useful_states" : Str), 39), (("trimmed" : Str), 40), (("_law_rng" : Str), 42), (("_law_draw" : Str), 43), (("_law_choice" : Str), 44), (("_law_letters" : Str), 45), (("_law_marks" : Str), 46), (("_law_any_format" : Str), 47), (("_law_family" : Str), 48), (("_law_bent" : Str), 49), (("_law_format" : Str), 50), (("_law_thinned" : Str), 51), (("_law_model" : Str), 52), (("_law_reader" : Str), 53), (("_law_texts" : Str), 54), (("_law_read" : Str), 55), (("_law_told" : Str), 56), (("_law_notes" : Str), 57), (("_law_least" : Str), 58), (("_law_pages_right" : Str), 59), (("_law_met" : Str), 60), (("_law_signs" : Str), 61), (("_law_right" : Str), 62), (("law" : Str), 63)]
def frees : List Str := ["isinstance", "str", "all", "any", "len", "tuple", "int", "bool", "list", "set", "sorted", "dict", "enumerate", "range", "max", "min", "abs", "divmod", "RuntimeError"]
/-- the letters -/
def abc : Str := "abcdefghijklmnopqrstuvwxyz"
/-- what the top leaves -/
structure Tx (K : PySem.W.Frag) (mg : Str → Option Value) : Prop where
  def_ : ∀ p ∈ defs, ∃ fd, FunD K p.1 p.1 (defArgs (top p.2)) (defBody (top p.2)) (defScope (top p.2)) [] [] (He.ga K p.1) fd
  glo : ∀ p ∈ defs, mg p.1 = some (.ref (He.ga K p.1))
  free : ∀ x ∈ frees, mg x = none
  letters : ∃ t, mg "LETTERS" = some (.str abc t)
  longest : ∃ t, mg "LONGEST_NAME" = some (.int 8 t)
  mPage : ∃ t, mg "MOST_PAGE_SIGNS" = some (.int 6 t)
  mText : ∃ t, mg "MOST_TEXT_SIGNS" = some (.int 4 t)
  mMark : ∃ t, mg "MOST_MARKS" = some (.int 6 t)
theorem Tx.f {K : PySem.W.Frag} {mg : Str → Option Value} (T : Tx K mg) (x : Str) (h : x ∈ frees := by decide +kernel) : mg x = none := T.free x h
/-! ### a def of the top, as its callers know it -/
structure Def (P : Program) (w : World) (K : PySem.W.Frag) (mg : Str → Option Value) (base : Heap) (CX : CXT) (k : Nat) (x : Str) (ps : List Str) (sp : Sp) : Prop where
  ex : ∃ (f : Addr) (fd : FuncData), FnOk P w K mg base CX k f fd ps sp ∧ mg x = some (.ref f) ∧ PySem.W.keepIn K (.ref f) = true ∧ Binds K fd ps []
section
variable {P : Program} {w : World} {K : PySem.W.Frag} {mg : Str → Option Value} {base : Heap}
/-- a def by its body -/
theorem def_of {CX : CXT} {k : Nat} {x : Str} {ps : List Str} {sp : Sp} (T : Tx K mg) (i n : Nat) (N : List Str) (hi : defs[i]? = some (x, n)) (S : FnScope N ps (defScope (top n)))
    (hb : ∀ (kV doc pm : Value) (an : Option Addr) (cdv ct : Value) (us : List Value), us.length = ps.length → bindArgs (PySem.W.fnOf x x (defArgs (top n)) (defBody (top n)) (defScope (top n)) .none kV doc pm an cdv ct) ⟨us, []⟩ = pure (ps.zip us))
    (len : ∀ vs H Q E, sp vs H Q E → vs.length = ps.length)
    (hbody : ∀ (f : Addr) (cdv : Value) (A : Around) (outer : List Env) (s : Shared) (H : Hp) (vs : List V) (Q : VK) (E : XK), Room k (A.deeper (envOfC x (defScope (top n)) s.heap.objs.size f cdv)) → sp vs H Q E →
      ∃ t, PSs (cxOf CX P w K mg base N x (defScope (top n)) f cdv A outer s H E) (defBody (top n)) t ∧ t { nx := fun _ H' => Q .non H', rt := Q } (start N vs) H) : Def P w K mg base CX (k + 1) x ps sp := by
  have hm : (x, n) ∈ defs := List.mem_of_getElem? hi
  obtain ⟨fd, F⟩ := T.def_ (x, n) hm
  exact ⟨He.ga K x, fd, F.ok S len fun cdv A outer s H vs Q E hr h => hbody _ cdv A outer s H vs Q E hr h, T.glo (x, n) hm, F.kp, F.bindsN hb⟩
theorem Def.mono {CX : CXT} {j k : Nat} {x : Str} {ps : List Str} {sp : Sp} (D : Def P w K mg base CX j x ps sp) (h : j ≤ k) : Def P w K mg base CX k x ps sp := by
  obtain ⟨f, fd, a, b, c, d⟩ := D.ex
  exact ⟨f, fd, a.mono h, b, c, d⟩
theorem Def.imp {CX : CXT} {k : Nat} {x : Str} {ps : List Str} {sp sp' : Sp} (D : Def P w K mg base CX k x ps sp) (h : ∀ vs H Q E, sp' vs H Q E → sp vs H Q E) : Def P w K mg base CX k x ps sp' := by
  obtain ⟨f, fd, a, b, c, d⟩ := D.ex
  exact ⟨f, fd, a.imp h, b, c, d⟩
end
section
variable {X : Cx} {k : Nat} {x : Str} {ps : List Str} {sp : Sp} {p pos : Pos} {e : Expr} {es : List Expr} {t : TA}
/-- f(e, ..) -/
theorem pd {CX : CXT} {E : XK} (D : Def X.prog X.w X.K X.mg X.base CX k x ps sp) (hr : Room k X.A) (hg : Gl X x) (hx : Passes CX X E) (ha : PA X (e :: es) t) (hdb : (x == ("__debug__" : Str)) = false := by decide)
    (he : starEach (e :: es) X.env = (false, eval e X.env) :: starEach es X.env := by rfl) (hpl : (backTo pos (starEach es X.env)).any (·.1) = false := by rfl) : PE X (.Call (.Name x p) (e :: es) [] pos) (tCall sp [] E t) := by
  obtain ⟨f, fd, F, hm, hk, hb⟩ := D.ex
  exact pe_call F hr hg hm hk hb .nil hx ha hdb he hpl
/-- a call of a def that lets nothing out -/
theorem pd0 (D : Def X.prog X.w X.K X.mg X.base CX0 k x ps sp) {j : Nat} (hr : Room j X.A) (ha : PA X (e :: es) t) (hkj : k ≤ j := by decide) (hg : Gl X x := by rfl) (hdb : (x == ("__debug__" : Str)) = false := by decide)
    (he : starEach (e :: es) X.env = (false, eval e X.env) :: starEach es X.env := by rfl) (hpl : (backTo pos (starEach es X.env)).any (·.1) = false := by rfl) : PE X (.Call (.Name x p) (e :: es) [] pos) (tCall sp [] E0 t) :=
  pd D (hr.mono hkj) hg pass0 ha hdb he hpl
end
/-! ### built-ins -/
theorem b_isinstance : bootBuiltins "isinstance" = some (.builtin "isinstance") := by decide +kernel
theorem b_all : bootBuiltins "all" = some (.builtin "all") := by decide +kernel
theorem b_any : bootBuiltins "any" = some (.builtin "any") := by decide +kernel
theorem b_len : bootBuiltins "len" = some (.builtin "len") := by decide +kernel
theorem b_str : bootBuiltins "str" = some (.type "str") := by decide +kernel
theorem b_tuple : bootBuiltins "tuple" = some (.type "tuple") := by decide +kernel
theorem b_int : bootBuiltins "int" = some (.type "int") := by decide +kernel
theorem b_bool : bootBuiltins "bool" = some (.type "bool") := by decide +kernel
theorem b_list : bootBuiltins "list" = some (.type "list") := by decide +kernel
theorem b_set : bootBuiltins "set" = some (.type "set") := by decide +kernel
theorem b_sorted : bootBuiltins "sorted" = some (.builtin "sorted") := by decide +kernel
theorem b_dict : bootBuiltins "dict" = some (.type "dict") := by decide +kernel
theorem b_enumerate : bootBuiltins "enumerate" = some (.type "enumerate") := by decide +kernel
theorem b_range : bootBuiltins "range" = some (.type "range") := by decide +kernel
theorem b_max : bootBuiltins "max" = some (.builtin "max") := by decide +kernel
theorem b_min : bootBuiltins "min" = some (.builtin "min") := by decide +kernel
theorem b_abs : bootBuiltins "abs" = some (.builtin "abs") := by decide +kernel
theorem b_divmod : bootBuiltins "divmod" = some (.builtin "divmod") := by decide +kernel
section
variable {X : Cx} {p pos : Pos} {e : Expr} {es : List Expr} {t : TA} {r : List V → Hp → VK → Prop}
/-- a built-in type as a value -/
theorem pty {K : PySem.W.Frag} {mg : Str → Option Value} (T : Tx K mg) (n : String) {x : Str} (hv : bootBuiltins x = some (.type n)) (hX : X.mg = mg := by rfl) (hx : x ∈ frees := by decide +kernel) (hg : Gl X x := by rfl) (hn : x ≠ "__name__" := by decide) (hd : (x == ("__debug__" : Str)) = false := by decide) : PE X (.Name x p) (tC (.ty n)) :=
  pe_bltn hg (by rw [hX]; exact T.f x hx) hv (show RelV (.ty n) (.type n) from rfl) hn hd
/-- a built-in function, type called -/
theorem pB {K : PySem.W.Frag} {mg : Str → Option Value} (T : Tx K mg) {x : Str} {id : String} (hv : bootBuiltins x = some (.builtin id)) (hc : CallR X (.builtin id) r) (ha : PA X (e :: es) t) (hX : X.mg = mg := by rfl) (hx : x ∈ frees := by decide +kernel) (hg : Gl X x := by rfl) (hn : x ≠ "__name__" := by decide) (hdb : (x == ("__debug__" : Str)) = false := by decide)
    (he : starEach (e :: es) X.env = (false, eval e X.env) :: starEach es X.env := by rfl) (hpl : (backTo pos (starEach es X.env)).any (·.1) = false := by rfl) : PE X (.Call (.Name x p) (e :: es) [] pos) (tCB r t) :=
  pe_callB hc hg (by rw [hX]; exact T.f x hx) hv ha hn hdb he hpl
theorem pT {K : PySem.W.Frag} {mg : Str → Option Value} (T : Tx K mg) {x : Str} {n : String} (hv : bootBuiltins x = some (.type n)) (hc : CallR X (.type n) r) (ha : PA X (e :: es) t) (hX : X.mg = mg := by rfl) (hx : x ∈ frees := by decide +kernel) (hg : Gl X x := by rfl) (hn : x ≠ "__name__" := by decide) (hdb : (x == ("__debug__" : Str)) = false := by decide)
    (he : starEach (e :: es) X.env = (false, eval e X.env) :: starEach es X.env := by rfl) (hpl : (backTo pos (starEach es X.env)).any (·.1) = false := by rfl) : PE X (.Call (.Name x p) (e :: es) [] pos) (tCB r t) :=
  pe_callTy hc hg (by rw [hX]; exact T.f x hx) hv ha hn hdb he hpl
theorem pa1 {te : TE} (h : PE X e te) (hs : starEach [e] X.env = [(false, eval e X.env)] := by rfl) : PA X [e] (tCons te tNil) := pa_cons h pa_nil hs
end
/-! ### heaps -/
theorem Same.new {H : Hp} {p : Addr} {o : HO} (h : H p = none) : Same H (upd H p o) := fun b u e => by
  rw [upd_ne (ne_of_none e h)]
  exact e
theorem Same.updN {H H' : Hp} {p : Addr} {o : HO} (s : Same H H') (h : H p = none) : Same H (upd H' p o) := fun b u e => by
  rw [upd_ne (ne_of_none e h)]
  exact s b u e
theorem Same.tup {K : PySem.W.Frag} {H H' : Hp} {a : Addr} {xs : List V} (e : Same H H') (h : SqT K H a xs) : SqT K H' a xs := by
  rcases h with (h | ⟨o, h⟩) | h
  · exact .inl (.inl (e _ _ h))
  · exact .inl (.inr ⟨o, e _ _ h⟩)
  · exact .inr h
theorem Same.rd {H H' : Hp} {a : Addr} {u : HO} (e : Same H H') (h : Rd H a u) : Rd H' a u := by
  rcases h with h | ⟨o, h⟩
  · exact .inl (e _ _ h)
  · exact .inr ⟨o, e _ _ h⟩
theorem upd_upd_same {H : Hp} {a : Addr} {o u : HO} : upd (upd H a o) a u = upd H a u := upd_upd
theorem lst_inj {H : Hp} {a : Addr} {xs ys : List V} (h : H a = some (.lst xs)) (h' : H a = some (.lst ys)) : xs = ys := by
  rw [h] at h'
  cases h'
  rfl
end K17
end TB
section TD1
set_option Elab.async false
set_option linter.all false
set_option maxRecDepth 100000
set_option maxHeartbeats 4000000
namespace K17
open PySem PySem.Spec PyProof.Rows L2
/-- whether a text is a word -/
def isWd (z : Str) : Bool := z.cps.toList.all fun c => decide (c ∈ abc.cps.toList)
def isSg (z : Str) : Bool := isWd z && decide (z.length = 1)
def isMk (z : Str) : Bool := isWd z && decide (1 < z.length ∧ z.length ≤ 8)
def isNm (z : Str) : Bool := isSg z || isMk z
/-- a promise: a text in, a truth value out, the heap grown -/
def spTxt (f : Str → Bool) : Sp := fun vs H Q _ => ∃ z : Str, vs = [.str z] ∧ z.length ≤ 1000 ∧ ∀ H', Same H H' → Q (.bl (f z)) H'
section
variable {P : Program} {w : World} {K : PySem.W.Frag} {mg : Str → Option Value} {base : Heap}
theorem scWord : FnScope ["value", "letter"] ["value"] (defScope (top 14)) := ⟨rfl, rfl, rfl, by decide +kernel, rfl, by decide +kernel, by decide +kernel⟩
theorem d_is_word (T : Tx K mg) : Def P w K mg base CX0 1 "is_word" ["value"] (spTxt isWd) := by
  refine def_of T 0 14 ["value", "letter"] rfl scWord (fun _ _ _ _ _ _ us hl => match us, hl with | [_], _ => rfl) (fun vs H Q E h => ?_) (fun f cdv A outer s H vs Q E hr h => ?_)
  · obtain ⟨z, rfl, _⟩ := h; rfl
  · obtain ⟨z, rfl, hz, k⟩ := h
    obtain ⟨tl, hl⟩ := T.letters
    refine ⟨_, pss_one (ps_ret (pe_and (pB T b_isinstance call_isi (pa_cons (pv 0) (pa1 (pty T "str" b_str))))
      (pe_one (pB T b_all (cr_all rfl) (pa1 (pe_lc (own := [("letter", 1)]) (g := gName 1) (tt := tYes) rfl scWord.nd (pi_str (pv 0)) (blkOk_by (own := [("letter", 1)]) (N := ["value", "letter"]) (sc := defScope (top 14)) (by decide +kernel))
        (fun _ _ _ _ _ => pg_name (i := 1) scWord.nd rfl (Or.inl rfl)) (fun _ _ _ _ _ => pts_nil)
        (fun _ _ _ _ _ => pe_cmpR op_in_sign (pv 1) (pe_glob (v := .str abc) (by rfl) hl ⟨_, rfl⟩) (by rfl)))))))), ?_⟩
    refine ⟨_, rfl, _, _, _, _, true, rfl, .ty _, .base (.str z), kit_ty (by decide +kernel), true, rfl, iteT ?_⟩
    refine ⟨_, rfl, z, rfl, fun D hD => ?_⟩
    refine lc_it walk_str (fun i H1 => Same H H1 ∧ H1 D = some (.lst (((z.cps.toList.take i).map fun c => V.bl (decide (c ∈ abc.cps.toList))))))
      ⟨Same.new hD, upd_same⟩ (fun _ _ _ _ => trivial) (fun i x H1 H2 hi hp y => ?_) (fun H1 hp => ?_)
    · obtain ⟨s1, h1⟩ := hp
      obtain ⟨rfl, c, hc, rfl⟩ := y
      refine ⟨rfl, ?_⟩
      refine ⟨_, rfl, c, abc, rfl, rfl, _, h1, ?_, Same.updN s1 hD, ?_⟩
      · rw [List.length_map, List.length_take]
        have : z.length ≤ 1000 := hz
        exact Nat.lt_of_le_of_lt (Nat.le_trans (Nat.min_le_right _ _) (by rw [Array.length_toList]; exact this)) (by decide)
      · rw [upd_same]
        have e : z.cps.toList[i]? = some c := by rw [Array.getElem?_toList]; exact hc
        rw [take_succ_of e, List.map_append]
        rfl
    · obtain ⟨s1, h1⟩ := hp
      have e : z.cps.toList.take z.cps.size = z.cps.toList := by rw [← Array.length_toList, List.take_length]
      rw [e] at h1
      refine ⟨D, z.cps.toList.map fun c => decide (c ∈ abc.cps.toList), rfl, SqL.of (by rw [h1, List.map_map]; rfl), ?_⟩
      have e2 : ((z.cps.toList.map fun c => decide (c ∈ abc.cps.toList)).all id) = isWd z := by
        unfold isWd
        rw [List.all_map]
        rfl
      rw [e2]
      exact k _ s1
theorem scV : FnScope ["value"] ["value"] (defScope (top 15)) := ⟨rfl, rfl, rfl, by decide +kernel, rfl, by decide +kernel, by decide +kernel⟩
theorem scV2 : FnScope ["value"] ["value"] (defScope (top 16)) := ⟨rfl, rfl, rfl, by decide +kernel, rfl, by decide +kernel, by decide +kernel⟩
theorem scV3 : FnScope ["value"] ["value"] (defScope (top 17)) := ⟨rfl, rfl, rfl, by decide +kernel, rfl, by decide +kernel, by decide +kernel⟩
theorem len_int {z : Str} (n : Nat) : decide (V.int ((z.length : Nat) : Int) = V.int (n : Int)) = decide (z.length = n) := by
  by_cases h : z.length = n
  · rw [decide_eq_true h, decide_eq_true (by rw [h])]
  · rw [decide_eq_false h, decide_eq_false (by simp only [V.int.injEq]; omega)]
theorem line_of {n : Nat} (h : n ≤ 1000) : n ≤ sizeLine := Nat.le_of_lt (small1000 h)
theorem d_is_sign (T : Tx K mg) : Def P w K mg base CX0 2 "is_sign" ["value"] (spTxt isSg) := by
  have W : Def P w K mg base CX0 1 "is_word" ["value"] (spTxt isWd) := d_is_word T
  refine def_of T 1 15 ["value"] rfl scV (fun _ _ _ _ _ _ us hl => match us, hl with | [_], _ => rfl) (fun vs H Q E h => ?_) (fun f cdv A outer s H vs Q E hr h => ?_)
  · obtain ⟨z, rfl, _⟩ := h; rfl
  · obtain ⟨z, rfl, hz, k⟩ := h
    refine ⟨_, pss_one (ps_ret (pe_and (pd0 W hr (pa1 (pv 0))) (pe_one (pe_cmpR op_eq (pB T b_len call_len_str (pa1 (pv 0))) pe_int (nomark _))))), ?_⟩
    refine ⟨_, rfl, z, rfl, hz, fun H1 s1 => ?_⟩
    refine ⟨_, rfl, ?_⟩
    cases hw : isWd z with
    | false =>
      have e : isSg z = false := by unfold isSg; rw [hw]; rfl
      have q := k H1 s1
      rw [e] at q
      exact q
    | true =>
      refine ⟨_, rfl, z, rfl, line_of hz, rfl, ?_⟩
      have e : isSg z = decide (z.length = 1) := by unfold isSg; rw [hw]; rfl
      have q := k H1 s1
      rw [e, ← len_int 1] at q
      exact q
theorem d_is_mark (T : Tx K mg) : Def P w K mg base CX0 2 "is_mark" ["value"] (spTxt isMk) := by
  have W : Def P w K mg base CX0 1 "is_word" ["value"] (spTxt isWd) := d_is_word T
  refine def_of T 2 16 ["value"] rfl scV2 (fun _ _ _ _ _ _ us hl => match us, hl with | [_], _ => rfl) (fun vs H Q E h => ?_) (fun f cdv A outer s H vs Q E hr h => ?_)
  · obtain ⟨z, rfl, _⟩ := h; rfl
  · obtain ⟨z, rfl, hz, k⟩ := h
    obtain ⟨tl, hl⟩ := T.longest
    refine ⟨_, pss_one (ps_ret (pe_and (pd0 W hr (pa1 (pv 0))) (pe_one (pe_chain op_lt op_le pe_int (pB T b_len call_len_str (pa1 (pv 0))) (pe_glob (v := .int 8) (by rfl) hl ⟨_, rfl⟩))))), ?_⟩
    refine ⟨_, rfl, z, rfl, hz, fun H1 s1 => ?_⟩
    refine ⟨_, rfl, ?_⟩
    cases hw : isWd z with
    | false =>
      have e : isMk z = false := by unfold isMk; rw [hw]; rfl
      have q := k H1 s1
      rw [e] at q
      exact q
    | true =>
      refine ⟨_, rfl, z, rfl, line_of hz, _, _, rfl, rfl, _, rfl, ?_⟩
      have e : isMk z = decide (1 < z.length ∧ z.length ≤ 8) := by unfold isMk; rw [hw]; rfl
      have q := k H1 s1
      rw [e] at q
      refine ite2 (fun c => ?_) (fun c => ?_)
      · have c := of_decide_eq_true c
        refine ⟨_, _, rfl, rfl, ?_⟩
        have e2 : decide (1 < z.length ∧ z.length ≤ 8) = decide (((z.length : Nat) : Int) ≤ 8) := by
          by_cases d : z.length ≤ 8
          · rw [decide_eq_true (show 1 < z.length ∧ z.length ≤ 8 from ⟨by omega, d⟩), decide_eq_true (by omega)]
          · rw [decide_eq_false (fun y => d y.2), decide_eq_false (by omega)]
        rw [e2] at q
        exact q
      · have c := of_decide_eq_false (eq_false_of_ne_true c)
        rw [decide_eq_false (fun y => c (by omega))] at q
        exact q
theorem d_is_name (T : Tx K mg) : Def P w K mg base CX0 3 "is_name" ["value"] (spTxt isNm) := by
  have S : Def P w K mg base CX0 2 "is_sign" ["value"] (spTxt isSg) := d_is_sign T
  have M : Def P w K mg base CX0 2 "is_mark" ["value"] (spTxt isMk) := d_is_mark T
  refine def_of T 3 17 ["value"] rfl scV3 (fun _ _ _ _ _ _ us hl => match us, hl with | [_], _ => rfl) (fun vs H Q E h => ?_) (fun f cdv A outer s H vs Q E hr h => ?_)
  · obtain ⟨z, rfl, _⟩ := h; rfl
  · obtain ⟨z, rfl, hz, k⟩ := h
    refine ⟨_, pss_one (ps_ret (pe_or (pd0 S hr (pa1 (pv 0))) (pe_one (pd0 M hr (pa1 (pv 0)))))), ?_⟩
    refine ⟨_, rfl, z, rfl, hz, fun H1 s1 => ?_⟩
    refine ⟨_, rfl, ?_⟩
    cases hw : isSg z with
    | true =>
      have q := k H1 s1
      have e : isNm z = true := by unfold isNm; rw [hw]; rfl
      rw [e] at q
      exact q
    | false =>
      refine ⟨_, rfl, z, rfl, hz, fun H2 s2 => ?_⟩
      have q := k H2 (s1.trans s2)
      have e : isNm z = isMk z := by unfold isNm; rw [hw]; rfl
      rw [e] at q
      exact q
/-- is_below on two ints -/
def spBelow : Sp := fun vs H Q _ => ∃ i n : Int, vs = [.int i, .int n] ∧ Q (.bl (decide (0 ≤ i ∧ i < n))) H
theorem scBelow : FnScope ["value", "limit"] ["value", "limit"] (defScope (top 19)) := ⟨rfl, rfl, rfl, by decide +kernel, rfl, by decide +kernel, by decide +kernel⟩
theorem d_is_below (T : Tx K mg) : Def P w K mg base CX0 1 "is_below" ["value", "limit"] spBelow := by
  refine def_of T 5 19 ["value", "limit"] rfl scBelow (fun _ _ _ _ _ _ us hl => match us, hl with | [_, _], _ => rfl) (fun vs H Q E h => ?_) (fun f cdv A outer s H vs Q E hr h => ?_)
  · obtain ⟨i, n, rfl, _⟩ := h; rfl
  · obtain ⟨i, n, rfl, k⟩ := h
    refine ⟨_, pss_one (ps_ret (pe_and (pB T b_isinstance call_isi (pa_cons (pv 0) (pa1 (pty T "int" b_int))))
      (pe_and (pe_not (pB T b_isinstance call_isi (pa_cons (pv 0) (pa1 (pty T "bool" b_bool))))) (pe_one (pe_chain op_le op_lt pe_int (pv 0) (pv 1)))))), ?_⟩
    refine ⟨_, rfl, _, _, _, _, true, rfl, .ty _, .base (.int i), kit_ty (by decide +kernel), true, rfl, iteT ?_⟩
    refine ⟨_, rfl, _, _, _, _, false, rfl, .ty _, .base (.int i), kit_ty (by decide +kernel), false, rfl, true, rfl, iteT ?_⟩
    refine ⟨_, rfl, _, _, rfl, rfl, _, rfl, ?_⟩
    refine ite2 (fun c => ?_) (fun c => ?_)
    · have c := of_decide_eq_true c
      refine ⟨_, rfl, _, _, rfl, rfl, ?_⟩
      have e2 : decide (0 ≤ i ∧ i < n) = decide (i < n) := by
        by_cases d : i < n
        · rw [decide_eq_true (show 0 ≤ i ∧ i < n from ⟨c, d⟩), decide_eq_true d]
        · rw [decide_eq_false (fun y => d y.2), decide_eq_false d]
      rw [e2] at k
      exact k
    · have c := of_decide_eq_false (eq_false_of_ne_true c)
      rw [decide_eq_false (fun y => c y.1)] at k
      exact k
end
end K17
end TD1
section TF
set_option Elab.async false
set_option linter.all false
set_option maxRecDepth 100000
set_option maxHeartbeats 4000000
/-! How readers and models lie in the heap; things made read-only. -/
namespace K17
open PySem PySem.Spec PyProof.Rows L2
/-! ### things frozen from here on -/
/-- the things at L are locked for good; then k -/
def FrzTo : List Addr → Hp → (Hp → Prop) → Prop
  | [], H, k => k H
  | a :: L, H, k => ∃ u, H a = some u ∧ Mut (some u) ∧ ∀ od, FrzTo L (upd H a (.frz od u)) k
theorem frzTo_inv {X : Cx} {pins : List (Addr × Obj)} {σ : L2.St} {s : Shared} : ∀ {L : List Addr} {H : Hp} {k : Hp → Prop}, Inv X pins σ H s → FrzTo L H k → ∃ H', Inv X pins σ H' s ∧ k H'
  | [], H, k, I, h => ⟨H, I, h⟩
  | a :: L, H, k, I, h => by
    obtain ⟨u, e, mu, h⟩ := h
    obtain ⟨od, I'⟩ := I.lock e mu
    exact frzTo_inv I' (h od)
def tFrz (t : TS) : TS := fun D σ H => t ⟨fun σ' H' => ∃ L, FrzTo L H' (D.nx σ'), fun v H' => ∃ L, FrzTo L H' (D.rt v), fun σ' H' => ∃ L, FrzTo L H' (D.bk σ'), fun σ' H' => ∃ L, FrzTo L H' (D.ct σ')⟩ σ H
theorem ps_frz {X : Cx} {st : Stmt} {t : TS} (h : PS X st t) : PS X st (tFrz t) := by
  refine ⟨fun pins s σ H D I hw => thn (h.run pins s σ H _ I hw) fun f s' q => ?_⟩
  cases f with
  | next =>
    obtain ⟨σ', H', I', L, q⟩ := q
    obtain ⟨H2, I2, q⟩ := frzTo_inv I' q
    exact ⟨σ', H2, I2, q⟩
  | brk =>
    obtain ⟨σ', H', I', L, q⟩ := q
    obtain ⟨H2, I2, q⟩ := frzTo_inv I' q
    exact ⟨σ', H2, I2, q⟩
  | cont =>
    obtain ⟨σ', H', I', L, q⟩ := q
    obtain ⟨H2, I2, q⟩ := frzTo_inv I' q
    exact ⟨σ', H2, I2, q⟩
  | ret u =>
    obtain ⟨v, σ', H', I', r, L, q⟩ := q
    obtain ⟨H2, I2, q⟩ := frzTo_inv I' q
    exact ⟨v, σ', H2, I2, r, q⟩
def tFrzE (t : TE) : TE := fun σ H Q => t σ H fun v H' => ∃ L, FrzTo L H' (Q v)
theorem pe_frz {X : Cx} {e : Expr} {t : TE} (h : PE X e t) : PE X e (tFrzE t) := by
  refine ⟨fun pins s σ H Q I hw => thn (h.run pins s σ H _ I hw) fun u s' ⟨v, H', I', r, L, q⟩ => ?_⟩
  obtain ⟨H2, I2, q⟩ := frzTo_inv I' q
  exact ⟨v, H2, I2, r, q⟩
/-- a list of things frozen: all else stands, each is frozen -/
theorem frzTo_all : ∀ (L : List Addr) (H : Hp) (k : Hp → Prop), L.Nodup → (∀ a ∈ L, ∃ u, H a = some u ∧ Mut (some u)) →
    (∀ H', (∀ b, b ∉ L → H' b = H b) → (∀ a ∈ L, ∀ u, H a = some u → ∃ od, H' a = some (.frz od u)) → k H') → FrzTo L H k
  | [], H, k, _, _, h => h H (fun _ _ => rfl) fun a ha => nomatch ha
  | a :: L, H, k, nd, hm, h => by
    obtain ⟨na, nd⟩ := List.nodup_cons.mp nd
    obtain ⟨u, e, mu⟩ := hm a List.mem_cons_self
    refine ⟨u, e, mu, fun od => ?_⟩
    refine frzTo_all L _ k nd (fun b hb => ?_) fun H' h1 h2 => h H' (fun b hb => ?_) fun b hb v ev => ?_
    · have hba : b ≠ a := fun z => na (z ▸ hb)
      rw [upd_ne hba]
      exact hm b (List.mem_cons_of_mem _ hb)
    · rw [h1 b (fun z => hb (List.mem_cons_of_mem _ z)), upd_ne (fun z => hb (by rw [z]; exact List.mem_cons_self))]
    · rcases List.mem_cons.mp hb with z | z
      · subst z
        rw [e] at ev
        cases ev
        exact ⟨od, by rw [h1 _ na, upd_same]⟩
      · have hba : b ≠ a := fun y => na (y ▸ z)
        exact h2 b z v (by rw [upd_ne hba]; exact ev)
/-! ### texts of signs -/
/-- the text of these codes -/
def S (w : Wd) : Str := ⟨w.toArray⟩
/-- one sign -/
abbrev sg (c : Nat) : Str := ⟨#[c]⟩
theorem S_one (c : Nat) : S [c] = sg c := rfl
theorem S_list (w : Wd) : (S w).cps.toList = w := by simp [S]
theorem S_of (z : Str) : S z.cps.toList = z := by simp [S]
theorem S_len (w : Wd) : (S w).length = w.length := by simp [S, Str.length]
theorem S_inj {u v : Wd} (h : S u = S v) : u = v := by rw [← S_list u, ← S_list v, h]
theorem S_app (u v : Wd) : S u ++ S v = S (u ++ v) := by
  show (⟨u.toArray ++ v.toArray⟩ : Str) = ⟨(u ++ v).toArray⟩
  simp
theorem S_nil : S [] = ("" : Str) := rfl
theorem sg_inj {c d : Nat} (h : sg c = sg d) : c = d := by
  have := S_inj (u := [c]) (v := [d]) h
  simpa using this
/-! ### moves, rows, models, readers -/
abbrev M := Rdr Str
def toldV : Option Str → V
  | none => .non
  | some x => .str x
theorem toldV_inj : ∀ {a b : Option Str}, toldV a = toldV b → a = b
  | none, none, _ => rfl
  | none, some _, h => nomatch h
  | some _, none, h => nomatch h
  | some x, some y, h => by cases h; rfl
def MoveAt (H : Hp) (m : Addr) (e : Nat × Option Str) : Prop := H m = some (.tup [.int (e.1 : Int), toldV e.2])
/-- the entries of a row's dict -/
def KRow (H : Hp) (kvs : List (Key × V)) (r : Row Str) : Prop := Paired (fun (kv : Key × V) (e : Nat × Nat × Option Str) => kv.1 = Sum.inr (sg e.1) ∧ ∃ m, kv.2 = .ref m ∧ MoveAt H m e.2) kvs r
def RowAt (H : Hp) (d : Addr) (r : Row Str) : Prop := ∃ o kvs, H d = some (.frz o (.dK kvs)) ∧ KRow H kvs r
abbrev RowsAt (H : Hp) (ds : List Addr) (rs : List (Row Str)) : Prop := Paired (RowAt H) ds rs
structure ModelAt (H : Hp) (m : Addr) (R : M) : Prop where
  ex : ∃ (rl sl : Addr) (ds : List Addr) (o1 o2 : Obj), H m = some (.tup [.ref rl, .ref sl, .int (R.start : Int)]) ∧ H rl = some (.frz o1 (.lst (ds.map V.ref))) ∧ H sl = some (.frz o2 (.lst (R.ends.map fun n : Nat => V.int (n : Int)))) ∧ RowsAt H ds R.rows
def rfields (rt et : Addr) (st : Nat) : List (Str × V) := [("rows", .ref rt), ("end_list", .ref et), ("own_start", .int (st : Int))]
structure ReaderAt (C : Addr) (H : Hp) (r : Addr) (R : M) : Prop where
  ex : ∃ (dx rt et : Addr) (ds : List Addr), H r = some (.ins C dx (rfields rt et R.start)) ∧ H rt = some (.tup (ds.map V.ref)) ∧ H et = some (.tup (R.ends.map fun n : Nat => V.int (n : Int))) ∧ RowsAt H ds R.rows
theorem KRow.same {H H' : Hp} (s : Same H H') {kvs : List (Key × V)} {r : Row Str} (k : KRow H kvs r) : KRow H' kvs r := Paired.mapP k fun _ _ ⟨a, m, b, c⟩ => ⟨a, m, b, s _ _ c⟩
theorem RowAt.same {H H' : Hp} (s : Same H H') {d : Addr} {r : Row Str} (k : RowAt H d r) : RowAt H' d r := by
  obtain ⟨o, kvs, a, b⟩ := k
  exact ⟨o, kvs, s _ _ a, b.same s⟩
theorem RowsAt.same {H H' : Hp} (s : Same H H') {ds : List Addr} {rs : List (Row Str)} (k : RowsAt H ds rs) : RowsAt H' ds rs := Paired.mapP k fun _ _ z => z.same s
theorem ModelAt.same {H H' : Hp} (s : Same H H') {m : Addr} {R : M} (k : ModelAt H m R) : ModelAt H' m R := by
  obtain ⟨rl, sl, ds, o1, o2, a, b, c, d⟩ := k.ex
  exact ⟨rl, sl, ds, o1, o2, s _ _ a, s _ _ b, s _ _ c, RowsAt.same s d⟩
theorem ReaderAt.same {C : Addr} {H H' : Hp} (s : Same H H') {r : Addr} {R : M} (k : ReaderAt C H r R) : ReaderAt C H' r R := by
  obtain ⟨dx, rt, et, ds, a, b, c, d⟩ := k.ex
  exact ⟨dx, rt, et, ds, s _ _ a, s _ _ b, s _ _ c, RowsAt.same s d⟩
theorem Paired.get1 {α β : Type} {F : α → β → Prop} : ∀ {l : List α} {k : List β} {i : Nat} {x : α}, Paired F l k → l[i]? = some x → ∃ y, k[i]? = some y ∧ F x y
  | _, _, _, _, .nil, e => by simp at e
  | _, _, 0, _, .cons r _, e => by simp at e; subst e; exact ⟨_, rfl, r⟩
  | _, _, i + 1, x, .cons _ t, e => by
    obtain ⟨y, a, b⟩ := Paired.get1 (i := i) t (by simpa using e)
    exact ⟨y, by simpa using a, b⟩
theorem Paired.get2 {α β : Type} {F : α → β → Prop} : ∀ {l : List α} {k : List β} {i : Nat} {y : β}, Paired F l k → k[i]? = some y → ∃ x, l[i]? = some x ∧ F x y
  | _, _, _, _, .nil, e => by simp at e
  | _, _, 0, _, .cons r _, e => by simp at e; subst e; exact ⟨_, rfl, r⟩
  | _, _, i + 1, y, .cons _ t, e => by
    obtain ⟨x, a, b⟩ := Paired.get2 (i := i) t (by simpa using e)
    exact ⟨x, by simpa using a, b⟩
theorem Paired.len {α β : Type} {F : α → β → Prop} : ∀ {l : List α} {k : List β}, Paired F l k → l.length = k.length
  | _, _, .nil => rfl
  | _, _, .cons _ t => by rw [List.length_cons, List.length_cons, Paired.len t]
theorem Paired.app {α β : Type} {F : α → β → Prop} : ∀ {l l' : List α} {k k' : List β}, Paired F l k → Paired F l' k' → Paired F (l ++ l') (k ++ k')
  | _, _, _, _, .nil, s => s
  | _, _, _, _, .cons r t, s => .cons r (Paired.app t s)
/-- what a row's dict says of a sign -/
theorem KRow.val {H : Hp} : ∀ {kvs : List (Key × V)} {r : Row Str} (c : Nat), KRow H kvs r → (r.lookup c = none ∧ valV kvs (Sum.inr (sg c) : Key) = none) ∨ ∃ e m, r.lookup c = some e ∧ valV kvs (Sum.inr (sg c) : Key) = some (.ref m) ∧ MoveAt H m e
  | _, _, c, .nil => .inl ⟨rfl, rfl⟩
  | kv :: kvs, (d, e) :: r, c, .cons h t => by
    obtain ⟨hk, m, hv, hm⟩ := h
    have hk : kv.1 = Sum.inr (sg d) := hk
    by_cases hc : c = d
    · subst hc
      refine .inr ⟨e, m, by simp [List.lookup], ?_, hm⟩
      rw [valV_pos hk, hv]
    · have hb : (c == d) = false := by simpa using hc
      have hne : ¬ kv.1 = (Sum.inr (sg c) : Key) := fun z => hc (sg_inj (Sum.inr.inj (hk.symm.trans z))).symm
      rw [List.lookup_cons, hb, valV_neg hne]
      exact KRow.val c t
/-! ### walks of a row's dict -/
theorem row_items {H0 : Hp} {d : Addr} {o : Obj} {kvs : List (Key × V)} {r : Row Str} (hk : KRow H0 kvs r) : Walk (Iti d o kvs) r.length (fun H => H d = some (.frz o (.dK kvs)))
    (fun i H x H' => ∃ T e m, r[i]? = some e ∧ x = .ref T ∧ H T = none ∧ H' = upd H T (.tup [.str (sg e.1), .ref m]) ∧ MoveAt H0 m e.2) := by
  have hl : kvs.length = r.length := Paired.len hk
  refine ⟨fun i H hi q => ⟨q, by omega⟩, fun _ q => ⟨q, by omega⟩, fun i H x H' hi _ y => ?_⟩
  obtain ⟨T, k, v, h1, h2, h3, h4⟩ := y
  obtain ⟨e, he, hkey, m, hv, hm⟩ := Paired.get1 hk h1
  have hkey : k = Sum.inr (sg e.1) := hkey
  have hv : v = .ref m := hv
  subst hkey hv
  exact ⟨T, e, m, he, h2, h3, h4, hm⟩
theorem row_vals {H0 : Hp} {d : Addr} {o : Obj} {kvs : List (Key × V)} {r : Row Str} (hk : KRow H0 kvs r) : Walk (Itd d o kvs) r.length (fun H => H d = some (.frz o (.dK kvs)))
    (fun i H x H' => H' = H ∧ ∃ e m, r[i]? = some e ∧ x = .ref m ∧ MoveAt H0 m e.2) := by
  have hl : kvs.length = r.length := Paired.len hk
  refine ⟨fun i H hi q => ⟨q, by omega⟩, fun _ q => ⟨q, by omega⟩, fun i H x H' hi _ y => ?_⟩
  obtain ⟨h0, k, h1⟩ := y
  obtain ⟨e, he, hkey, m, hv, hm⟩ := Paired.get1 hk h1
  have hv : x = .ref m := hv
  exact ⟨h0, e, m, he, hv, hm⟩
theorem row_keys' {H0 : Hp} {d : Addr} {o : Obj} {kvs : List (Key × V)} {r : Row Str} (hk : KRow H0 kvs r) : Walk (Itk d o kvs) r.length (fun H => H d = some (.frz o (.dK kvs)))
    (fun i H x H' => H' = H ∧ ∃ e, r[i]? = some e ∧ x = .str (sg e.1)) := by
  have hl : kvs.length = r.length := Paired.len hk
  refine ⟨fun i H hi q => ⟨q, by omega⟩, fun _ q => ⟨q, by omega⟩, fun i H x H' hi _ y => ?_⟩
  obtain ⟨h0, k, v, h1, h2⟩ := y
  obtain ⟨e, he, hkey, m, hv, hm⟩ := Paired.get1 hk h1
  have hkey : k = Sum.inr (sg e.1) := hkey
  subst hkey
  exact ⟨h0, e, he, h2⟩
end K17
end TF
section TD2
set_option Elab.async false
set_option linter.all false
set_option maxRecDepth 100000
set_option maxHeartbeats 4000000
namespace K17
open PySem PySem.Spec PyProof.Rows L2
theorem nm_len {z : Str} (h : isNm z = true) : z.length ≤ 8 := by
  unfold isNm isSg isMk at h
  rw [Bool.or_eq_true, Bool.and_eq_true, Bool.and_eq_true] at h
  rcases h with ⟨_, h⟩ | ⟨_, h⟩
  · have := of_decide_eq_true h; omega
  · exact (of_decide_eq_true h).2
theorem nm_small {z : Str} (h : isNm z = true) : z.length ≤ 1000 := Nat.le_trans (nm_len h) (by decide)
/-- what a move may tell -/
def TokOk (t : Option Str) : Prop := ∀ x, t = some x → isNm x = true
def RowOk (n : Nat) (r : Row Str) : Prop := ∀ e ∈ r, isSg (sg e.1) = true ∧ e.2.1 < n ∧ TokOk e.2.2
theorem tyx_list {K : PySem.W.Frag} {H : Hp} {a : Addr} {xs : List V} (h : Rd H a (.lst xs)) : TyX K H (.ref a) (.type "list") := by
  rcases h with h | ⟨o, h⟩
  · exact .base (.lst h)
  · exact .base (.frz h)
theorem kit_lt_list {K : PySem.W.Frag} : PySem.W.kitAny K (.type "list") [.type "list", .type "tuple"] = some true :=
  kitAny_cons (kit_ty (b := "list") (r := true) (by decide +kernel)) (fun z => by cases z) (fun _ => rfl)
section
variable {P : Program} {w : World} {K : PySem.W.Frag} {mg : Str → Option Value} {base : Heap}
/-- is_row -/
def spRow : Sp := fun vs H Q _ => ∃ (a : Addr) (row : List Str), vs = [.ref a] ∧ H a = some (.tup (row.map V.str)) ∧ (∀ x ∈ row, isNm x = true) ∧ row.length ≤ 1000 ∧ ∀ H', Same H H' → Q (.bl true) H'
theorem scRow : FnScope ["value", "one"] ["value"] (defScope (top 18)) := ⟨rfl, rfl, rfl, by decide +kernel, rfl, by decide +kernel, by decide +kernel⟩
theorem d_is_row (T : Tx K mg) : Def P w K mg base CX0 4 "is_row" ["value"] spRow := by
  have N : Def P w K mg base CX0 3 "is_name" ["value"] (spTxt isNm) := d_is_name T
  refine def_of T 4 18 ["value", "one"] rfl scRow (fun _ _ _ _ _ _ us hl => match us, hl with | [_], _ => rfl) (fun vs H Q E h => ?_) (fun f cdv A outer s H vs Q E hr h => ?_)
  · obtain ⟨a, row, rfl, _⟩ := h; rfl
  · obtain ⟨a, row, rfl, ha, hall, hl, k⟩ := h
    refine ⟨_, pss_one (ps_ret (pe_and (pB T b_isinstance call_isi (pa_cons (pv 0) (pa1 (pty T "tuple" b_tuple))))
      (pe_one (pB T b_all (cr_all rfl) (pa1 (pe_lc (own := [("one", 1)]) (g := gName 1) (tt := tYes) rfl scRow.nd (pi_tup (pv 0)) (blkOk_by (own := [("one", 1)]) (N := ["value", "one"]) (sc := defScope (top 18)) (by decide +kernel))
        (fun _ _ _ _ _ => pg_name (i := 1) scRow.nd rfl (Or.inl rfl)) (fun _ _ _ _ _ => pts_nil)
        (fun _ _ _ _ _ => pd0 N hr (pa1 (pv 1))))))))), ?_⟩
    refine ⟨_, rfl, _, _, _, _, true, rfl, .ty _, .base (.tup ha), kit_ty (by decide +kernel), true, rfl, iteT ?_⟩
    refine ⟨_, rfl, a, rfl, ⟨_, SqT.of ha⟩, fun D hD => ?_⟩
    refine lc_it (walk_tup (xs := row.map V.str)) (fun i H1 => Same H H1 ∧ H1 D = some (.lst (List.replicate i (V.bl true))))
      ⟨Same.new hD, upd_same⟩ (fun i H1 _ hp => SqT.of (hp.1 _ _ ha)) (fun i x H1 H2 hi hp y => ?_) (fun H1 hp => ?_)
    · obtain ⟨s1, h1⟩ := hp
      obtain ⟨rfl, hx⟩ := y
      rw [List.getElem?_map] at hx
      cases hz : row[i]? with
      | none => rw [hz] at hx; cases hx
      | some z =>
        rw [hz] at hx
        cases hx
        have hzn := hall z (List.mem_of_getElem? hz)
        refine ⟨rfl, ?_⟩
        refine ⟨_, rfl, z, rfl, nm_small hzn, fun H3 s3 => ?_⟩
        have h3 : H3 D = some (.lst (List.replicate i (V.bl true))) := s3 _ _ h1
        refine ⟨_, h3, ?_, Same.updN (s1.trans s3) hD, ?_⟩
        · rw [List.length_replicate]
          rw [List.length_map] at hi
          exact Nat.lt_of_lt_of_le hi (line_of hl)
        · rw [upd_same, hzn, List.replicate_succ']
    · obtain ⟨s1, h1⟩ := hp
      rw [List.length_map] at h1
      refine ⟨D, List.replicate row.length true, rfl, SqL.of (by rw [h1, List.map_replicate]), ?_⟩
      have e2 : ((List.replicate row.length true).all id) = true := by
        rw [List.all_replicate]
        simp
      rw [e2]
      exact k _ s1
/-- is_move -/
def spMove : Sp := fun vs H Q _ => ∃ (m : Addr) (e : Nat × Option Str) (n : Nat), vs = [.ref m, .int (n : Int)] ∧ MoveAt H m e ∧ e.1 < n ∧ TokOk e.2 ∧ ∀ H', Same H H' → Q (.bl true) H'
theorem scMove : FnScope ["value", "many"] ["value", "many"] (defScope (top 21)) := ⟨rfl, rfl, rfl, by decide +kernel, rfl, by decide +kernel, by decide +kernel⟩
theorem d_is_move (T : Tx K mg) : Def P w K mg base CX0 4 "is_move" ["value", "many"] spMove := by
  have N : Def P w K mg base CX0 3 "is_name" ["value"] (spTxt isNm) := d_is_name T
  have B : Def P w K mg base CX0 1 "is_below" ["value", "limit"] spBelow := d_is_below T
  refine def_of T 7 21 ["value", "many"] rfl scMove (fun _ _ _ _ _ _ us hl => match us, hl with | [_, _], _ => rfl) (fun vs H Q E h => ?_) (fun f cdv A outer s H vs Q E hr h => ?_)
  · obtain ⟨m, e, n, rfl, _⟩ := h; rfl
  · obtain ⟨m, e, n, rfl, hm, hlt, ht, k⟩ := h
    refine ⟨_, pss_cons (ps_if (PW.pt (pw_or (pt_not (pt_val (pB T b_isinstance call_isi (pa_cons (pv 0) (pa1 (pty T "tuple" b_tuple))))))
        (pw_or (pt_cmpR op_ne (pB T b_len call_len_seq (pa1 (pv 0))) pe_int (nomark _)) (pw_or1 (pt_not (pt_val (pd0 B hr (pa_cons (pe_ix ix_tup (pv 0) pe_int (fun _ _ => rfl)) (pa1 (pv 1))))))))))
        (pss_one (ps_ret pe_bl)) pss_nil)
      (pss_one (ps_ret (pe_or (pe_cmpR op_isN (pe_ix ix_tup (pv 0) pe_int (fun _ _ => rfl)) pe_non (nomark _)) (pe_one (pd0 N hr (pa1 (pe_ix ix_tup (pv 0) pe_int (fun _ _ => rfl)))))))), ?_⟩
    have hm : H m = some (.tup [.int (e.1 : Int), toldV e.2]) := hm
    refine ⟨_, rfl, _, _, _, _, true, rfl, .ty _, .base (.tup hm), kit_ty (by decide +kernel), true, rfl, iteF ?_⟩
    refine ⟨_, rfl, m, _, rfl, .inr (SqT.of hm), rfl, _, rfl, iteF ?_⟩
    refine ⟨_, rfl, m, _, 0, _, rfl, rfl, SqT.of hm, atI_nat (j := 0) rfl, _, rfl, _, _, rfl, ?_⟩
    have hb : decide ((0 : Int) ≤ (e.1 : Int) ∧ (e.1 : Int) < (n : Int)) = true := decide_eq_true ⟨Int.natCast_nonneg _, by omega⟩
    rw [hb]
    refine ⟨true, rfl, iteF ?_⟩
    refine ⟨_, rfl, m, _, 1, _, rfl, rfl, SqT.of hm, atI_nat (j := 1) rfl, rfl, ?_⟩
    obtain ⟨g, t⟩ := e
    cases t with
    | none => exact ⟨true, rfl, iteT (k H (Same.refl H))⟩
    | some x =>
      refine ⟨false, rfl, iteF ?_⟩
      have hx := ht x rfl
      refine ⟨_, rfl, m, _, 1, _, rfl, rfl, SqT.of hm, atI_nat (j := 1) rfl, x, rfl, nm_small hx, fun H1 s1 => ?_⟩
      rw [hx]
      exact k H1 s1
/-- is_state_dict -/
def spState : Sp := fun vs H Q _ => ∃ (d : Addr) (r : Row Str) (n : Nat), vs = [.ref d, .int (n : Int)] ∧ RowAt H d r ∧ RowOk n r ∧ r.length ≤ 1000 ∧ ∀ H', Same H H' → Q (.bl true) H'
theorem scState : FnScope ["value", "many", "sign", "move"] ["value", "many"] (defScope (top 22)) := ⟨rfl, rfl, rfl, by decide +kernel, rfl, by decide +kernel, by decide +kernel⟩
theorem d_is_state (T : Tx K mg) : Def P w K mg base CX0 5 "is_state_dict" ["value", "many"] spState := by
  have Sg : Def P w K mg base CX0 2 "is_sign" ["value"] (spTxt isSg) := d_is_sign T
  have Mv : Def P w K mg base CX0 4 "is_move" ["value", "many"] spMove := d_is_move T
  refine def_of T 8 22 ["value", "many", "sign", "move"] rfl scState (fun _ _ _ _ _ _ us hl => match us, hl with | [_, _], _ => rfl) (fun vs H Q E h => ?_) (fun f cdv A outer s H vs Q E hr h => ?_)
  · obtain ⟨d, r, n, rfl, _⟩ := h; rfl
  · obtain ⟨d, r, n, rfl, hd, hok, hl, k⟩ := h
    obtain ⟨o, kvs, hd, hk⟩ := hd
    have hlen : kvs.length = r.length := Paired.len hk
    refine ⟨_, pss_one (ps_ret (pe_and (pB T b_isinstance call_isi (pa_cons (pv 0) (pa1 (pty T "dict" b_dict))))
      (pe_one (pB T b_all (cr_all rfl) (pa1 (pe_lc (own := [("sign", 2), ("move", 3)]) (g := gTup K 2 (gCons (gName 2) (gCons (gName 3) gNil))) (tt := tYes) rfl scState.nd (pi_items (pv 0)) (blkOk_by (own := [("sign", 2), ("move", 3)]) (N := ["value", "many", "sign", "move"]) (sc := defScope (top 22)) (by decide +kernel))
        (fun _ _ _ _ _ => pg_tup rfl (pgs_cons (pg_name (i := 2) scState.nd rfl (Or.inl rfl)) (pgs_cons (pg_name (i := 3) scState.nd rfl (Or.inl rfl)) pgs_nil))) (fun _ _ _ _ _ => pts_nil)
        (fun _ _ _ _ _ => pe_and (pd0 Sg hr (pa1 (pv 2))) (pe_one (pd0 Mv hr (pa_cons (pv 3) (pa1 (pv 1)))))))))))), ?_⟩
    refine ⟨_, rfl, _, _, _, _, true, rfl, .ty _, .fDict hd, kit_ty (by decide +kernel), true, rfl, iteT ?_⟩
    refine ⟨_, rfl, d, o, kvs, rfl, hd, fun D hD => ?_⟩
    refine lc_it (row_items hk) (fun i H1 => Same H H1 ∧ H1 D = some (.lst (List.replicate i (V.bl true))))
      ⟨Same.new hD, upd_same⟩ (fun i H1 _ hp => hp.1 _ _ hd) (fun i x H1 H2 hi hp y => ?_) (fun H1 hp => ?_)
    · obtain ⟨s1, h1⟩ := hp
      obtain ⟨t, en, m, hen, rfl, ht, rfl, hm⟩ := y
      obtain ⟨ok1, ok2, ok3⟩ := hok en (List.mem_of_getElem? hen)
      have s2 : Same H1 (upd H1 t (.tup [.str (sg en.1), .ref m])) := Same.new ht
      refine ⟨t, _, rfl, SqT.of upd_same, rfl, _, _, rfl, _, _, rfl, rfl, rfl, ?_⟩
      refine ⟨_, rfl, sg en.1, rfl, by show 1 ≤ 1000; decide, fun H3 s3 => ?_⟩
      rw [ok1]
      refine ⟨true, rfl, iteT ?_⟩
      have sA : Same H H3 := s1.trans (s2.trans s3)
      refine ⟨_, rfl, _, rfl, m, en.2, n, rfl, sA _ _ hm, ok2, ok3, fun H4 s4 => ?_⟩
      have h4 : H4 D = some (.lst (List.replicate i (V.bl true))) := s4 _ _ (s3 _ _ (s2 _ _ h1))
      refine ⟨_, h4, ?_, Same.updN (sA.trans s4) hD, ?_⟩
      · rw [List.length_replicate]
        exact Nat.lt_of_lt_of_le hi (line_of hl)
      · rw [upd_same, List.replicate_succ']
    · obtain ⟨s1, h1⟩ := hp
      refine ⟨D, List.replicate r.length true, rfl, SqL.of (by rw [h1, List.map_replicate]), ?_⟩
      have e2 : ((List.replicate r.length true).all id) = true := by
        rw [List.all_replicate]
        simp
      rw [e2]
      exact k _ s1
/-- are_different -/
def spDiff : Sp := fun vs H Q _ => ∃ (a : Addr) (ns : List Nat) (n : Nat), vs = [.ref a, .int (n : Int)] ∧ Rd H a (.lst (ns.map fun i : Nat => V.int (i : Int))) ∧ ns.Nodup ∧ (∀ i ∈ ns, i < n) ∧ ns.length < 64 ∧ ∀ H', Same H H' → Q (.bl true) H'
theorem scDiff : FnScope ["value", "limit", "one"] ["value", "limit"] (defScope (top 20)) := ⟨rfl, rfl, rfl, by decide +kernel, rfl, by decide +kernel, by decide +kernel⟩
theorem d_are_diff (T : Tx K mg) : Def P w K mg base CX0 2 "are_different" ["value", "limit"] spDiff := by
  have B : Def P w K mg base CX0 1 "is_below" ["value", "limit"] spBelow := d_is_below T
  refine def_of T 6 20 ["value", "limit", "one"] rfl scDiff (fun _ _ _ _ _ _ us hl => match us, hl with | [_, _], _ => rfl) (fun vs H Q E h => ?_) (fun f cdv A outer s H vs Q E hr h => ?_)
  · obtain ⟨a, ns, n, rfl, _⟩ := h; rfl
  · obtain ⟨a, ns, n, rfl, ha, nd, hlt, hl, k⟩ := h
    refine ⟨_, pss_cons (ps_if (PW.pt (pw_or (pt_not (pt_val (pB T b_isinstance call_isiT (pa_cons (pv 0) (pa1 (pe_tup (pa_cons (pty T "list" b_list) (pa1 (pty T "tuple" b_tuple)))))))))
        (pw_or1 (pt_not (pt_val (pB T b_all (cr_all rfl) (pa1 (pe_lc (own := [("one", 2)]) (g := gName 2) (tt := tYes) rfl scDiff.nd (pi_list (pv 0)) (blkOk_by (own := [("one", 2)]) (N := ["value", "limit", "one"]) (sc := defScope (top 20)) (by decide +kernel))
        (fun _ _ _ _ _ => pg_name (i := 2) scDiff.nd rfl (Or.inl rfl)) (fun _ _ _ _ _ => pts_nil)
        (fun _ _ _ _ _ => pd0 B hr (pa_cons (pv 2) (pa1 (pv 1)))))))))))) (pss_one (ps_ret pe_bl)) pss_nil)
      (pss_one (ps_ret (pe_cmpR op_eq (pe_lenSetI rfl rfl (T.f "len") rfl (T.f "set") (pv 0)) (pB T b_len call_len_seq (pa1 (pv 0))) (nomark _)))), ?_⟩
    refine ⟨_, rfl, by show 2 ≤ sizeLine; decide, fun tp htp => ?_⟩
    have s0 : Same H (upd H tp (.tup [.ty "list", .ty "tuple"])) := Same.new htp
    refine ⟨_, tp, _, _, _, true, rfl, upd_same, .cons (.ty _) (.cons (.ty _) .nil), tyx_list (Same.rd s0 ha), kit_lt_list, true, rfl, iteF ?_⟩
    refine ⟨_, rfl, a, rfl, ⟨_, .inl (Same.rd s0 ha)⟩, fun D hD => ?_⟩
    have hD0 : H D = none := Same.free s0 hD
    refine lc_it (walk_list (xs := ns.map fun i : Nat => V.int (i : Int))) (fun i H1 => Same H H1 ∧ H1 D = some (.lst (List.replicate i (V.bl true))))
      ⟨Same.updN s0 hD0, upd_same⟩ (fun i H1 _ hp => .inl (Same.rd hp.1 ha)) (fun i x H1 H2 hi hp y => ?_) (fun H1 hp => ?_)
    · obtain ⟨s1, h1⟩ := hp
      obtain ⟨rfl, hx⟩ := y
      rw [List.getElem?_map] at hx
      cases hz : ns[i]? with
      | none => rw [hz] at hx; cases hx
      | some z =>
        rw [hz] at hx
        cases hx
        have hzn := hlt z (List.mem_of_getElem? hz)
        refine ⟨rfl, ?_⟩
        refine ⟨_, rfl, _, rfl, _, _, rfl, ?_⟩
        have hb : decide ((0 : Int) ≤ (z : Int) ∧ (z : Int) < (n : Int)) = true := decide_eq_true ⟨Int.natCast_nonneg _, by omega⟩
        rw [hb]
        refine ⟨_, h1, ?_, Same.updN s1 hD0, ?_⟩
        · rw [List.length_replicate]
          rw [List.length_map] at hi
          exact Nat.lt_of_lt_of_le hi (line_of (by omega))
        · rw [upd_same, List.replicate_succ']
    · obtain ⟨s1, h1⟩ := hp
      rw [List.length_map] at h1
      refine ⟨D, List.replicate ns.length true, rfl, SqL.of (by rw [h1, List.map_replicate]), ?_⟩
      have e2 : ((List.replicate ns.length true).all id) = true := by
        rw [List.all_replicate]
        simp
      rw [e2]
      refine ⟨true, rfl, iteF ?_⟩
      have e3 : (ns.map fun i : Nat => V.int (i : Int)) = (ns.map fun i : Nat => (i : Int)).map V.int := by rw [List.map_map]; rfl
      refine ⟨_, rfl, a, ns.map fun i : Nat => (i : Int), rfl, .inl (by rw [← e3]; exact Same.rd s1 ha), by rw [List.length_map]; exact hl, ?_, ?_⟩
      · rw [List.nodup_iff_pairwise_ne, List.pairwise_map]
        rw [List.nodup_iff_pairwise_ne] at nd
        exact nd.imp fun h e => h (Int.ofNat.inj e)
      · refine ⟨_, rfl, a, _, rfl, .inl (.inl (Same.rd s1 ha)), rfl, ?_⟩
        have e4 : decide (V.int (((ns.map fun i : Nat => (i : Int)).length : Nat) : Int) = V.int (((ns.map fun i : Nat => V.int (i : Int)).length : Nat) : Int)) = true := by
          rw [List.length_map, List.length_map]
          exact decide_eq_true rfl
        rw [e4]
        exact k _ s1
end
end K17
end TD2
section TS
set_option Elab.async false
set_option linter.all false
set_option maxRecDepth 100000
set_option maxHeartbeats 4000000
/-! Sets of keys (whole numbers, texts) made of a list; sorted of them. Turned from the layer's proofs for sets of ints. -/
namespace K17
open PySem PySem.Spec PyProof.Rows L2
instance keyMem (k : Key) (l : List Key) : Decidable (k ∈ l) := @List.instDecidableMemOfLawfulBEq Key instBEqOfDecidableEq inferInstance k l
def keyE (e : Int × Value) : Key := match e.2 with
  | .int i _ => .inl i
  | .str x _ => .inr x
  | _ => .inl 0
def GoodK (w : World) (e : Int × Value) : Prop := ∃ k : Key, keyIs k e.2 = true ∧ e.1 = keyH w k
theorem keyE_of {h : Int} {k : Key} {v : Value} (e : keyIs k v = true) : keyE (h, v) = k := by
  rcases keyIs_shape e with ⟨i, t, rfl, rfl⟩ | ⟨x, t, rfl, rfl⟩ <;> rfl
theorem key_scanV {k : Key} {v : Value} (e : keyIs k v = true) : v.scannable = true := by
  rcases keyIs_shape e with ⟨i, t, rfl, rfl⟩ | ⟨x, t, rfl, rfl⟩ <;> rfl
/-- a set of keys at a; its table rises and can be walked -/
def SetW (w : World) (h : Heap) (a : Addr) (S : Key → Bool) (n : Nat) : Prop :=
  ∃ o es ep t, h.get? a = some o ∧ o.ExactSet ∧ o.data = .set es ep t ∧ (∀ e ∈ es.toList, GoodK w e) ∧ (es.toList.map keyE).Nodup ∧ (∀ k, S k = true ↔ k ∈ es.toList.map keyE) ∧
    es.size < scanBound ∧ t.fits es.size = true ∧ es.size = n ∧ Ris t.place.toList ∧ (w.params.followText "set-order" = true ∨ t.led = true)
section
variable {P : Program} {w : World} {h h' : Heap} {a : Addr} {S : Key → Bool} {n : Nat}
theorem SetW.at (R : SetW w h a S n) (k : ∀ o, h.get? a = some o → h'.get? a = some o) : SetW w h' a S n := by
  obtain ⟨o, es, ep, t, ho, r⟩ := R
  exact ⟨o, es, ep, t, k o ho, r⟩
theorem SetW.congr {S' : Key → Bool} (R : SetW w h a S n) (e : ∀ k, S' k = S k) : SetW w h a S' n := by
  have q : S' = S := funext e
  rw [q]; exact R
theorem goodK_elems {l : List (Int × Value)} (g : ∀ e ∈ l, GoodK w e) : ElemsOf (mixKind P w) l := fun e he => by
  obtain ⟨k, h1, h2⟩ := g e he
  exact ⟨⟨k, h1, h2⟩, key_scanV h1⟩
theorem goodK_is {e : Int × Value} (g : GoodK w e) (k : Key) : (mixKind P w).is k e.2 = true ↔ keyE e = k := by
  obtain ⟨k0, h1, _⟩ := g
  have e0 : keyE e = k0 := keyE_of (h := e.1) h1
  rw [e0]
  constructor
  · intro q
    exact (mixKind P w).inj _ _ _ h1 q
  · rintro rfl
    exact h1
theorem goodK_mem {l : List (Int × Value)} (g : ∀ e ∈ l, GoodK w e) (k : Key) : k ∈ l.map keyE ↔ ∃ e ∈ l, (mixKind P w).is k e.2 = true := by
  rw [List.mem_map]
  constructor
  · rintro ⟨e, he, q⟩
    exact ⟨e, he, (goodK_is (g e he) k).2 q⟩
  · rintro ⟨e, he, q⟩
    exact ⟨e, he, (goodK_is (g e he) k).1 q⟩
end
section
variable {P : Program} {w : World} {A : Around} {E : Value → Shared → Prop} {s : Shared} {a : Addr} {S : Key → Bool} {n : Nat}
theorem swAdd_tail {g : Bool → Sem Unit} (hg : ∀ (b : Bool) (s₁ : Shared) (Q' : Unit → Shared → Prop), Q' () s₁ → wpAny (model P w) A (g b) Q' E s₁)
    {o : Obj} {es : Array (Int × Value)} {ep : Nat} {t : SetTable} (ho : s.heap.get? a = some o) (hex : o.ExactSet) (hd : o.data = .set es ep t)
    {es1 : Array (Int × Value)} {t2 : SetTable} {S' : Key → Bool} (g1 : ∀ e ∈ es1.toList, GoodK w e) (nd1 : (es1.toList.map keyE).Nodup) (m1 : ∀ k, S' k = true ↔ k ∈ es1.toList.map keyE)
    (hb1 : es1.size < scanBound) (hf2 : t2.fits es1.size = true) (hr : Ris t2.place.toList) (hl : w.params.followText "set-order" = true ∨ t2.led = true) {wasDummy : Bool} {R : Option Bool → Shared → Prop}
    (hR : ∀ h', Heap.SameBut a s.heap h' → SetW w h' a S' es1.size → R (some true) { s with heap := h' }) :
    wpAny (model P w) A (do
        storeSet a es1 t2
        if (!wasDummy && t2.tooFull) = true then do
            g (relayAll t2 es1 (SetTable.grown es1.size)).2.2
            storeSet a (relayAll t2 es1 (SetTable.grown es1.size)).1 (relayAll t2 es1 (SetTable.grown es1.size)).2.1
            pure (some true)
          else pure (some true)) R E s := by
  refine wpAny_bind (wpAny_storeSet_of ho hd ?_ (fits_of_scanBound hb1))
  have ho1 := store_at (es' := es1) (t' := t2) ho hd
  have sb1 := Heap.SameBut.update s.heap a (Obj.putSet es1 t2)
  split
  · have pm := relayAll_perm t2 es1 (SetTable.grown es1.size)
    have hf3 := relayAll_fits t2 es1 (SetTable.grown es1.size)
    have hr3 := relayAll_ris t2 es1 (SetTable.grown es1.size)
    have hl3 := relayAll_led t2 es1 (SetTable.grown es1.size)
    generalize relayAll t2 es1 (SetTable.grown es1.size) = Z at pm hf3 hr3 hl3 ⊢
    obtain ⟨es2, t3, gave⟩ := Z
    dsimp only at pm hf3 hr3 hl3 ⊢
    have hsz : es2.size = es1.size := by rw [← Array.length_toList, pm.length_eq, Array.length_toList]
    have hb2 : es2.size < scanBound := by rw [hsz]; exact hb1
    refine wpAny_bind (hg _ _ _ ?_)
    refine wpAny_bind (wpAny_storeSet_of ho1 rfl ?_ (fits_of_scanBound hb2))
    have ho2 := store_at (es' := es2) (t' := t3) ho1 rfl
    refine wpAny_pure (hR _ (sb1.trans (Heap.SameBut.update _ a _)) ?_)
    exact ⟨_, es2, _, t3, ho2, hex, rfl, fun e he => g1 e (pm.mem_iff.mp he), (pm.map keyE).nodup_iff.mpr nd1, fun k => (m1 k).trans (pm.map keyE).mem_iff.symm, hb2, hf3, hsz, hr3,
      hl.imp id fun z => by rw [hl3]; exact z⟩
  · exact wpAny_pure (hR _ sb1 ⟨_, es1, _, t2, ho1, hex, rfl, g1, nd1, m1, hb1, hf2, rfl, hr, hl⟩)

theorem swAdd {k : Key} {v : Value} (hv : keyIs k v = true) {Q : Bool → Shared → Prop} (R : SetW w s.heap a S n) (room : n + 1 < scanBound)
    (hQ : ∀ h', Heap.SameBut a s.heap h' → SetW w h' a (fun j => S j || decide (j = k)) (if S k = true then n else n + 1) → Q (!S k) { s with heap := h' }) :
    wpAny (model P w) A (setAddHashed a v ((mixKind P w).hash k)) Q E s := by
  obtain ⟨o, es, ep, t, ho, hex, hd, g, nd, hm, hb, hf, hn, hr, hl⟩ := R
  have hkey : (mixKind P w).is k v = true := hv
  have hsc : v.scannable = true := key_scanV hv
  have hel : ElemsOf (mixKind P w) es.toList := goodK_elems g
  unfold setAddHashed setAddHashedIn
  refine wpAny_holding (wpAny_bind (wpAny_setState_of ho hd hf ?_))
  dsimp only
  rw [byScan_of hsc hb hel]
  simp only [↓reduceIte]
  unfold setAddByScan
  refine wpAny_bind ?_
  refine wpAny_bind (wpAny_rule ?_)
  refine wpAny_bind (wpAny_setScan_of hkey ho hd hf hel ?_)
  cases hfi : List.findIdx? (fun e => (mixKind P w).is k e.2) es.toList with
  | some j =>
    dsimp only
    obtain ⟨hj, pj, _⟩ := List.findIdx?_eq_some_iff_getElem.mp hfi
    have hSk : S k = true := (hm k).2 ((goodK_mem (P := P) (w := w) g k).2 ⟨es.toList[j], List.getElem_mem hj, pj⟩)
    refine wpAny_pure (wpAny_pure ?_)
    have q := hQ s.heap (Heap.SameBut.refl a s.heap) ⟨o, es, ep, t, ho, hex, hd, g, nd, fun i => by
      rw [Bool.or_eq_true, decide_eq_true_eq, ← hm i]
      exact ⟨fun z => z.elim id (fun e => e ▸ hSk), .inl⟩, hb, hf, by rw [if_pos hSk]; exact hn, hr, hl⟩
    rw [hSk] at q
    exact q
  | none =>
    dsimp only
    have hnk : k ∉ es.toList.map keyE := fun z => by
      obtain ⟨e, he, q⟩ := (goodK_mem (P := P) (w := w) g k).1 z
      have c := List.findIdx?_eq_none_iff.mp hfi e he
      rw [q] at c
      cases c
    have hSk : S k = false := by
      cases q : S k with
      | false => rfl
      | true => exact absurd ((hm k).1 q) hnk
    have hgw : ∀ (b : Bool) {s₁ : Shared} {Q' : Unit → Shared → Prop}, Q' () s₁ → wpAny (model P w) A (match b with | true => rule "set.scan.the-table-gave-way" | false => pure ()) Q' E s₁ :=
      fun b s₁ Q' q => by cases b <;> first | exact wpAny_pure q | exact wpAny_rule q
    have pm := layNew_perm t es ((mixKind P w).hash k) v
    have hf1 := layNew_fits t es ((mixKind P w).hash k) v
    have hr1 := layNew_ris t es ((mixKind P w).hash k) v hr
    have hl1 := layNew_led t es ((mixKind P w).hash k) v
    generalize layNew t es ((mixKind P w).hash k) v = Z at pm hf1 hr1 hl1 ⊢
    obtain ⟨es1, t1, wasDummy, gave⟩ := Z
    dsimp only at pm hf1 hr1 hl1 ⊢
    rw [Array.toList_push] at pm
    have pc : es1.toList.Perm (((mixKind P w).hash k, v) :: es.toList) := pm.trans (List.perm_append_singleton _ _)
    have pk : (es1.toList.map keyE).Perm (k :: es.toList.map keyE) := (keyE_of hv ▸ pc.map keyE)
    have g1 : ∀ e ∈ es1.toList, GoodK w e := fun e he => by
      rcases List.mem_cons.mp (pc.mem_iff.mp he) with z | z
      · rw [z]; exact ⟨k, hv, rfl⟩
      · exact g e z
    have nd1 : (es1.toList.map keyE).Nodup := pk.nodup_iff.mpr (List.nodup_cons.mpr ⟨hnk, nd⟩)
    have m1 : ∀ i, (S i || decide (i = k)) = true ↔ i ∈ es1.toList.map keyE := fun i => by
      rw [Bool.or_eq_true, decide_eq_true_eq, hm i, pk.mem_iff, List.mem_cons]
      exact Or.comm
    have hsz : es1.size = n + 1 := by rw [← Array.length_toList, pc.length_eq, List.length_cons, Array.length_toList, hn]
    have hb1 : es1.size < scanBound := by rw [hsz]; exact room
    have hled : w.params.followText "set-order" = true ∨ t1.led = true := hl.imp id fun z => by rw [hl1]; exact z
    have fin : ∀ h', Heap.SameBut a s.heap h' → SetW w h' a (fun j => S j || decide (j = k)) es1.size → Q true { s with heap := h' } := fun h' sb r => by
      have q := hQ h' sb
      rw [hSk] at q
      rw [hsz] at r
      exact q r
    refine wpAny_bind (hgw _ ?_)
    split
    · refine wpAny_bind ?_
      rw [hashByValue_scannable 8 hsc]
      refine wpAny_pure ?_
      refine swAdd_tail ?_ ho hex hd g1 nd1 m1 hb1 ?_ ?_ ?_ ?_
      · intro b s₁ Q' q; cases b <;> first | exact wpAny_pure q | exact wpAny_rule q
      · first | (split <;> first | exact hf1 | exact SetTable.fits_plain_off hf1) | exact hf1
      · first | (split <;> exact hr1) | exact hr1
      · first | (split <;> exact hled) | exact hled
      · intro h' sb r; dsimp only; exact wpAny_pure (fin h' sb r)
    · refine wpAny_bind (wpAny_pure ?_)
      simp only [↓reduceIte]
      refine swAdd_tail ?_ ho hex hd g1 nd1 m1 hb1 hf1 hr1 hled ?_
      · intro b s₁ Q' q; cases b <;> first | exact wpAny_pure q | exact wpAny_rule q
      · intro h' sb r; dsimp only; exact wpAny_pure (fin h' sb r)

theorem sw_new_at {h : Heap} {a : Addr} {ns : List Key} (ho : h.get? a = some { cls := .type "set", dict := none, data := .set #[] 0 (.fresh 0 0 (!w.params.followText "set-order")) }) : SetW w h a (fun j => decide (j ∈ ns.take 0)) 0 :=
  ⟨_, #[], 0, _, ho, ⟨rfl, rfl, rfl⟩, rfl, (fun e he => by simp at he), (by simp), (fun k => by simp), (by decide), (by rfl), rfl, List.Pairwise.nil, by
    show _ ∨ (!w.params.followText "set-order") = true
    cases w.params.followText "set-order"
    · exact .inr rfl
    · exact .inl rfl⟩
theorem sw_update {I : Addr} {fp wr : List Addr} {G : Array GenState → Array GenState → Prop} {n : Nat} {Pv : Nat → Value → Prop} {St : Nat → Shared → Prop} {R : Result → Shared → Prop}
    (W : WalksS P w A.in1 I fp wr G n Pv St) (S : Addr) (hSf : S ∉ fp) (ns : List Key) (hn : n = ns.length) (hb : ns.length + 1 < scanBound) (hval : ∀ i v, Pv i v → ∃ k, ns[i]? = some k ∧ keyIs k v = true) :
    ∀ (k i : Nat) (s : Shared), n - i = k → i ≤ n → St i s → (∃ c, c ≤ i ∧ SetW w s.heap S (fun j => decide (j ∈ ns.take i)) c) →
      (∀ s' c, Moved (S :: wr) G s s' → c ≤ n → SetW w s'.heap S (fun j => decide (j ∈ ns)) c → R (.ok (.ret .none)) s') →
      codeAny (model P w) A (.builtin "set.update.loop" ⟨[.ref S, .ref I], []⟩) R s := by
  have hSw : S ∉ wr := fun h => hSf (W.sub _ h)
  have hsub : ∀ b ∈ wr, b ∈ S :: wr := fun b hb => List.mem_cons_of_mem _ hb
  intro k
  induction k with
  | zero =>
    intro i s hk' hi hst ⟨c, hc, hS⟩ hR
    have hin : i = n := by omega
    subst hin
    refine codeAny_builtin F.entry_set_update_loop ?_
    rw [Around.under_plainId F.plain_set_update_loop _]
    show wpAny _ A.in1 (pyNext (.ref I) >>= _) _ _ s
    refine wpAny_bind (W.done s _ _ hst fun s' hm => ?_)
    show wpAny _ A.in1 (ret Value.none) _ _ s'
    have e : ns.take i = ns := List.take_of_length_le (by omega)
    rw [e] at hS
    exact wpAny_pure (hR s' c (hm.mono hsub) hc (hS.at fun o e => hm.heap S o hSw e))
  | succ k ih =>
    intro i s hk' hi hst ⟨c, hc, hS⟩ hR
    have hlt : i < n := by omega
    refine codeAny_builtin F.entry_set_update_loop ?_
    rw [Around.under_plainId F.plain_set_update_loop _]
    show wpAny _ A.in1 (pyNext (.ref I) >>= _) _ _ s
    refine wpAny_bind (W.item i s _ _ hlt hst fun v s' hP hst' hm => ?_)
    obtain ⟨z, hz, hv⟩ := hval i v hP
    have hS' : SetW w s'.heap S (fun j => decide (j ∈ ns.take i)) c := hS.at fun o e => hm.heap S o hSw e
    show wpAny _ A.in1 (holding [v] (setAdd S v) >>= _) _ _ s'
    refine wpAny_bind (wpAny_holding ?_)
    unfold setAdd
    refine wpAny_holding ?_
    refine wpAny_bind ((mixKind P w).pyHash (k := z) hv ?_)
    refine swAdd hv (s := { s' with toks := s'.toks + 1 }) hS' (by omega) fun h' hsb hS2 => ?_
    have hS3 : SetW w h' S (fun j => decide (j ∈ ns.take (i + 1))) (if decide (z ∈ ns.take i) = true then c else c + 1) := hS2.congr fun j => by
      rw [List.take_add_one, hz]
      simp [List.mem_append]
    have hc3 : (if decide (z ∈ ns.take i) = true then c else c + 1) ≤ i + 1 := by
      split <;> omega
    refine wpAny_pure ⟨plainId_quiet F.plain_set_update_loop _, ih (i + 1) _ (by omega) hlt (W.frame _ s' _ _ hst' (Nat.le_succ _) fun b hb o e => ?_) ⟨_, hc3, hS3⟩ fun s'' c2 hm'' hc'' hS'' => ?_⟩
    · rw [hsb.2 b (fun h : b = S => hSf (by rw [← h]; exact hb))]; exact e
    · refine hR s'' c2 (Moved.trans W.gtrans ((hm.mono hsub).then_heap (Nat.le_succ _) fun b o hb e => ?_) hm'') hc'' hS''
      rw [hsb.2 b (fun h : b = S => hb (by rw [h]; exact List.mem_cons_self))]; exact e

set_option maxRecDepth 100000 in
set_option maxHeartbeats 3200000 in
theorem call_set_listK {l : Addr} {items : Array Value} (ns : List Key) {Q : Value → Shared → Prop} (hh : A.handled = none) (hl : s.heap.IsList l items) (hit : Paired (fun k v => keyIs k v = true) ns items.toList) (hb : ns.length + 1 < scanBound)
    (h : ∀ (h' : Heap) (tk c : Nat), SetW w h' s.heap.objs.size (fun j => decide (j ∈ ns)) c → c ≤ ns.length → (∀ b o, s.heap.get? b = some o → h'.get? b = some o) → Q (.ref s.heap.objs.size) { s with heap := h', toks := tk }) :
    wpAny (model P w) A (call (.type "set") [.ref l]) Q E s := by
  have hisz : items.size = ns.length := by
    have q := Paired.len hit
    rw [Array.length_toList] at q
    exact q.symm
  obtain ⟨c, tl, hmro⟩ := F.called_set.mro
  have hmade := F.called_set.made
  have hsub := F.called_set.sub
  refine wpAny_call (codeAny_of_tree ?_)
  show wpAny _ _ (callAny (.type "set") _) _ _ _
  refine wpAny_pure ⟨Code.quiet_builtin _ (by decide +kernel), codeAny_builtin F.entry_type_call ?_⟩
  rw [Around.under_plain (weight_type_call_type "set" [.ref l] []) rfl]
  have h1 := F.called_set.notType
  have h2 := F.called_set.canCreate
  have hct := F.typeCall_set_1 (.ref l)
  repeat (any_goals (first | assumption | wp_step))

  refine codeAny_mono (code_set_led1 (.ref l) (E := E) (Q₁ := fun obj s₁ => obj = .ref s.heap.objs.size ∧ s₁ = { s with heap := s.heap.push { cls := .type "set", dict := none, data := .set #[] 0 (.fresh 0 0 (!w.params.followText "set-order")) } }) ⟨rfl, rfl⟩) fun r s₁ hr => ?_
  cases r with
  | error e => exact hr
  | ok fl =>
    cases fl with
    | ret obj =>
      obtain ⟨rfl, rfl⟩ := hr
      have hS : (s.heap.push { cls := .type "set", dict := none, data := .set #[] 0 (.fresh 0 0 (!w.params.followText "set-order")) }).get? s.heap.objs.size = some { cls := .type "set", dict := none, data := .set #[] 0 (.fresh 0 0 (!w.params.followText "set-order")) } := Heap.get?_push_size _ rfl
      have hT : Shared.TypeIs { s with heap := s.heap.push { cls := .type "set", dict := none, data := .set #[] 0 (.fresh 0 0 (!w.params.followText "set-order")) } } (.ref s.heap.objs.size) "set" := ⟨_, hS, rfl⟩
      have hli := F.called_set.init.lookup
      have hbi := F.called_set.init.bind (.ref s.heap.objs.size)
      repeat (any_goals (first | assumption | wp_step))

      refine codeAny_mono (codeAny_call_builtin (R := wants (fun r s₂ => r = .none ∧ ∃ h' tk c, s₂ = { s with heap := h', toks := tk } ∧ SetW w h' s.heap.objs.size (fun j => decide (j ∈ ns)) c ∧ c ≤ ns.length ∧
          (∀ b o, s.heap.get? b = some o → h'.get? b = some o)) E) F.called_set.init.plain F.entry_set_init (check_set_init_1 hT ?_)) fun r₂ s₂ hr₂ => ?_
      · obtain ⟨ol, hol, hcl, nl, hdl⟩ := hl
        obtain ⟨ocls, odict, odata, oslots⟩ := ol
        simp only at hcl hdl
        subst hcl; subst hdl
        have hol' : (s.heap.push { cls := .type "set", dict := none, data := .set #[] 0 (.fresh 0 0 (!w.params.followText "set-order")) }).get? l = some { cls := .type "list", dict := odict, data := .seq items nl, slots := oslots } := Heap.get?_push_of_some _ hol
        have hsls := F.sub_list_set
        have hslf := F.sub_list_frozenset
        have hne : (Value.type "list" == Value.type "dict") = false := by decide
        have hl1 : (s.heap.push { cls := .type "set", dict := none, data := .set #[] 0 (.fresh 0 0 (!w.params.followText "set-order")) }).IsList l items := ⟨_, hol', rfl, nl, rfl⟩
        unfold Builtin.«set.__init__» noKeywords Builtin.Frozenset.updateFrom
        generalize hPI : pyIter = PI
        wp_walk
        subst hPI

        refine wpAny_pyIter_list hl1 ?_
        refine wpAny_bind (wpAny_runValue ?_)
        have hlS : l < s.heap.objs.size := Heap.lt_size hol
        have hh3 : A.in1.in1.in1.handled = none := by simp [hh]
        have hz1 : (s.heap.push { cls := .type "set", dict := none, data := .set #[] 0 (.fresh 0 0 (!w.params.followText "set-order")) }).objs.size = s.heap.objs.size + 1 := Heap.size_push ..
        have hneI : l ≠ (s.heap.push { cls := .type "set", dict := none, data := .set #[] 0 (.fresh 0 0 (!w.params.followText "set-order")) }).objs.size := by
          rw [Heap.size_push]; exact Nat.ne_of_lt (Nat.lt_succ_of_lt hlS)
        have hSf : s.heap.objs.size ∉ [(s.heap.push { cls := .type "set", dict := none, data := .set #[] 0 (.fresh 0 0 (!w.params.followText "set-order")) }).objs.size, l] := by
          rw [Heap.size_push]; simp only [List.mem_cons, List.mem_singleton, List.not_mem_nil, or_false, not_or]
          exact ⟨Nat.ne_of_lt (Nat.lt_succ_self _), Nat.ne_of_gt hlS⟩
        have hval : ∀ (i : Nat) (v : Value), items[i]? = some v → ∃ k, ns[i]? = some k ∧ keyIs k v = true := fun i v hv =>
          Paired.get2 (F := fun (k : Key) (v : Value) => keyIs k v = true) hit (show items.toList[i]? = some v by rw [Array.getElem?_toList]; exact hv)
        refine sw_update ((Walks.list hh3 _ l hneI items).toS) s.heap.objs.size
          hSf ns hisz hb hval (items.size - 0) 0 _ (by omega) (Nat.zero_le _)
          ⟨⟨_, Heap.get?_push_size _ rfl, rfl, rfl⟩, (hl1.push _)⟩ ?hS0 ?hR
        case hS0 =>
          have hget : ((s.heap.push { cls := .type "set", dict := none, data := .set #[] 0 (.fresh 0 0 (!w.params.followText "set-order")) }).push { cls := .type "list_iterator", data := .fields #[.ref l, .int 0 0] }).get? s.heap.objs.size
              = some { cls := .type "set", dict := none, data := .set #[] 0 (.fresh 0 0 (!w.params.followText "set-order")) } := Heap.get?_push_of_some _ hS
          exact ⟨0, Nat.le_refl 0, sw_new_at hget⟩
        case hR =>
          intro s' c' hm hc' hS'
          obtain ⟨h', g2, d', tk', os'⟩ := s'
          have eg : g2 = s.gens := hm.gens
          have ed : d' = s.drawn := hm.drawn
          have eo : os' = s.os := hm.os
          subst eg; subst ed; subst eo
          show wpAny _ _ _ _ _ _
          refine wpAny_pure ?_
          show wpAny _ _ (ret Value.none) _ _ _
          rw [hisz] at hc'
          refine wpAny_pure ⟨rfl, h', tk', c', rfl, hS', hc', fun b o e => ?_⟩
          have hb0 : b < s.heap.objs.size := Heap.lt_size e
          have hb1 : b ≠ s.heap.objs.size := Nat.ne_of_lt hb0
          have hb2 : b ≠ (s.heap.push { cls := .type "set", dict := none, data := .set #[] 0 (.fresh 0 0 (!w.params.followText "set-order")) }).objs.size := by
            rw [Heap.size_push]; exact Nat.ne_of_lt (Nat.lt_succ_of_lt hb0)
          exact hm.heap b o (by simp only [List.mem_cons, List.mem_singleton, List.not_mem_nil, or_false, not_or]; exact ⟨hb1, hb2⟩) (Heap.get?_push_of_some _ (Heap.get?_push_of_some _ e))

      · cases r₂ with
        | error e => exact hr₂
        | ok fl₂ =>
          cases fl₂ with
          | ret r =>
            obtain ⟨rfl, h', tk, c', rfl, hS', hc', hk'⟩ := hr₂
            repeat (any_goals (first | assumption | wp_step))
            exact h _ _ _ hS' hc' hk'
          | _ => exact hr₂.elim
    | _ => exact hr.elim

end
end K17
end TS
section TS2
set_option Elab.async false
set_option linter.all false
set_option maxRecDepth 100000
set_option maxHeartbeats 4000000
namespace K17
open PySem PySem.Spec PyProof.Rows L2
/-- the set of keys at a -/
def SetK (w : World) (a : Addr) (S : Key → Bool) (n : Nat) : HO := .ext fun h => SetW w h a S n
theorem rises_of : ∀ (p : Str) (l : List Str), risingS p l = true → (∀ y ∈ l, ¬ y.cps.toList < p.cps.toList) ∧ l.Pairwise fun a b => ¬ b.cps.toList < a.cps.toList
  | p, [], _ => ⟨fun _ h => (nomatch h), .nil⟩
  | p, x :: l, h => by
    have h : (!ltCps x.cps.toList p.cps.toList && risingS x l) = true := h
    rw [Bool.and_eq_true, ltCps_eq] at h
    obtain ⟨h1, h2⟩ := h
    have h1 : ¬ x.cps.toList < p.cps.toList := by
      intro c
      rw [decide_eq_true c] at h1
      cases h1
    obtain ⟨i1, i2⟩ := rises_of x l h2
    refine ⟨fun y hy => ?_, .cons i1 i2⟩
    rcases List.mem_cons.mp hy with e | hy
    · rw [e]; exact h1
    · intro c
      rcases lex_cases3 y.cps.toList x.cps.toList with z | z | z
      · exact i1 y hy z
      · rw [z] at c; exact h1 c
      · exact h1 (lex_trans z c)
where
  lex_cases3 (u v : Wd) : u < v ∨ u = v ∨ v < u := by
    by_cases h : u < v
    · exact .inl h
    · by_cases h' : v < u
      · exact .inr (.inr h')
      · exact .inr (.inl (lex_tri h h'))
theorem str_ext {x y : Str} (h : x.cps.toList = y.cps.toList) : x = y := by rw [← S_of x, ← S_of y, h]
theorem sortedS_lt {l : List Str} (h : sortedS l = true) (nd : l.Nodup) : l.Pairwise fun a b => a.cps.toList < b.cps.toList := by
  have le : l.Pairwise fun a b => ¬ b.cps.toList < a.cps.toList := by
    cases l with
    | nil => exact .nil
    | cons x l => exact List.Pairwise.cons (rises_of x l h).1 (rises_of x l h).2
  rw [List.nodup_iff_pairwise_ne] at nd
  refine (le.and nd).imp fun {a b} ⟨h1, h2⟩ => ?_
  rcases rises_of.lex_cases3 a.cps.toList b.cps.toList with z | z | z
  · exact z
  · exact absurd (str_ext z) h2
  · exact absurd z h1
section
variable {P : Program} {w : World} {A : Around} {E : Value → Shared → Prop} {s : Shared} {a : Addr}
theorem strs_of : ∀ (l : List Value), (∀ v ∈ l, ∃ k tk, v = Value.str k tk) → StrsAre l (l.map strOf)
  | [], _ => .nil
  | v :: l, h => by
    obtain ⟨k, tk, rfl⟩ := h v List.mem_cons_self
    exact .cons k tk (strs_of l fun u hu => h u (List.mem_cons_of_mem _ hu))
theorem sorted_setKI {S : Key → Bool} {n : Nat} {Q : Value → Shared → Prop} (R : SetW w s.heap a S n) (hh : A.handled = none) (h64 : n < 64) (hS : ∀ k, S k = true → ∃ i : Int, k = Sum.inl i)
    (hQ : ∀ s' p (out : Array Value) (c : Nat) (ns : List Int), (∀ b o, s.heap.get? b = some o → s'.heap.get? b = some o) → s'.gens = s.gens → s'.os = s.os → s.heap.objs.size ≤ p →
      s'.heap.get? p = some (seqObj "list" out c) → IntsAre out.toList ns → ns.Pairwise (· < ·) → (∀ k, k ∈ ns ↔ S (Sum.inl k) = true) → ns.length = n → Q (.ref p) s') :
    wpAny (model P w) A (call (.builtin "sorted") [.ref a]) Q E s := by
  obtain ⟨o, es, ep, t, ho, hex, hd, g, nd, hm, hb, hf, hn, hr, hl⟩ := R
  refine Calls.call_function_entry kind_sorted plain_sorted entry_sorted (args_sorted1 _) ?_
  unfold Builtin.«sorted»
  refine wpAny_bind (m := checkCount "sorted" 1 1 _) (wpAny_pure ?_)
  refine wpAny_bind (collect_set (A := A.in1) hh ⟨o, ho, hex.1, hd⟩ hf hb hr hl fun s1 vs k1 hz g1 o1 pm => ?_)
  have hvl : vs.length = n := by rw [pm.length_eq, List.length_map, Array.length_toList]; exact hn
  have hk : ∀ e ∈ es.toList, ∃ i tk, e.2 = Value.int i tk ∧ keyE e = Sum.inl i := fun e he => by
    obtain ⟨k, h1, h2⟩ := g e he
    have e0 : keyE e = k := keyE_of (h := e.1) h1
    obtain ⟨i, rfl⟩ := hS k ((hm k).2 (List.mem_map.mpr ⟨e, he, e0⟩))
    rcases keyIs_shape h1 with ⟨j, t, ej, ev⟩ | ⟨x, t, ej, ev⟩
    · cases ej; exact ⟨_, t, ev, e0⟩
    · cases ej
  have hI : IntsAre vs (vs.map Builtin.Re.reRawOf) := ints_of vs fun v hv => by
    obtain ⟨e, he, q⟩ := List.mem_map.mp (pm.mem_iff.mp hv)
    obtain ⟨k, tk, h1, _⟩ := hk e he
    exact ⟨k, tk, by rw [← q]; exact h1⟩
  have pk : ((vs.map Builtin.Re.reRawOf).map (Sum.inl : Int → Key)).Perm (es.toList.map keyE) := by
    have e3 : ((es.toList.map (·.2)).map Builtin.Re.reRawOf).map (Sum.inl : Int → Key) = es.toList.map keyE := by
      rw [List.map_map, List.map_map]
      refine List.map_congr_left fun e he => ?_
      obtain ⟨i, tk, h1, h2⟩ := hk e he
      show Sum.inl (Builtin.Re.reRawOf e.2) = keyE e
      rw [h1, h2]
      rfl
    rw [← e3]
    exact (pm.map _).map _
  refine wpAny_bind (wpAny_newList ?_ (by rw [hvl, sizeLine_eq]; omega))
  have hoL : (s1.heap.push (seqObj "list" vs.toArray 0)).get? s1.heap.objs.size = some (seqObj "list" vs.toArray 0) := Heap.get?_push_size _ rfl
  refine wpAny_bind (wpAny_holding (wpAny_call_entry slot_list_sort ⟨_, hoL, rfl⟩ entry_list_sort (list_sort_tree hoL hI (by rw [hvl]; exact h64) fun out ns' a1 a2 a3 => ⟨_, rfl, ?_⟩) (args_list_sort _)))
  obtain ⟨c, hc⟩ := sortedHeap_at (vs := vs) (out := out) hoL
  have pn : (ns'.map (Sum.inl : Int → Key)).Perm (es.toList.map keyE) := (a2.map _).trans pk
  have ndn : ns'.Nodup := by
    have q := pn.nodup_iff.mpr nd
    rw [List.nodup_iff_pairwise_ne, List.pairwise_map] at q
    rw [List.nodup_iff_pairwise_ne]
    exact q.imp fun h e => h (by rw [e])
  refine wpAny_pure ⟨_, rfl, hQ _ s1.heap.objs.size out c ns' (fun b u e => ?_) g1 o1 hz hc a1 (lt_of_le_nodup ns' a3 ndn) (fun k => ?_) ?_⟩
  · have q := k1 b u e
    have hlt := Heap.lt_size q
    show (sortedHeap (s1.heap.push (seqObj "list" vs.toArray 0)) s1.heap.objs.size vs out).get? b = some u
    rw [sortedHeap_old (Nat.ne_of_lt hlt) (by rw [size_push']; exact Nat.lt_succ_of_lt hlt)]
    exact Heap.get?_push_of_some _ q
  · rw [hm, ← pn.mem_iff, List.mem_map]
    constructor
    · exact fun h => ⟨k, h, rfl⟩
    · rintro ⟨j, hj, e⟩
      cases e
      exact hj
  · have q := pn.length_eq
    rw [List.length_map, List.length_map] at q
    exact q.trans (Array.length_toList.trans hn)
theorem sorted_setKS {S : Key → Bool} {n : Nat} {Q : Value → Shared → Prop} (R : SetW w s.heap a S n) (hh : A.handled = none) (h64 : n < 64) (hS : ∀ k, S k = true → ∃ i : Str, k = Sum.inr i)
    (hQ : ∀ s' p (out : Array Value) (c : Nat) (ns : List Str), (∀ b o, s.heap.get? b = some o → s'.heap.get? b = some o) → s'.gens = s.gens → s'.os = s.os → s.heap.objs.size ≤ p →
      s'.heap.get? p = some (seqObj "list" out c) → StrsAre out.toList ns → ns.Pairwise (fun x y => x.cps.toList < y.cps.toList) → (∀ k, k ∈ ns ↔ S (Sum.inr k) = true) → ns.length = n → Q (.ref p) s') :
    wpAny (model P w) A (call (.builtin "sorted") [.ref a]) Q E s := by
  obtain ⟨o, es, ep, t, ho, hex, hd, g, nd, hm, hb, hf, hn, hr, hl⟩ := R
  refine Calls.call_function_entry kind_sorted plain_sorted entry_sorted (args_sorted1 _) ?_
  unfold Builtin.«sorted»
  refine wpAny_bind (m := checkCount "sorted" 1 1 _) (wpAny_pure ?_)
  refine wpAny_bind (collect_set (A := A.in1) hh ⟨o, ho, hex.1, hd⟩ hf hb hr hl fun s1 vs k1 hz g1 o1 pm => ?_)
  have hvl : vs.length = n := by rw [pm.length_eq, List.length_map, Array.length_toList]; exact hn
  have hk : ∀ e ∈ es.toList, ∃ i tk, e.2 = Value.str i tk ∧ keyE e = Sum.inr i := fun e he => by
    obtain ⟨k, h1, h2⟩ := g e he
    have e0 : keyE e = k := keyE_of (h := e.1) h1
    obtain ⟨i, rfl⟩ := hS k ((hm k).2 (List.mem_map.mpr ⟨e, he, e0⟩))
    rcases keyIs_shape h1 with ⟨j, t, ej, ev⟩ | ⟨x, t, ej, ev⟩
    · cases ej
    · cases ej; exact ⟨_, t, ev, e0⟩
  have hI : StrsAre vs (vs.map strOf) := strs_of vs fun v hv => by
    obtain ⟨e, he, q⟩ := List.mem_map.mp (pm.mem_iff.mp hv)
    obtain ⟨k, tk, h1, _⟩ := hk e he
    exact ⟨k, tk, by rw [← q]; exact h1⟩
  have pk : ((vs.map strOf).map (Sum.inr : Str → Key)).Perm (es.toList.map keyE) := by
    have e3 : ((es.toList.map (·.2)).map strOf).map (Sum.inr : Str → Key) = es.toList.map keyE := by
      rw [List.map_map, List.map_map]
      refine List.map_congr_left fun e he => ?_
      obtain ⟨i, tk, h1, h2⟩ := hk e he
      show Sum.inr (strOf e.2) = keyE e
      rw [h1, h2]
      rfl
    rw [← e3]
    exact (pm.map _).map _
  refine wpAny_bind (wpAny_newList ?_ (by rw [hvl, sizeLine_eq]; omega))
  have hoL : (s1.heap.push (seqObj "list" vs.toArray 0)).get? s1.heap.objs.size = some (seqObj "list" vs.toArray 0) := Heap.get?_push_size _ rfl
  refine wpAny_bind (wpAny_holding (wpAny_call_entry slot_list_sort ⟨_, hoL, rfl⟩ entry_list_sort (list_sort_treeK strKind_oneLt hoL hI.keysOf (fun v₁ v₂ rest e => keyKind_strs (by rw [← e]; exact hI)) (by rw [hvl]; exact h64) fun st' hp hs => ⟨_, rfl, ?_⟩) (args_list_sort _)))
  obtain ⟨ns', a1, a2, a3⟩ := sorted_out_str hI hp hs
  obtain ⟨c, hc⟩ := sortedHeap_at (vs := vs) (out := (arrOf st').map (·.2)) hoL
  have pn : (ns'.map (Sum.inr : Str → Key)).Perm (es.toList.map keyE) := (a2.map _).trans pk
  have ndn : ns'.Nodup := by
    have q := pn.nodup_iff.mpr nd
    rw [List.nodup_iff_pairwise_ne, List.pairwise_map] at q
    rw [List.nodup_iff_pairwise_ne]
    exact q.imp fun h e => h (by rw [e])
  refine wpAny_pure ⟨_, rfl, hQ _ s1.heap.objs.size _ c ns' (fun b u e => ?_) g1 o1 hz hc a1 (sortedS_lt a3 ndn) (fun k => ?_) ?_⟩
  · have q := k1 b u e
    have hlt := Heap.lt_size q
    show (sortedHeap (s1.heap.push (seqObj "list" vs.toArray 0)) s1.heap.objs.size vs _).get? b = some u
    rw [sortedHeap_old (Nat.ne_of_lt hlt) (by rw [size_push']; exact Nat.lt_succ_of_lt hlt)]
    exact Heap.get?_push_of_some _ q
  · rw [hm, ← pn.mem_iff, List.mem_map]
    constructor
    · exact fun h => ⟨k, h, rfl⟩
    · rintro ⟨j, hj, e⟩
      cases e
      exact hj
  · have q := pn.length_eq
    rw [List.length_map, List.length_map] at q
    exact q.trans (Array.length_toList.trans hn)
end
section
variable {X : Cx}
theorem setK_new {w : World} {P : Program} {H : Hp} {h : Heap} {a : Addr} {S : Key → Bool} {n : Nat} (R : SetW w h a S n) : ObjOk P w H h a (SetK w a S n) := by
  have ⟨o, _, _, _, ho, _⟩ := R
  exact ⟨R, ⟨o, ho⟩, fun h1 h2 p k => SetW.at p k⟩
theorem setK_get {pins : List (Addr × Obj)} {σ : L2.St} {H : Hp} {s : Shared} {a : Addr} {S : Key → Bool} {n : Nat} (I : Inv X pins σ H s) (ha : H a = some (SetK X.w a S n)) : SetW X.w s.heap a S n := (I.hok a _ ha).1
theorem keys_vals : ∀ {ks : List Key} {us : List Value}, Vals (ks.map kV) us → Paired (fun k v => keyIs k v = true) ks us
  | [], _, .nil => .nil
  | k :: ks, _, .cons r t => .cons (by
      cases k with
      | inl i => obtain ⟨t, rfl⟩ := r; exact decide_eq_true rfl
      | inr x => obtain ⟨t, rfl⟩ := r; exact decide_eq_true rfl) (keys_vals t)
/-- set(xs), xs a list of keys -/
def rSetL (K : PySem.W.Frag) (w : World) : List V → Hp → VK → Prop := fun vs H Q => ∃ (a : Addr) (ks : List Key), vs = [V.ref a] ∧ SqL K H a (ks.map kV) ∧ ks.length + 1 < scanBound ∧
  ∀ (p : Addr) (c : Nat), c ≤ ks.length → H p = none → Q (.ref p) (upd H p (SetK w p (fun k => decide (k ∈ ks)) c))
theorem cr_setL (hc : X.calm = true) : CallR X (.type "set") (rSetL X.K X.w) := by
  intro pins s σ H vs us Q I r h
  obtain ⟨a, ks, rfl, ha, hb, q⟩ := h
  obtain ⟨its, rv, hl, hz⟩ := I.list ha
  rw [Vals.ref1 r]
  refine call_set_listK ks (I.ok.hd hc) hl.isList (by simpa using keys_vals rv) hb fun h' tk c hS hcn k => ?_
  have hn : H s.heap.objs.size = none := I.hok.fresh (Nat.le_refl _)
  have J : Inv X pins σ (upd H s.heap.objs.size (SetK X.w s.heap.objs.size (fun k => decide (k ∈ ks)) c)) { s with heap := h', toks := tk } := I.laid (t' := tk) k (Nat.le_refl _) (setK_new hS)
  exact ⟨.ref _, _, J, rfl, q _ c hcn hn⟩
/-- sorted(a set of ints) -/
def rSortKI (w : World) : List V → Hp → VK → Prop := fun vs H Q => ∃ (a : Addr) (S : Key → Bool) (n : Nat), vs = [V.ref a] ∧ H a = some (SetK w a S n) ∧ n < 64 ∧ (∀ k, S k = true → ∃ i : Int, k = Sum.inl i) ∧
  ∀ (ns : List Int) (p : Addr), ns.Pairwise (· < ·) → (∀ k : Int, k ∈ ns ↔ S (Sum.inl k) = true) → ns.length = n → H p = none → Q (.ref p) (upd H p (.lst (ns.map V.int)))
theorem cr_sortKI (hc : X.calm = true) : CallR X (.builtin "sorted") (rSortKI X.w) := by
  intro pins s σ H vs us Q I r h
  obtain ⟨a, S, n, rfl, ha, h64, hS, q⟩ := h
  have R := setK_get I ha
  rw [Vals.ref1 r]
  refine sorted_setKI R (I.ok.hd hc) h64 hS fun s' p out c ns k g o hp hg hi hs hm hl => ?_
  have hlen : (ns.map V.int).length ≤ sizeLine := by rw [List.length_map, hl, sizeLine_eq]; omega
  have hn : H p = none := I.hok.fresh hp
  have J : Inv X pins σ (upd H p (.lst (ns.map V.int))) { s with heap := s'.heap, gens := s'.gens, drawn := s'.drawn, toks := s'.toks } :=
    I.call (ch := []) (Un.laid k hp hn) (I.hok.laid k hp ⟨hlen, out.toList, c, vals_of_ints hi, hg⟩) (by rw [g]; exact I.bare) (fun _ z => nomatch z)
  have e : s' = { s with heap := s'.heap, gens := s'.gens, drawn := s'.drawn, toks := s'.toks } := by
    cases s'
    cases s
    cases o
    rfl
  rw [e]
  exact ⟨.ref p, _, J, rfl, q ns p hs hm hl hn⟩
/-- sorted(a set of texts) -/
def rSortKS (w : World) : List V → Hp → VK → Prop := fun vs H Q => ∃ (a : Addr) (S : Key → Bool) (n : Nat), vs = [V.ref a] ∧ H a = some (SetK w a S n) ∧ n < 64 ∧ (∀ k, S k = true → ∃ i : Str, k = Sum.inr i) ∧
  ∀ (ns : List Str) (p : Addr), ns.Pairwise (fun x y => x.cps.toList < y.cps.toList) → (∀ k : Str, k ∈ ns ↔ S (Sum.inr k) = true) → ns.length = n → H p = none → Q (.ref p) (upd H p (.lst (ns.map V.str)))
theorem cr_sortKS (hc : X.calm = true) : CallR X (.builtin "sorted") (rSortKS X.w) := by
  intro pins s σ H vs us Q I r h
  obtain ⟨a, S, n, rfl, ha, h64, hS, q⟩ := h
  have R := setK_get I ha
  rw [Vals.ref1 r]
  refine sorted_setKS R (I.ok.hd hc) h64 hS fun s' p out c ns k g o hp hg hi hs hm hl => ?_
  have hlen : (ns.map V.str).length ≤ sizeLine := by rw [List.length_map, hl, sizeLine_eq]; omega
  have hn : H p = none := I.hok.fresh hp
  have J : Inv X pins σ (upd H p (.lst (ns.map V.str))) { s with heap := s'.heap, gens := s'.gens, drawn := s'.drawn, toks := s'.toks } :=
    I.call (ch := []) (Un.laid k hp hn) (I.hok.laid k hp ⟨hlen, out.toList, c, vals_of_strs hi, hg⟩) (by rw [g]; exact I.bare) (fun _ z => nomatch z)
  have e : s' = { s with heap := s'.heap, gens := s'.gens, drawn := s'.drawn, toks := s'.toks } := by
    cases s'
    cases s
    cases o
    rfl
  rw [e]
  exact ⟨.ref p, _, J, rfl, q ns p hs hm hl hn⟩
theorem inr_mem {ks : List Str} (k : Str) : (decide ((Sum.inr k : Key) ∈ ks.map Sum.inr)) = decide (k ∈ ks) := by
  congr 1
  rw [List.mem_map]
  exact propext ⟨fun ⟨j, hj, e⟩ => by cases e; exact hj, fun h => ⟨k, h, rfl⟩⟩
theorem inl_mem {ks : List Int} (k : Int) : (decide ((Sum.inl k : Key) ∈ ks.map Sum.inl)) = decide (k ∈ ks) := by
  congr 1
  rw [List.mem_map]
  exact propext ⟨fun ⟨j, hj, e⟩ => by cases e; exact hj, fun h => ⟨k, h, rfl⟩⟩
/-- both at once: sorted(set(xs)) of texts -/
theorem kV_strs (xs : List Str) : (xs.map (Sum.inr : Str → Key)).map kV = xs.map V.str := by rw [List.map_map]; rfl
theorem kV_ints (xs : List Int) : (xs.map (Sum.inl : Int → Key)).map kV = xs.map V.int := by rw [List.map_map]; rfl
end
end K17
end TS2
section TD3
set_option Elab.async false
set_option linter.all false
set_option maxRecDepth 100000
set_option maxHeartbeats 4000000
namespace K17
open PySem PySem.Spec PyProof.Rows L2
/-! ### a walk of a list or a tuple -/
/-- a list or a tuple of these -/
def Sq (K : PySem.W.Frag) (H : Hp) (a : Addr) (xs : List V) : Prop := SqL K H a xs ∨ SqT K H a xs
theorem Same.sqL {K : PySem.W.Frag} {H H' : Hp} {a : Addr} {xs : List V} (e : Same H H') (h : SqL K H a xs) : SqL K H' a xs := by
  rcases h with (h | ⟨o, h⟩) | h
  · exact .inl (.inl (e _ _ h))
  · exact .inl (.inr ⟨o, e _ _ h⟩)
  · exact .inr h
theorem Sq.same {K : PySem.W.Frag} {H H' : Hp} {a : Addr} {xs : List V} (e : Same H H') (h : Sq K H a xs) : Sq K H' a xs := h.imp (fun h => Same.sqL e h) fun h => Same.tup e h
def iSeq (K : PySem.W.Frag) (tl : TE) : TI := fun σ H R => tl σ H fun x H1 => ∃ a xs, x = .ref a ∧ Sq K H1 a xs ∧ ∀ J G, Walk J xs.length G (YAt xs) → (∀ H', Same H1 H' → G H') → R J H1
theorem pi_seq {X : Cx} {tg : Expr} {l : Expr} {tl : TE} (hl : PE X l tl) : PI X tg l (iSeq X.K tl) := by
  refine ⟨fun pins s σ H R I h => ?_⟩
  refine thn (hl.run pins s σ H _ I h) fun v s1 ⟨x, H1, I1, r1, q1⟩ => ?_
  obtain ⟨a, xs, e, hq, q⟩ := q1
  subst e
  cases r1
  rcases hq with hq | hq
  · have q := q _ _ walk_list fun H' s => Same.sqL s hq
    obtain ⟨its, rv, p, hz⟩ := I1.list hq
    refine wpAny_pyIter_list p.isList ?_
    refine ⟨s1.heap.objs.size, [s1.heap.objs.size], _, _, H1, rfl, I1.kept (t' := s1.toks) fun b o e => Heap.get?_push_of_some _ e, turn_list a _, ⟨_, Heap.get?_push_size _ rfl, rfl, rfl⟩, fun b hb => ?_, q⟩
    have e : b = s1.heap.objs.size := by simpa using hb
    subst e
    exact I1.fpOk (Nat.le_refl _) (I1.hok.fresh (Nat.le_refl _))
  · have q := q _ _ walk_tup fun H' s => Same.tup s hq
    obtain ⟨its, rv, p, hz⟩ := I1.tuple hq
    refine wpAny_pyIter_tuple (show s1.heap.IsTuple a its.toArray from p) ?_
    refine ⟨s1.heap.objs.size, [s1.heap.objs.size], _, _, H1, rfl, I1.kept (t' := s1.toks) fun b o e => Heap.get?_push_of_some _ e, turn_tuple a _, ⟨_, Heap.get?_push_size _ rfl, rfl, rfl⟩, fun b hb => ?_, q⟩
    have e : b = s1.heap.objs.size := by simpa using hb
    subst e
    exact I1.fpOk (Nat.le_refl _) (I1.hok.fresh (Nat.le_refl _))
/-- a walk within a comprehension -/
theorem walk_it {J : It} {n : Nat} {G : Hp → Prop} {Y : Nat → Hp → V → Hp → Prop} (w : Walk J n G Y) {B : V → Hp → (Hp → Prop) → Prop} {H1 : Hp} {Qd : Hp → Prop} (Pv : Nat → Hp → Prop) (h0 : Pv 0 H1) (hG : ∀ i H, i ≤ n → Pv i H → G H)
    (hs : ∀ i x H H', i < n → Pv i H → Y i H x H' → B x H' (Pv (i + 1))) (hd : ∀ H, Pv n H → Qd H) :
    ∃ W : Nat → Nat → Hp → Prop, (∃ m, W 0 m H1) ∧ ∀ i m H, W i m H →
      (J.stop i H ∧ Qd H) ∨ (J.go i H ∧ ∃ Nx : Hp → Prop, (∀ H', Nx H' → ∃ m', m' < m ∧ W (i + 1) m' H') ∧ ∀ x H', J.yld i H x H' → B x H' Nx) := by
  refine ⟨fun i m H => m = n - i ∧ i ≤ n ∧ Pv i H, ⟨n, by simp, Nat.zero_le _, h0⟩, ?_⟩
  rintro i m H ⟨rfl, hi, p⟩
  have q := hG i H hi p
  by_cases hlt : i < n
  · refine .inr ⟨w.goes i H hlt q, Pv (i + 1), fun H' p' => ⟨n - (i + 1), by omega, rfl, hlt, p'⟩, fun x H' y => hs i x H H' hlt p (w.yields i H x H' hlt q y)⟩
  · have e : i = n := by omega
    subst e
    exact .inl ⟨w.stops H q, hd H p⟩
/-! ### what the rows tell, their signs -/
def tolds (rs : List (Row Str)) : List Str := rs.flatMap fun r => r.filterMap fun e => e.2.2
def signsOf (rs : List (Row Str)) : List Nat := rs.flatMap fun r => r.map fun e => e.1
theorem flat_take {α β : Type} {f : α → List β} {l : List α} {i : Nat} {x : α} (h : l[i]? = some x) : (l.take (i + 1)).flatMap f = (l.take i).flatMap f ++ f x := by
  rw [take_succ_of h, List.flatMap_append, List.flatMap_singleton]
theorem len_flat_take {α β : Type} {f : α → List β} {l : List α} : ∀ {i : Nat}, ((l.take i).flatMap f).length ≤ (l.flatMap f).length := by
  intro i
  have e : l.flatMap f = (l.take i).flatMap f ++ (l.drop i).flatMap f := by rw [← List.flatMap_append, List.take_append_drop]
  rw [e, List.length_append]
  omega
theorem take_fm {α β : Type} {f : α → Option β} {l : List α} {i : Nat} {x : α} (h : l[i]? = some x) : (l.take (i + 1)).filterMap f = (l.take i).filterMap f ++ (f x).toList := by
  rw [take_succ_of h, List.filterMap_append]
  congr 1
theorem lt_line {n : Nat} (h : n < 1000) : n < sizeLine := by
  have := line_of (Nat.le_of_lt h)
  have h2 : (1000 : Nat) < sizeLine := by decide
  omega
section
variable {P : Program} {w : World} {K : PySem.W.Frag} {mg : Str → Option Value} {base : Heap}
/-- told_in: the texts told, each once, ascending -/
def spToldIn (K : PySem.W.Frag) : Sp := fun vs H Q _ => ∃ (a : Addr) (ds : List Addr) (rs : List (Row Str)), vs = [.ref a] ∧ Sq K H a (ds.map V.ref) ∧ RowsAt H ds rs ∧ (∀ r ∈ rs, r.length ≤ 60) ∧ (tolds rs).length < 64 ∧
  ∀ (ts : List Str) (p : Addr) H', Same H H' → H p = none → H' p = some (.lst (ts.map V.str)) → ts.Pairwise (fun x y => x.cps.toList < y.cps.toList) → (∀ x, x ∈ ts ↔ x ∈ tolds rs) → Q (.ref p) H'
theorem scTold : FnScope ["rows", "row", "goal", "told"] ["rows"] (defScope (top 23)) := ⟨rfl, rfl, rfl, by decide +kernel, rfl, by decide +kernel, by decide +kernel⟩
theorem d_told_in (T : Tx K mg) : Def P w K mg base CX0 1 "told_in" ["rows"] (spToldIn K) := by
  refine def_of T 9 23 ["rows", "row", "goal", "told"] rfl scTold (fun _ _ _ _ _ _ us hl => match us, hl with | [_], _ => rfl) (fun vs H Q E h => ?_) (fun f cdv A outer s H vs Q E hr h => ?_)
  · obtain ⟨a, ds, rs, rfl, _⟩ := h; rfl
  · obtain ⟨a, ds, rs, rfl, ha, hrs, hrl, hb, k⟩ := h
    refine ⟨_, pss_one (ps_ret (pB T b_sorted (cr_sortKS rfl) (pa1 (pT T b_set (cr_setL rfl) (pa1 (pe_lc2 (own := [("row", 1), ("goal", 2), ("told", 3)]) (vs1 := [2, 3]) (g := gName 1) (g1 := gTup K 2 (gCons (gName 2) (gCons (gName 3) gNil))) (tt := tYes) rfl scTold.nd
        (pi_seq (pv 0)) (blkOk_by (own := [("row", 1), ("goal", 2), ("told", 3)]) (N := ["rows", "row", "goal", "told"]) (sc := defScope (top 23)) (by decide +kernel)) (by decide)
        (fun _ _ _ _ _ => pg_name (i := 1) scTold.nd rfl (Or.inl rfl)) (fun _ _ _ _ _ => pts_nil)
        (fun _ _ _ _ _ => pi_values (pv 1))
        (fun _ _ _ _ _ => pg_tup rfl (pgs_cons (pg_name (i := 2) scTold.nd rfl (Or.inl rfl)) (pgs_cons (pg_name (i := 3) scTold.nd rfl (Or.inl rfl)) pgs_nil)))
        (fun _ _ _ _ _ => pts_one (pt_cmpR op_notN (pv 3) pe_non (nomark _)))
        (fun _ _ _ _ _ => pv 3))))))), ?_⟩
    have hlen : ds.length = rs.length := Paired.len hrs
    refine ⟨_, rfl, a, _, rfl, ha, fun J G W hG D hD => ?_⟩
    refine walk_it W (fun i H1 => Same H H1 ∧ H1 D = some (.lst ((tolds (rs.take i)).map V.str)))
      ⟨Same.new hD, upd_same⟩ (fun i H1 _ hp => hG _ hp.1) (fun i x H1 H2 hi hp y => ?_) (fun H1 hp => ?_)
    · obtain ⟨s1, h1⟩ := hp
      obtain ⟨rfl, hx⟩ := y
      rw [List.getElem?_map] at hx
      cases hz : ds[i]? with
      | none => rw [hz] at hx; cases hx
      | some d =>
        rw [hz] at hx
        cases hx
        obtain ⟨r, hr, o, kvs, hd, hk⟩ := Paired.get1 hrs hz
        refine ⟨rfl, ?_⟩
        refine ⟨_, rfl, d, o, kvs, rfl, s1 _ _ hd, ?_⟩
        refine walk_it (row_vals hk) (fun j H3 => Same H H3 ∧ H3 D = some (.lst ((tolds (rs.take i) ++ ((r.take j).filterMap fun e => e.2.2)).map V.str)))
          ⟨s1, by simpa using h1⟩ (fun j H3 _ hp => hp.1 _ _ hd) (fun j x H3 H4 hj hp y => ?_) (fun H3 hp => ⟨hp.1, ?_⟩)
        · obtain ⟨s3, h3⟩ := hp
          obtain ⟨rfl, e, m, he, rfl, hm⟩ := y
          refine ⟨m, _, rfl, SqT.of (s3 _ _ hm), rfl, _, _, rfl, _, _, rfl, rfl, rfl, ?_⟩
          refine ⟨_, rfl, ?_⟩
          obtain ⟨c, g, t⟩ := e
          cases t with
          | none =>
            refine ⟨rfl, false, rfl, s3, ?_⟩
            rw [h3, take_fm he]
            simp
          | some z =>
            refine ⟨rfl, true, rfl, _, rfl, _, h3, ?_, Same.updN s3 hD, ?_⟩
            · have b1 : (tolds (rs.take i) ++ (r.take j).filterMap fun e => e.2.2).length ≤ (tolds (rs.take i)).length + r.length := by
                rw [List.length_append]
                have := List.length_filterMap_le (fun e : Nat × Nat × Option Str => e.2.2) (r.take j)
                rw [List.length_take] at this
                omega
              have b2 : (tolds (rs.take i)).length ≤ (tolds rs).length := len_flat_take
              have b3 := hrl r (List.mem_of_getElem? hr)
              rw [List.length_map]
              exact lt_line (by omega)
            · rw [upd_same, take_fm he, ← List.append_assoc, List.map_append (l₂ := Option.toList _)]
              rfl
        · have e : r.take r.length = r := List.take_length
          have h2 := hp.2
          rw [e] at h2
          rw [h2]
          unfold tolds
          rw [flat_take hr]
    · obtain ⟨s1, h1⟩ := hp
      rw [List.length_map, hlen, List.take_length] at h1
      refine ⟨D, (tolds rs).map Sum.inr, rfl, SqL.of (by rw [h1, kV_strs]), ?_, fun p c hc hp => ?_⟩
      · rw [List.length_map]
        show _ < (4096 : Nat)
        omega
      · rw [List.length_map] at hc
        refine ⟨p, _, c, rfl, upd_same, by omega, fun k hk => ?_, fun ts q h1 h2 h3 hq => ?_⟩
        · obtain ⟨z, _, e⟩ := List.mem_map.mp (of_decide_eq_true hk)
          exact ⟨z, e.symm⟩
        · have hp0 : H p = none := Same.free s1 hp
          have sA : Same H (upd H1 p (SetK w p (fun k => decide (k ∈ (tolds rs).map Sum.inr)) c)) := Same.updN s1 hp0
          have hq0 : H q = none := Same.free sA hq
          refine k ts q _ (Same.updN sA hq0) hq0 upd_same h1 fun x => ?_
          rw [h2, inr_mem]
          exact ⟨of_decide_eq_true, decide_eq_true⟩
end
end K17
end TD3
section TC
set_option Elab.async false
set_option linter.all false
set_option maxRecDepth 100000
set_option maxHeartbeats 4000000
namespace K17
open PySem PySem.Spec PyProof.Rows L2
/-! ### the class Reader -/
def clsB : Stmt → List Stmt
  | .ClassDef (body := b) .. => b
  | _ => []
def mth (i : Nat) : Stmt := (clsB (top 26)).getD i (.Pass ⟨0, 0, 0, 0⟩)
def RC (K : PySem.W.Frag) : Addr := He.ga K "Reader"
structure Rx (K : PySem.W.Frag) (mg : Str → Option Value) : Prop where
  gC : mg "Reader" = some (.ref (RC K))
  cls : Cls K (RC K)
  mkr : Mk K (RC K) (He.ma K (RC K) "__init__")
  ini : ∃ (fd : FuncData) (e : V), FunD K "__init__" "Reader.__init__" (defArgs (mth 1)) (defBody (mth 1)) (defScope (mth 1)) [e] [("start", .int 0)] (He.ma K (RC K) "__init__") fd
  nR : NoAttr K (RC K) "rows"
  nE : NoAttr K (RC K) "end_list"
  nS : NoAttr K (RC K) "own_start"
  marks : Meth K (RC K) "marks" (He.ma K (RC K) "marks")
  marksD : ∃ fd : FuncData, FunD K "marks" "Reader.marks" (defArgs (mth 9)) (defBody (mth 9)) (defScope (mth 9)) [] [] (He.ma K (RC K) "marks") fd
  len : PySem.W.findIn K (.ref (RC K)) "__len__" = some (some (.ref (He.ma K (RC K) "__len__")))
  lenF : PySem.W.isFn K (.ref (He.ma K (RC K) "__len__")) = true
  lenD : ∃ fd : FuncData, FunD K "__len__" "Reader.__len__" (defArgs (mth 10)) (defBody (mth 10)) (defScope (mth 10)) [] [] (He.ma K (RC K) "__len__") fd
  cr : ∃ mc : Value, ClX.CRead K (RC K) mc ∧ ∃ u, ClX.CVal K (RC K) mc "MAX_STATES" (.int 12) u
/-! ### what a reader's rows keep -/
theorem nd_sub {α : Type} [DecidableEq α] : ∀ {l m : List α}, l.Nodup → (∀ x ∈ l, x ∈ m) → l.length ≤ m.length
  | [], m, _, _ => Nat.zero_le _
  | x :: l, m, nd, h => by
    obtain ⟨n1, n2⟩ := List.nodup_cons.mp nd
    have hx := h x List.mem_cons_self
    have := nd_sub (l := l) (m := m.erase x) n2 fun y hy => (List.mem_erase_of_ne (fun e : y = x => n1 (by rw [← e]; exact hy))).mpr (h y (List.mem_cons_of_mem _ hy))
    rw [List.length_erase_of_mem hx] at this
    have hp := List.length_pos_of_mem hx
    rw [List.length_cons]
    omega
structure Fit (R : M) : Prop where
  ok : R.Ok
  six : R.rows.length ≤ 6
  row : ∀ r ∈ R.rows, RowOk R.rows.length r
  sg : ∃ A : List Nat, A.length ≤ 6 ∧ ∀ c ∈ signsOf R.rows, c ∈ A
  tx : ∃ A : List Str, A.length ≤ 4 ∧ ∀ t ∈ tolds R.rows, isSg t = true → t ∈ A
  mks : ∃ A : List Str, A.length ≤ 6 ∧ ∀ t ∈ tolds R.rows, isMk t = true → t ∈ A
theorem Fit.rlen {R : M} (F : Fit R) {r : Row Str} (h : r ∈ R.rows) : r.length ≤ 6 := by
  obtain ⟨A, h1, h2⟩ := F.sg
  have := nd_sub (m := A) (F.ok.keys r h) fun x hx => h2 x (List.mem_flatMap.mpr ⟨r, h, hx⟩)
  rw [List.length_map] at this
  omega
theorem flat_len {α β : Type} {f : α → List β} {k : Nat} : ∀ {l : List α}, (∀ x ∈ l, (f x).length ≤ k) → (l.flatMap f).length ≤ l.length * k
  | [], _ => Nat.zero_le _
  | x :: l, h => by
    have h1 := h x List.mem_cons_self
    have h2 := flat_len (l := l) fun y hy => h y (List.mem_cons_of_mem _ hy)
    rw [List.flatMap_cons, List.length_append, List.length_cons, Nat.add_mul]
    omega
theorem Fit.signs {R : M} (F : Fit R) : (signsOf R.rows).length ≤ 36 := by
  have h := flat_len (f := fun r : Row Str => r.map fun e => e.1) (k := 6) (l := R.rows) fun r hr => by rw [List.length_map]; exact F.rlen hr
  have := F.six
  exact Nat.le_trans h (by omega)
theorem Fit.tolds {R : M} (F : Fit R) : (tolds R.rows).length ≤ 36 := by
  have h := flat_len (f := fun r : Row Str => r.filterMap fun e => e.2.2) (k := 6) (l := R.rows) fun r hr => Nat.le_trans (List.length_filterMap_le _ _) (F.rlen hr)
  have := F.six
  exact Nat.le_trans h (by omega)
theorem Fit.ends6 {R : M} (F : Fit R) : R.ends.length ≤ 6 := by
  have := nd_sub (m := List.range R.rows.length) F.ok.nd fun x hx => List.mem_range.mpr (F.ok.ends x hx)
  rw [List.length_range] at this
  have := F.six
  omega
theorem Fit.tok {R : M} (F : Fit R) {t : Str} (h : t ∈ K17.tolds R.rows) : isNm t = true := by
  obtain ⟨r, hr, ht⟩ := List.mem_flatMap.mp h
  obtain ⟨e, he, et⟩ := List.mem_filterMap.mp ht
  exact (F.row r hr e he).2.2 t et
section
variable {P : Program} {w : World} {K : PySem.W.Frag} {mg : Str → Option Value} {base : Heap}
/-- signs_in -/
def spSignsIn (K : PySem.W.Frag) : Sp := fun vs H Q _ => ∃ (a : Addr) (ds : List Addr) (rs : List (Row Str)), vs = [.ref a] ∧ Sq K H a (ds.map V.ref) ∧ RowsAt H ds rs ∧ (∀ r ∈ rs, r.length ≤ 60) ∧ (signsOf rs).length < 64 ∧
  ∀ (ts : List Str) (p : Addr) H', Same H H' → H p = none → H' p = some (.lst (ts.map V.str)) → ts.Nodup → (∀ x, x ∈ ts ↔ ∃ c ∈ signsOf rs, x = sg c) → Q (.ref p) H'
theorem scSigns : FnScope ["rows", "row", "sign"] ["rows"] (defScope (top 24)) := ⟨rfl, rfl, rfl, by decide +kernel, rfl, by decide +kernel, by decide +kernel⟩
theorem d_signs_in (T : Tx K mg) : Def P w K mg base CX0 1 "signs_in" ["rows"] (spSignsIn K) := by
  refine def_of T 10 24 ["rows", "row", "sign"] rfl scSigns (fun _ _ _ _ _ _ us hl => match us, hl with | [_], _ => rfl) (fun vs H Q E h => ?_) (fun f cdv A outer s H vs Q E hr h => ?_)
  · obtain ⟨a, ds, rs, rfl, _⟩ := h; rfl
  · obtain ⟨a, ds, rs, rfl, ha, hrs, hrl, hb, k⟩ := h
    refine ⟨_, pss_one (ps_ret (pB T b_sorted (cr_sortKS rfl) (pa1 (pT T b_set (cr_setL rfl) (pa1 (pe_lc2 (own := [("row", 1), ("sign", 2)]) (vs1 := [2]) (g := gName 1) (g1 := gName 2) (tt := tYes) (tt1 := tYes) rfl scSigns.nd
        (pi_seq (pv 0)) (blkOk_by (own := [("row", 1), ("sign", 2)]) (N := ["rows", "row", "sign"]) (sc := defScope (top 24)) (by decide +kernel)) (by decide)
        (fun _ _ _ _ _ => pg_name (i := 1) scSigns.nd rfl (Or.inl rfl)) (fun _ _ _ _ _ => pts_nil)
        (fun _ _ _ _ _ => pi_keys (pv 1))
        (fun _ _ _ _ _ => pg_name (i := 2) scSigns.nd rfl (Or.inl rfl))
        (fun _ _ _ _ _ => pts_nil)
        (fun _ _ _ _ _ => pv 2))))))), ?_⟩
    have hlen : ds.length = rs.length := Paired.len hrs
    refine ⟨_, rfl, a, _, rfl, ha, fun J G W hG D hD => ?_⟩
    refine walk_it W (fun i H1 => Same H H1 ∧ H1 D = some (.lst (((signsOf (rs.take i)).map sg).map V.str)))
      ⟨Same.new hD, upd_same⟩ (fun i H1 _ hp => hG _ hp.1) (fun i x H1 H2 hi hp y => ?_) (fun H1 hp => ?_)
    · obtain ⟨s1, h1⟩ := hp
      obtain ⟨rfl, hx⟩ := y
      rw [List.getElem?_map] at hx
      cases hz : ds[i]? with
      | none => rw [hz] at hx; cases hx
      | some d =>
        rw [hz] at hx
        cases hx
        obtain ⟨r, hr, o, kvs, hd, hk⟩ := Paired.get1 hrs hz
        refine ⟨rfl, ?_⟩
        refine ⟨_, rfl, d, o, rfl, .inl ⟨kvs, s1 _ _ hd, ?_⟩⟩
        refine walk_it (row_keys' hk) (fun j H3 => Same H H3 ∧ H3 D = some (.lst (((signsOf (rs.take i) ++ ((r.take j).map fun e => e.1)).map sg).map V.str)))
          ⟨s1, by simpa using h1⟩ (fun j H3 _ hp => hp.1 _ _ hd) (fun j x H3 H4 hj hp y => ?_) (fun H3 hp => ⟨hp.1, ?_⟩)
        · obtain ⟨s3, h3⟩ := hp
          obtain ⟨rfl, e, he, rfl⟩ := y
          refine ⟨rfl, ?_⟩
          refine ⟨_, rfl, _, h3, ?_, Same.updN s3 hD, ?_⟩
          · have b1 : (signsOf (rs.take i) ++ (r.take j).map fun e => e.1).length ≤ (signsOf (rs.take i)).length + r.length := by
              rw [List.length_append, List.length_map, List.length_take]
              omega
            have b2 : (signsOf (rs.take i)).length ≤ (signsOf rs).length := len_flat_take
            have b3 := hrl r (List.mem_of_getElem? hr)
            rw [List.length_map, List.length_map]
            exact lt_line (by omega)
          · rw [upd_same, take_succ_of he]
            simp
        · have e : r.take r.length = r := List.take_length
          have h2 := hp.2
          rw [e] at h2
          rw [h2]
          unfold signsOf
          rw [flat_take hr]
    · obtain ⟨s1, h1⟩ := hp
      rw [List.length_map, hlen, List.take_length] at h1
      refine ⟨D, ((signsOf rs).map sg).map Sum.inr, rfl, SqL.of (by rw [h1, kV_strs]), ?_, fun p c hc hp => ?_⟩
      · rw [List.length_map, List.length_map]
        show _ < (4096 : Nat)
        omega
      · rw [List.length_map, List.length_map] at hc
        refine ⟨p, _, c, rfl, upd_same, by omega, fun k hk => ?_, fun ts q h1 h2 h3 hq => ?_⟩
        · obtain ⟨z, _, e⟩ := List.mem_map.mp (of_decide_eq_true hk)
          exact ⟨z, e.symm⟩
        · have hp0 : H p = none := Same.free s1 hp
          have sA : Same H (upd H1 p (SetK w p (fun k => decide (k ∈ ((signsOf rs).map sg).map Sum.inr)) c)) := Same.updN s1 hp0
          have hq0 : H q = none := Same.free sA hq
          refine k ts q _ (Same.updN sA hq0) hq0 upd_same ?_ fun x => ?_
          · rw [List.nodup_iff_pairwise_ne]
            refine h1.imp fun {a b} z e => ?_
            rw [e] at z
            exact lex_irrefl _ z
          · rw [h2, inr_mem, decide_eq_true_iff, List.mem_map]
            exact ⟨fun ⟨c, a, b⟩ => ⟨c, a, b.symm⟩, fun ⟨c, a, b⟩ => ⟨c, a, b.symm⟩⟩
end
end K17
end TC
section TC2
set_option Elab.async false
set_option linter.all false
set_option maxRecDepth 100000
set_option maxHeartbeats 4000000
namespace K17
open PySem PySem.Spec PyProof.Rows L2
theorem nodup_lt {ts : List Str} (h : ts.Pairwise fun x y => x.cps.toList < y.cps.toList) : ts.Nodup := by
  rw [List.nodup_iff_pairwise_ne]
  refine h.imp fun {a b} z e => ?_
  rw [e] at z
  exact lex_irrefl _ z
theorem fl_take {α : Type} {f : α → Bool} {l : List α} {i : Nat} {x : α} (h : l[i]? = some x) : (l.take (i + 1)).filter f = (l.take i).filter f ++ (if f x = true then [x] else []) := by
  rw [take_succ_of h, List.filter_append]
  congr 1
  cases e : f x <;> simp [e]
/-- an expression that is never reached -/
theorem pe_nev {X : Cx} {e : Expr} : PE X e (fun _ _ _ => False) := ⟨fun _ _ _ _ _ _ h => h.elim⟩
section
variable {P : Program} {w : World} {K : PySem.W.Frag} {mg : Str → Option Value} {base : Heap}
/-- reader_problem: none -/
def spProblem (K : PySem.W.Frag) : Sp := fun vs H Q _ => ∃ (a b : Addr) (ds : List Addr) (R : M), vs = [.ref a, .ref b, .int (R.start : Int)] ∧ Rd H a (.lst (ds.map V.ref)) ∧ RowsAt H ds R.rows ∧ Rd H b (.lst (R.ends.map fun i : Nat => V.int (i : Int))) ∧ Fit R ∧
  ∀ H', Same H H' → Q .non H'
theorem scProb : FnScope ["states", "ends", "start", "index", "row", "things", "thing"] ["states", "ends", "start"] (defScope (top 25)) := ⟨rfl, rfl, rfl, by decide +kernel, rfl, by decide +kernel, by decide +kernel⟩
theorem d_problem (T : Tx K mg) (X : Rx K mg) : Def P w K mg base CX0 6 "reader_problem" ["states", "ends", "start"] (spProblem K) := by
  have St : Def P w K mg base CX0 5 "is_state_dict" ["value", "many"] spState := d_is_state T
  have Df : Def P w K mg base CX0 2 "are_different" ["value", "limit"] spDiff := d_are_diff T
  have Be : Def P w K mg base CX0 1 "is_below" ["value", "limit"] spBelow := d_is_below T
  have Si : Def P w K mg base CX0 1 "signs_in" ["rows"] (spSignsIn K) := d_signs_in T
  have To : Def P w K mg base CX0 1 "told_in" ["rows"] (spToldIn K) := d_told_in T
  have Sg : Def P w K mg base CX0 2 "is_sign" ["value"] (spTxt isSg) := d_is_sign T
  have Mk : Def P w K mg base CX0 2 "is_mark" ["value"] (spTxt isMk) := d_is_mark T
  obtain ⟨tp, hmp⟩ := T.mPage
  obtain ⟨tt, hmt⟩ := T.mText
  obtain ⟨tm, hmm⟩ := T.mMark
  obtain ⟨mc, cr, ku, cv⟩ := X.cr
  refine def_of T 11 25 ["states", "ends", "start", "index", "row", "things", "thing"] rfl scProb (fun _ _ _ _ _ _ us hl => match us, hl with | [_, _, _], _ => rfl) (fun vs H Q E h => ?_) (fun f cdv A outer s H vs Q E hr h => ?_)
  · obtain ⟨a, b, ds, R, rfl, _⟩ := h; rfl
  · obtain ⟨a, b, ds, R, rfl, ha, hrs, hb, F, k⟩ := h
    have nd := scProb.nd
    refine ⟨_, PSs.nox (pss_cons (ps_if (PW.pt (pw_or (pt_not (pt_val (pB T b_isinstance call_isiT (pa_cons (pv 0) (pa1 (pe_tup (pa_cons (pty T "list" b_list) (pa1 (pty T "tuple" b_tuple)))))))))
          (pw_or1 (pt_not (pt_chain op_le op_le pe_int (pB T b_len call_len_seq (pa1 (pv 0))) (ClX.pe_cval (pe_glob (v := .ref (RC K)) (by rfl) X.gC rfl))))))) (pss_one ps_never) pss_nil)
      (pss_cons (ps_for PassesOwn.never rfl (pi_enum rfl (T.f "enumerate") (pa1 (pv 0))) (g := gTup K 2 (gCons (gName 3) (gCons (gName 4) gNil))) (pg_tup rfl (pgs_cons (pg_name (i := 3) nd rfl (Or.inl rfl)) (pgs_cons (pg_name (i := 4) nd rfl (Or.inl rfl)) pgs_nil)))
          (pss_one (ps_if (pt_not (pt_val (pd0 St hr (pa_cons (pv 4) (pa1 (pB T b_len call_len_seq (pa1 (pv 0)))))))) (pss_one ps_never) pss_nil)))
      (pss_cons (ps_if (pt_not (pt_val (pd0 Df hr (pa_cons (pv 1) (pa1 (pB T b_len call_len_seq (pa1 (pv 0)))))))) (pss_one ps_never) pss_nil)
      (pss_cons (ps_if (pt_not (pt_val (pd0 Be hr (pa_cons (pv 2) (pa1 (pB T b_len call_len_seq (pa1 (pv 0)))))))) (pss_one ps_never) pss_nil)
      (pss_cons (ps_if (pt_cmpR op_gt (pB T b_len call_len_seq (pa1 (pd0 Si hr (pa1 (pv 0))))) (pe_glob (v := .int 6) (by rfl) hmp ⟨_, rfl⟩) (nomark _)) (pss_one ps_never) pss_nil)
      (pss_cons (ps_set (i := 5) nd rfl (Or.inl rfl) (pd0 To hr (pa1 (pv 0))))
      (pss_cons (ps_if (pt_cmpR op_gt (pB T b_len call_len_seq (pa1 (pe_lc (own := [("thing", 6)]) (g := gName 6) rfl nd (pi_list (pv 5)) (blkOk_by (own := [("thing", 6)]) (N := ["states", "ends", "start", "index", "row", "things", "thing"]) (sc := defScope (top 25)) (by decide +kernel))
          (fun _ _ _ _ _ => pg_name (i := 6) nd rfl (Or.inl rfl)) (fun _ _ _ _ _ => pts_one (pt_val (pd0 Sg hr (pa1 (pv 6))))) (fun _ _ _ _ _ => pv 6)))) (pe_glob (v := .int 4) (by rfl) hmt ⟨_, rfl⟩) (nomark _)) (pss_one ps_never) pss_nil)
      (pss_one (ps_ret (pe_ifExp (pt_cmpR op_gt (pB T b_len call_len_seq (pa1 (pe_lc (own := [("thing", 6)]) (g := gName 6) rfl nd (pi_list (pv 5)) (blkOk_by (own := [("thing", 6)]) (N := ["states", "ends", "start", "index", "row", "things", "thing"]) (sc := defScope (top 25)) (by decide +kernel))
          (fun _ _ _ _ _ => pg_name (i := 6) nd rfl (Or.inl rfl)) (fun _ _ _ _ _ => pts_one (pt_val (pd0 Mk hr (pa1 (pv 6))))) (fun _ _ _ _ _ => pv 6)))) (pe_glob (v := .int 6) (by rfl) hmm ⟨_, rfl⟩) (nomark _)) pe_nev pe_non)))))))))), ?_⟩
    have hlen : (ds.map V.ref).length = R.rows.length := by rw [List.length_map]; exact Paired.len hrs
    have hpos := F.ok.pos
    have hsix := F.six
    refine ⟨_, rfl, by show 2 ≤ sizeLine; decide, fun tp htp => ?_⟩
    have s0 : Same H (upd H tp (.tup [.ty "list", .ty "tuple"])) := Same.new htp
    refine ⟨_, tp, _, _, _, true, rfl, upd_same, .cons (.ty _) (.cons (.ty _) .nil), tyx_list (Same.rd s0 ha), kit_lt_list, true, rfl, iteF ?_⟩
    refine ⟨_, rfl, a, _, rfl, .inl (.inl (Same.rd s0 ha)), _, _, rfl, rfl, _, rfl, ?_⟩
    rw [if_pos (decide_eq_true (by rw [hlen]; omega))]
    refine ⟨RC K, mc, _, _, rfl, cr, cv, _, _, rfl, rfl, ?_⟩
    refine ⟨true, congrArg V.bl (decide_eq_true (by rw [hlen]; omega)), iteF ?_⟩
    -- the rows
    refine ⟨_, rfl, a, _, rfl, .inl (Same.rd s0 ha), ?_⟩
    refine for_it walk_enum (fun i σ H1 => Same H H1 ∧ ∃ u v, σ = [some (.ref a), some (.ref b), some (.int (R.start : Int)), u, v, none, none]) ⟨s0, none, none, rfl⟩ (fun i σ H1 _ hp => .inl (Same.rd hp.1 ha)) (fun i x σ H1 H2 hi hp y => ?_) (fun σ H1 hp => ?_)
    · obtain ⟨s1, u, v, rfl⟩ := hp
      obtain ⟨t, x, y, rfl, ht, rfl, hx, hy⟩ := y
      have hy : (ds.map V.ref)[i]? = some y := hy
      have hx : some (V.int ((i : Nat) : Int)) = some x := hx
      rw [List.getElem?_map] at hy
      cases hz : ds[i]? with
      | none => rw [hz] at hy; cases hy
      | some d =>
        rw [hz] at hy
        cases hy
        cases hx
        obtain ⟨r, hr', hd⟩ := Paired.get1 hrs hz
        have hrm := List.mem_of_getElem? hr'
        have s2 : Same H (upd H1 t (.tup [.int ((i : Nat) : Int), .ref d])) := Same.updN s1 (Same.free s1 ht)
        refine ⟨t, _, rfl, SqT.of upd_same, rfl, _, _, rfl, _, _, rfl, rfl, ?_⟩
        refine ⟨_, rfl, _, rfl, a, _, rfl, .inl (.inl (Same.rd s2 ha)), d, r, R.rows.length, ?_, hd.same s2, F.row r hrm, Nat.le_trans (F.rlen hrm) (by decide), fun H3 s3 => ?_⟩
        · rw [hlen]; rfl
        · exact ⟨true, rfl, iteF ⟨s2.trans s3, _, _, rfl⟩⟩
    obtain ⟨s1, u, v, rfl⟩ := hp
    have hl2 : (ds.map V.ref).length = R.rows.length := hlen
    refine ⟨_, rfl, _, rfl, a, _, rfl, .inl (.inl (Same.rd s1 ha)), b, R.ends, R.rows.length, by rw [hlen]; rfl, Same.rd s1 hb, F.ok.nd, F.ok.ends, by have := F.ends6; omega, fun H2 s2 => ?_⟩
    refine ⟨true, rfl, iteF ?_⟩
    have sA := s1.trans s2
    refine ⟨_, rfl, _, rfl, a, _, rfl, .inl (.inl (Same.rd sA ha)), _, _, rfl, ?_⟩
    refine ⟨true, congrArg V.bl (decide_eq_true ⟨Int.natCast_nonneg _, by rw [hlen]; have := F.ok.start; omega⟩), iteF ?_⟩
    refine ⟨_, rfl, a, ds, R.rows, rfl, .inl (.inl (Same.rd sA ha)), RowsAt.same sA hrs, fun r hr => Nat.le_trans (F.rlen hr) (by decide), by have := F.signs; omega, fun ts p H3 s3 hp h3 hnd hmem => ?_⟩
    obtain ⟨A6, l6, h6⟩ := F.sg
    have hts : ts.length ≤ 6 := by
      have := nd_sub (m := A6.map sg) hnd fun x hx => by
        obtain ⟨c, hc, rfl⟩ := (hmem x).mp hx
        exact List.mem_map.mpr ⟨c, h6 c hc, rfl⟩
      rw [List.length_map] at this
      omega
    refine ⟨p, _, rfl, .inl (SqL.of h3), _, _, rfl, rfl, false, congrArg V.bl (decide_eq_false (by rw [List.length_map]; omega)), iteF ?_⟩
    have sB := sA.trans s3
    refine ⟨_, rfl, a, ds, R.rows, rfl, .inl (.inl (Same.rd sB ha)), RowsAt.same sB hrs, fun r hr => Nat.le_trans (F.rlen hr) (by decide), by have := F.tolds; omega, fun us q H4 s4 hq h4 hpw hmu => ?_⟩
    have sC := sB.trans s4
    have hund := nodup_lt hpw
    have hul : us.length ≤ 36 := Nat.le_trans (nd_sub hund fun x hx => (hmu x).mp hx) F.tolds
    obtain ⟨A4, l4, h4s⟩ := F.tx
    obtain ⟨A5, l5, h5s⟩ := F.mks
    refine ⟨_, rfl, q, rfl, ⟨_, SqL.of h4⟩, fun D hD => ?_⟩
    refine lc_it (walk_list (xs := us.map V.str)) (fun i H1 => Same H4 H1 ∧ H1 D = some (.lst (((us.take i).filter isSg).map V.str)))
      ⟨Same.new hD, upd_same⟩ (fun i H1 _ hp => SqL.of (hp.1 _ _ h4)) (fun i x H1 H2 hi hp y => ?_) (fun H1 hp => ?_)
    · obtain ⟨s1, h1⟩ := hp
      obtain ⟨rfl, hx⟩ := y
      rw [List.getElem?_map] at hx
      cases hz : us[i]? with
      | none => rw [hz] at hx; cases hx
      | some z =>
        rw [hz] at hx
        cases hx
        have hzn := F.tok ((hmu z).mp (List.mem_of_getElem? hz))
        refine ⟨rfl, ?_⟩
        refine ⟨_, rfl, z, rfl, nm_small hzn, fun H3 s3 => ?_⟩
        have h3 := s3 _ _ h1
        have hsz := fl_take (f := isSg) hz
        cases hb : isSg z with
        | false =>
          refine ⟨false, rfl, iteF ⟨s1.trans s3, ?_⟩⟩
          rw [hb] at hsz
          rw [h3, hsz]
          simp
        | true =>
          refine ⟨true, rfl, iteT ⟨_, rfl, _, h3, ?_, Same.updN (s1.trans s3) hD, ?_⟩⟩
          · rw [List.length_map]
            have := List.length_filter_le isSg (us.take i)
            rw [List.length_take] at this
            exact lt_line (by omega)
          · rw [hb] at hsz
            rw [upd_same, hsz]
            simp
    obtain ⟨s1, h1⟩ := hp
    rw [List.length_map, List.take_length] at h1
    have l1 : (us.filter isSg).length ≤ 4 := Nat.le_trans (nd_sub (m := A4) (hund.filter _) fun x hx => h4s x ((hmu x).mp (List.mem_filter.mp hx).1) (List.mem_filter.mp hx).2) l4
    refine ⟨D, _, rfl, .inl (SqL.of h1), _, _, rfl, rfl, false, congrArg V.bl (decide_eq_false (by rw [List.length_map]; omega)), iteF ?_⟩
    refine ⟨_, rfl, q, rfl, ⟨_, SqL.of (s1 _ _ h4)⟩, fun D2 hD2 => ?_⟩
    have hq5 := s1 _ _ h4
    refine lc_it (walk_list (xs := us.map V.str)) (fun i G1 => Same H1 G1 ∧ G1 D2 = some (.lst (((us.take i).filter isMk).map V.str)))
      ⟨Same.new hD2, upd_same⟩ (fun i G1 _ hp => SqL.of (hp.1 _ _ hq5)) (fun i x G1 H2 hi hp y => ?_) (fun G1 hp => ?_)
    · obtain ⟨t1, h1⟩ := hp
      obtain ⟨rfl, hx⟩ := y
      rw [List.getElem?_map] at hx
      cases hz : us[i]? with
      | none => rw [hz] at hx; cases hx
      | some z =>
        rw [hz] at hx
        cases hx
        have hzn := F.tok ((hmu z).mp (List.mem_of_getElem? hz))
        refine ⟨rfl, ?_⟩
        refine ⟨_, rfl, z, rfl, nm_small hzn, fun H3 s3 => ?_⟩
        have h3 := s3 _ _ h1
        have hsz := fl_take (f := isMk) hz
        cases hb : isMk z with
        | false =>
          refine ⟨false, rfl, iteF ⟨t1.trans s3, ?_⟩⟩
          rw [hb] at hsz
          rw [h3, hsz]
          simp
        | true =>
          refine ⟨true, rfl, iteT ⟨_, rfl, _, h3, ?_, Same.updN (t1.trans s3) hD2, ?_⟩⟩
          · rw [List.length_map]
            have := List.length_filter_le isMk (us.take i)
            rw [List.length_take] at this
            exact lt_line (by omega)
          · rw [hb] at hsz
            rw [upd_same, hsz]
            simp
    obtain ⟨t1, g1⟩ := hp
    rw [List.length_map, List.take_length] at g1
    have l2 : (us.filter isMk).length ≤ 6 := Nat.le_trans (nd_sub (m := A5) (hund.filter _) fun x hx => h5s x ((hmu x).mp (List.mem_filter.mp hx).1) (List.mem_filter.mp hx).2) l5
    refine ⟨D2, _, rfl, .inl (SqL.of g1), _, _, rfl, rfl, false, congrArg V.bl (decide_eq_false (by rw [List.length_map]; omega)), iteF ?_⟩
    exact k _ (sC.trans (s1.trans t1))
end
end K17
end TC2
section TI
set_option Elab.async false
set_option linter.all false
set_option maxRecDepth 100000
set_option maxHeartbeats 4000000
/-! sorted(row.items()): the pairs of a row, ascending by their signs. Turned from the layer's proof for keys that are tuples. -/
namespace K17
open PySem PySem.Spec PyProof.Rows L2
/-- an entry of a row: its code, its move's place -/
abbrev entK (e : Nat × Addr) : Key × V := (Sum.inr (sg e.1), V.ref e.2)
theorem KRow.ents {H : Hp} : ∀ {kvs : List (Key × V)} {r : Row Str}, KRow H kvs r → ∃ ks : List (Nat × Addr), kvs = ks.map entK ∧ Paired (fun (e : Nat × Addr) (x : Nat × Nat × Option Str) => e.1 = x.1 ∧ MoveAt H e.2 x.2) ks r
  | _, _, .nil => ⟨[], rfl, .nil⟩
  | (k, v) :: kvs, x :: r, .cons h t => by
    obtain ⟨h1, m, h2, h3⟩ := h
    obtain ⟨ks, e, p⟩ := KRow.ents t
    have h1 : k = Sum.inr (sg x.1) := h1
    have h2 : v = .ref m := h2
    refine ⟨(x.1, m) :: ks, ?_, .cons ⟨rfl, h3⟩ p⟩
    rw [h1, h2, e]
    rfl
namespace RI
open PySem.W (KatTups KatLex kat_kind kat_lt kat_cons kat_go kat_yes kat_no kat_nil)
section
variable {prog : Program} {w : World} {A : Around} {E : Value → Shared → Prop} {s : Shared}
/-- the code of a pair's key, read off the heap -/
def codeAt (h : Heap) (v : Value) : Nat := (DT.txOf (DT.seqAt0 h (DT.refOf (some v)))).cps.toList.headD 0
def PairK (h : Heap) (v : Value) (c : Nat) (m : Addr) : Prop := ∃ (a : Addr) (t : Tok), v = .ref a ∧ IsTup h a #[.str (sg c) t, .ref m]
theorem PairK.code {h : Heap} {v : Value} {c : Nat} {m : Addr} (x : PairK h v c m) : codeAt h v = c := by
  obtain ⟨a, t, rfl, h1⟩ := x
  show (DT.txOf (DT.seqAt0 h a)).cps.toList.headD 0 = c
  rw [DT.seqAt0_of h1]
  rfl
theorem firsts_of {h : Heap} : ∀ vs : List Value, (∀ v ∈ vs, ∃ c m, PairK h v c m) → ∃ fs : List Value, KatTups h vs fs ∧ fs.length = vs.length ∧ ∀ f ∈ fs, ∃ (x : Str) (t : Tok), f = Value.str x t
  | [], _ => ⟨[], PySem.W.KatTups.nil, rfl, fun f hf => by simp at hf⟩
  | v :: vs, x => by
    obtain ⟨fs, k, hl, hi⟩ := firsts_of vs fun u hu => x u (List.mem_cons_of_mem _ hu)
    obtain ⟨c, m, a, t, rfl, ⟨o, ho, hc, n, hd⟩⟩ := x v (List.mem_cons_self ..)
    refine ⟨.str (sg c) t :: fs, PySem.W.KatTups.cons ho hc hd rfl k, by rw [List.length_cons, List.length_cons, hl], fun f hf => ?_⟩
    rcases List.mem_cons.mp hf with rfl | hf
    · exact ⟨_, _, rfl⟩
    · exact hi f hf
theorem eq_self (v : Value) {Q : Bool → Shared → Prop} (hv : (v == v) = true) (h : Q true s) : wpAny (model prog w) A (eqBool v v) Q E s := by
  unfold eqBool
  refine wpAny_holding ?_
  rw [if_pos hv]
  exact wpAny_bind (wpAny_rule (wpAny_pure h))
theorem lt_one (c d : Nat) : decide ((sg c).cps.toList < (sg d).cps.toList) = decide (c < d) := by
  show decide ([c] < [d]) = decide (c < d)
  have e : ([c] < [d]) ↔ c < d := lex_snoc_same c d []
  by_cases h : c < d
  · rw [decide_eq_true h, decide_eq_true (e.mpr h)]
  · rw [decide_eq_false h, decide_eq_false fun z => h (e.mp z)]
theorem kind_k {vs : List Value} (h2 : 2 ≤ vs.length) (x : ∀ v ∈ vs, ∃ c m, PairK s.heap v c m) (nd : ∀ v ∈ vs, ∀ u ∈ vs, codeAt s.heap v = codeAt s.heap u → v = u) (Q : SortKind → Shared → Prop)
    (h : ∀ κ, TS.Cmp prog w A s κ (pairsOf vs) (fun v => (codeAt s.heap v : Int)) → Q κ s) : wpAny (model prog w) A (keyKind' vs.toArray) Q E s := by
  obtain ⟨fs, k, hl, hi⟩ := firsts_of vs x
  refine kat_kind (T := Value.type "str") k (by omega) (fun f hf => ?_) rfl (h _ ?_)
  · obtain ⟨z, t, rfl⟩ := hi f hf
    exact .now
  · have hb : (Value.type "str" != Value.type "tuple") = true := by first | rfl | decide | simp
    rw [hb]
    intro p q hp hq Q' E' hQ
    rw [pairsOf_toList] at hp hq
    have mp := (mem_zip_self hp).2
    have mq := (mem_zip_self hq).2
    obtain ⟨c, m, py⟩ := x _ mp
    obtain ⟨d, n, pz⟩ := x _ mq
    have sm := nd _ mp _ mq
    have hQ2 : Q' (decide ((codeAt s.heap p.1 : Int) < (codeAt s.heap q.1 : Int))) s := hQ
    rw [py.code, pz.code] at hQ2 sm
    obtain ⟨a, t, e1, ⟨o, ho, hc, k1, hd⟩⟩ := id py
    obtain ⟨b, t', e2, ⟨o', ho', hc', k2, hd'⟩⟩ := id pz
    by_cases e : c = d
    · have epq := sm e
      have eab : a = b := by
        rw [e1, e2] at epq
        injection epq
      subst eab
      have eo : o = o' := Option.some.inj (ho.symm.trans ho')
      subst eo
      rw [hd] at hd'
      injection hd' with hd1 hd2
      have hm : m = n := by
        have z := congrArg (fun a : Array Value => a[1]?) hd1
        simpa using z
      subst hm
      rw [e1, e2]
      refine kat_lt ho hd ho hd ?_
      show KatLex prog w A true false Q' [(Value.str (sg c) t, Value.str (sg c) t), (Value.ref m, Value.ref m)] 0 s
      have hf : decide ((c : Int) < (d : Int)) = false := decide_eq_false (by omega)
      rw [hf] at hQ2
      refine kat_cons (eqBool_str ?_)
      have hs : (sg c == sg c) = true := beq_self_eq_true _
      rw [hs]
      refine kat_yes (kat_cons (eq_self _ (by simp) ?_))
      exact kat_yes (kat_nil hQ2)
    · rw [e1, e2]
      refine kat_lt ho hd ho' hd' ?_
      show KatLex prog w A true false Q' [(Value.str (sg c) t, Value.str (sg d) t'), (Value.ref m, Value.ref n)] 0 s
      refine kat_cons (eqBool_str ?_)
      have hs : (sg c == sg d) = false := beq_eq_false_iff_ne.mpr fun z => e (sg_inj z)
      rw [hs]
      refine kat_no ?_
      show wpAny _ _ (oneLt' true _ _) _ _ _
      refine oneLt_str ?_
      rw [lt_one]
      have e3 : decide (c < d) = decide ((c : Int) < (d : Int)) := by
        by_cases z : c < d
        · rw [decide_eq_true z, decide_eq_true (by omega)]
        · rw [decide_eq_false z, decide_eq_false (by omega)]
      rw [e3]
      exact hQ2
end
end RI
section
variable {X : Cx}
theorem dk_raw {pins : List (Addr × Obj)} {σ : L2.St} {H : Hp} {s : Shared} {d : Addr} {o : Obj} {ks : List (Nat × Addr)} (I : Inv X pins σ H s) (ha : H d = some (.frz o (.dK (ks.map entK)))) :
    (d == sysModules) = false ∧ ∃ (es : Array DictEntry) (ep : Nat), DT.Raw s.heap d es ep ∧ es.size = ks.length ∧ ks.length ≤ sizeLine ∧ (ks.map (·.1)).Nodup ∧
      ∀ (j : Nat) (e : DictEntry), es[j]? = some e → ∃ (x : Nat × Addr) (t : Tok), ks[j]? = some x ∧ e.key = .str (sg x.1) t ∧ e.val = .ref x.2 := by
  obtain ⟨h0, hz, hd, vs, kv, o1, es, ep, ho, hx, hdat, hko, hpr, hnd⟩ := I.hok d _ ha
  have hl1 : (ks.map entK).length = vs.length := Paired.length kv
  rw [List.length_map] at hl1 hz
  have hl2 := hpr.length
  rw [Array.length_toList] at hl2
  refine ⟨hd, es, ep, ⟨o1, ho, hx, hdat⟩, by omega, hz, ?_, fun j e he => ?_⟩
  · have go : ∀ {ks : List (Nat × Addr)} {vs : List (Key × Value)}, KV (ks.map entK) vs → vs.map (·.1) = (ks.map (·.1)).map fun c => (Sum.inr (sg c) : Key) := by
      intro ks
      induction ks with
      | nil => intro vs k; cases k; rfl
      | cons x ks ih =>
        intro vs k
        cases k with
        | cons h t =>
          rw [List.map_cons, List.map_cons, List.map_cons, ih t, ← h.1]
    rw [go kv] at hnd
    rw [List.nodup_iff_pairwise_ne, List.pairwise_map] at hnd
    rw [List.nodup_iff_pairwise_ne]
    exact hnd.imp fun h e => h (by rw [e])
  · have go : ∀ {ks : List (Nat × Addr)} {vs : List (Key × Value)} {l : List DictEntry} {j : Nat}, KV (ks.map entK) vs → Pairs (mixKind X.prog X.w) l vs → l[j]? = some e → ∃ (x : Nat × Addr) (t : Tok), ks[j]? = some x ∧ e.key = .str (sg x.1) t ∧ e.val = .ref x.2 := by
      intro ks
      induction ks with
      | nil =>
        intro vs l j k p h
        cases k
        cases p
        simp at h
      | cons x ks ih =>
        intro vs l j k p h
        cases k with
        | cons h1 t1 =>
          cases p with
          | cons p1 p2 p3 =>
            cases j with
            | zero =>
              have e0 := Option.some.inj h
              subst e0
              rw [← h1.1] at p1
              rcases keyIs_shape (show keyIs (Sum.inr (sg x.1)) _ = true from p1) with ⟨i, t, ez, _⟩ | ⟨z, t, ez, ev⟩
              · cases ez
              · cases ez
                have r2 : RelV (V.ref x.2) _ := h1.2
                rw [← p2] at r2
                exact ⟨x, t, rfl, ev, r2⟩
            | succ j => exact ih t1 p3 h
    exact go kv hpr (by rw [Array.getElem?_toList]; exact he)
/-- row.items(), a view -/
def rItemsK : V → List V → Hp → VK → Prop := fun x xs H Q => ∃ (a : Addr) (o : Obj) (ks : List (Nat × Addr)), x = .ref a ∧ xs = [] ∧ H a = some (.frz o (.dK (ks.map entK))) ∧ ∀ p, H p = none → Q (.ref p) (upd H p (DX.itemsO p a))
theorem mt_itemsK : MtR X "dict.items" rItemsK := by
  intro pins s σ H x xs v us Q I rx rxs h
  obtain ⟨a, o, ks, rfl, rfl, ha, q⟩ := h
  cases rx
  cases rxs
  obtain ⟨hd, es, ep, raw, _⟩ := dk_raw I ha
  refine DT.callItems (es := es) (ep := ep) hd raw ?_
  have hf : H s.heap.objs.size = none := I.hok.fresh (Nat.le_refl _)
  exact ⟨.ref s.heap.objs.size, upd H s.heap.objs.size (DX.itemsO s.heap.objs.size a), I.laid (t' := s.toks) (fun b u e => Heap.get?_push_of_some _ e) (Nat.le_refl _) (DX.itemsO_ok (Heap.get?_push_size _ rfl)), rfl, q _ hf⟩
/-- sorted(row.items()) -/
def rSortRow : List V → Hp → VK → Prop := fun vs H Q => ∃ (p a : Addr) (o : Obj) (ks : List (Nat × Addr)), vs = [V.ref p] ∧ H p = some (DX.itemsO p a) ∧ H a = some (.frz o (.dK (ks.map entK))) ∧ ks.length < 64 ∧
  ∀ (H' : Hp) (l : Addr) (ps : List (Addr × Nat × Addr)), Same H H' → (ps.map (·.2)).Perm ks → (ps.map (·.2)).Pairwise (fun e f => e.1 < f.1) → H l = none → H' l = some (.lst (ps.map fun z => V.ref z.1)) →
    (∀ z ∈ ps, H' z.1 = some (.tup [.str (sg z.2.1), .ref z.2.2])) → Q (.ref l) H'
theorem cr_sortRow (hc : X.calm = true) : CallR X (.builtin "sorted") rSortRow := by
  intro pins s σ H xs us Q I r h
  obtain ⟨p, a, o, ks, rfl, hp, ha, h64, q⟩ := h
  obtain rfl := Vals.ref1 r
  have view : s.heap.IsItemsView p a := (show ObjOk X.prog X.w H s.heap p (DX.itemsO p a) from I.hok p _ hp).1
  obtain ⟨hd, es, ep, raw, hsz, hzl, ndk, hent⟩ := dk_raw I ha
  have hh : X.A.handled = none := I.ok.hd hc
  refine DT.sortedI (es := es) (ep := ep) hh view raw (by rw [sizeLine_eq]; omega) fun h' tk as hk hlt hl hG => ?_
  have lak : as.length = ks.length := by omega
  have nd : as.Nodup := List.Pairwise.imp (fun h => Nat.ne_of_lt h) hG.rise
  -- the pairs that were made
  have pr : ∀ (j : Nat) (b : Addr), as[j]? = some b → ∃ (e : Nat × Addr) (t : Tok), ks[j]? = some e ∧ h'.get? b = some { cls := .type "tuple", data := .seq #[Value.str (sg e.1) t, Value.ref e.2] } := by
    intro j b hj
    obtain ⟨en, he, hg⟩ := hG.pairs j b hj
    obtain ⟨x, t, hx, hkey, hval⟩ := hent j en he
    rw [hkey, hval] at hg
    exact ⟨x, t, hx, hg⟩
  have hob : (h'.push { cls := .type "list", data := .seq (as.map Value.ref).toArray }).get? h'.objs.size = some (seqObj "list" (as.map Value.ref).toArray 0) := Heap.get?_push_size _ rfl
  have kb : ∀ b o, s.heap.get? b = some o → (h'.push { cls := .type "list", data := .seq (as.map Value.ref).toArray }).get? b = some o := fun b o e => Heap.get?_push_of_some _ (hk b o e)
  have ne0 : ∀ b o, h'.get? b = some o → b ≠ h'.objs.size := fun b o e => Nat.ne_of_lt (Heap.lt_size e)
  generalize hh2 : h'.push { cls := .type "list", data := .seq (as.map Value.ref).toArray } = h2 at hob kb ⊢
  have ka : ∀ b o, h'.get? b = some o → h2.get? b = some o := fun b o e => by rw [← hh2]; exact Heap.get?_push_of_some _ e
  have pin : ∀ (j : Nat) (b : Addr), as[j]? = some b → ∃ e : Nat × Addr, ks[j]? = some e ∧ RI.PairK (TS.midHeap h2 h'.objs.size (as.map Value.ref)) (.ref b) e.1 e.2 := by
    intro j b hj
    obtain ⟨e, t, he, hg⟩ := pr j b hj
    exact ⟨e, he, b, t, rfl, ⟨_, TS.midHeap_old (ne0 _ _ hg) (ka _ _ hg), rfl, 0, rfl⟩⟩
  have cd : ∀ (j : Nat) (b : Addr) (e : Nat × Addr), as[j]? = some b → ks[j]? = some e → RI.codeAt (TS.midHeap h2 h'.objs.size (as.map Value.ref)) (.ref b) = e.1 := by
    intro j b e hj he
    obtain ⟨e', he', hp'⟩ := pin j b hj
    have ee : e' = e := Option.some.inj (he'.symm.trans he)
    rw [← ee]
    exact hp'.code
  have at_ : ∀ v ∈ as.map Value.ref, ∃ (j : Nat) (b : Addr) (e : Nat × Addr), v = .ref b ∧ as[j]? = some b ∧ ks[j]? = some e := by
    intro v hv'
    obtain ⟨b, hb, rfl⟩ := List.mem_map.mp hv'
    obtain ⟨j, hj⟩ := List.mem_iff_getElem?.mp hb
    obtain ⟨e, _, he, _⟩ := pr j b hj
    exact ⟨j, b, e, rfl, hj, he⟩
  have key_at : ∀ (i j : Nat) (e f : Nat × Addr), ks[i]? = some e → ks[j]? = some f → e.1 = f.1 → i = j := by
    intro i j e f hi hj ef
    have h1 : (ks.map (·.1))[i]? = some e.1 := by rw [List.getElem?_map, hi]; rfl
    have h2 : (ks.map (·.1))[j]? = some e.1 := by rw [List.getElem?_map, hj, ef]; rfl
    exact (List.getElem?_inj (List.getElem?_eq_some_iff.mp h1).1 ndk).mp (h1.trans h2.symm)
  refine wpAny_call_entry PyProof.Rows.slot_list_sort ⟨_, hob, rfl⟩ PyProof.Rows.entry_list_sort
    (SK.plain_sort (s := { s with heap := h2, toks := tk }) (r := fun v => (RI.codeAt (TS.midHeap h2 h'.objs.size (as.map Value.ref)) v : Int)) hob (by rw [List.length_map]; omega) (fun h2' Qk hQk => ?_) fun ps out o1 o2 o3 => ⟨.none, rfl, ?_⟩) (PyProof.Rows.args_list_sort _)
  · refine RI.kind_k (s := { s with heap := TS.midHeap h2 h'.objs.size (as.map Value.ref), toks := tk }) h2' (fun v hv' => ?_) (fun v hv' u hu' ec => ?_) Qk hQk
    · obtain ⟨j, b, e, rfl, hj, he⟩ := at_ v hv'
      obtain ⟨e', _, hp'⟩ := pin j b hj
      exact ⟨e'.1, e'.2, hp'⟩
    · obtain ⟨j, b, e, rfl, hj, he⟩ := at_ v hv'
      obtain ⟨j2, b2, e2, rfl, hj2, he2⟩ := at_ u hu'
      have ec' : RI.codeAt (TS.midHeap h2 h'.objs.size (as.map Value.ref)) (.ref b) = RI.codeAt (TS.midHeap h2 h'.objs.size (as.map Value.ref)) (.ref b2) := ec
      rw [cd j b e hj he, cd j2 b2 e2 hj2 he2] at ec'
      have ej := key_at j j2 e e2 he he2 ec'
      subst ej
      rw [Option.some.inj (hj.symm.trans hj2)]
  · show EP X pins σ Q (.ref h'.objs.size) { s with heap := sortedHeap h2 h'.objs.size (as.map Value.ref) out, toks := tk }
    obtain ⟨zs, pz, ez⟩ := perm_lift (fun z : Addr × Nat × Addr => (Value.ref z.1, Value.ref z.1)) o2 (as.zip ks) (DX.zip_self Value.ref as ks lak)
    have idx : ∀ z ∈ zs, ∃ j : Nat, as[j]? = some z.1 ∧ ks[j]? = some z.2 := by
      intro z' hz'
      obtain ⟨j, hj⟩ := List.mem_iff_getElem?.mp (pz.mem_iff.mp hz')
      exact ⟨j, List.getElem?_zip_eq_some.mp hj⟩
    have hout : out.toList = zs.map fun z => Value.ref z.1 := by
      rw [o1, ← ez, List.map_map]
      all_goals rfl
    have hperm : (zs.map (·.2)).Perm ks := by
      have e := pz.map (·.2)
      have m2 : (as.zip ks).map (·.2) = ks := List.map_snd_zip (by rw [lak]; exact Nat.le_refl _)
      rw [m2] at e
      exact e
    have hsort0 : (zs.map (·.2)).Pairwise (fun e f => e.1 ≤ f.1) := by
      rw [← ez, List.pairwise_map] at o3
      rw [List.pairwise_map]
      refine List.Pairwise.imp_of_mem (fun {x y} hx hy h => ?_) o3
      obtain ⟨j, j1, j2⟩ := idx x hx
      obtain ⟨i, i1, i2⟩ := idx y hy
      have h' : (RI.codeAt (TS.midHeap h2 h'.objs.size (as.map Value.ref)) (.ref x.1) : Int) ≤ (RI.codeAt (TS.midHeap h2 h'.objs.size (as.map Value.ref)) (.ref y.1) : Int) := h
      rw [cd j _ _ j1 j2, cd i _ _ i1 i2] at h'
      omega
    have hsort : (zs.map (·.2)).Pairwise (fun e f => e.1 < f.1) := by
      have n1 : ((zs.map (·.2)).map (·.1)).Nodup := (hperm.map (·.1)).nodup_iff.mpr ndk
      rw [List.nodup_iff_pairwise_ne, List.pairwise_map] at n1
      exact (hsort0.and n1).imp fun ⟨h1, h2⟩ => by omega
    -- behind the sort
    have kF : ∀ b o, b ≠ h'.objs.size → h2.get? b = some o → (sortedHeap h2 h'.objs.size (as.map Value.ref) out).get? b = some o := fun b o hb e => (PyProof.Rows.sortedHeap_old hb (Heap.lt_size e)).trans e
    have kS : ∀ b o, s.heap.get? b = some o → (sortedHeap h2 h'.objs.size (as.map Value.ref) out).get? b = some o := fun b o e => kF b o (ne0 _ _ (hk b o e)) (kb b o e)
    obtain ⟨eF, heF⟩ := PyProof.Rows.sortedHeap_at (vs := as.map Value.ref) (out := out) hob
    have I1 : Inv X pins σ H { s with heap := sortedHeap h2 h'.objs.size (as.map Value.ref) out, toks := tk } := I.kept (t' := tk) kS
    have hn0 : H h'.objs.size = none := I.hok.fresh (Nat.le_of_lt hlt)
    have hlen : (zs.map fun z => V.ref z.1).length ≤ sizeLine := by
      have e := hperm.length_eq
      rw [List.length_map] at e
      rw [List.length_map, sizeLine_eq]
      omega
    have rv : Vals (zs.map fun z => V.ref z.1) out.toList := by
      rw [hout]
      exact vals_maps (fun z : Addr × Nat × Addr => V.ref z.1) (fun z => Value.ref z.1) zs fun _ _ => rfl
    have I2 : Inv X pins σ (upd H h'.objs.size (.lst (zs.map fun z => V.ref z.1))) { s with heap := sortedHeap h2 h'.objs.size (as.map Value.ref) out, toks := tk } :=
      I1.take (h' := sortedHeap h2 h'.objs.size (as.map Value.ref) out) (t' := tk) (fun b ob _ e => e) (I.fpOk (Nat.le_of_lt hlt) hn0) ⟨hlen, out.toList, eF, rv, heF⟩
    obtain ⟨H2, I3, g, qt⟩ := DX.takeT (P := fun b vs => ∃ (j : Nat) (e : Nat × Addr), as[j]? = some b ∧ ks[j]? = some e ∧ vs = [.str (sg e.1), .ref e.2]) I as _ I2 nd fun b hb => by
      obtain ⟨j, hj⟩ := List.mem_iff_getElem?.mp hb
      obtain ⟨e, t, he, hg⟩ := pr j b hj
      have hbl : s.heap.objs.size ≤ b := Nat.le_of_lt (hG.above b hb)
      refine ⟨hbl, ?_, [.str (sg e.1), .ref e.2], ⟨j, e, hj, he, rfl⟩, fun H3 => ⟨(by rw [sizeLine_eq]; show 2 ≤ 16777216; omega), [Value.str (sg e.1) t, Value.ref e.2], .cons ⟨t, rfl⟩ (.cons rfl .nil), ⟨_, kF _ _ (ne0 _ _ hg) (ka _ _ hg), rfl, 0, rfl⟩⟩⟩
      rw [upd_ne (ne0 _ _ hg)]
      exact I.hok.fresh hbl
    have gr : ∀ b o, H b = some o → H2 b = some o := fun b o e => g b o (by rw [upd_ne (ne_of_none e hn0)]; exact e)
    refine ⟨.ref h'.objs.size, H2, I3, rfl, q H2 h'.objs.size zs gr hperm hsort hn0 (g _ _ upd_same) fun z' hz' => ?_⟩
    obtain ⟨i, i1, i2⟩ := idx z' hz'
    obtain ⟨vs, ⟨j, e, j1, j2, ev⟩, hH⟩ := qt z'.1 (List.mem_of_getElem? i1)
    have eij : i = j := (List.getElem?_inj (List.getElem?_eq_some_iff.mp i1).1 nd).mp (i1.trans j1.symm)
    subst eij
    have ee : e = z'.2 := Option.some.inj (j2.symm.trans i2)
    rw [ev, ee] at hH
    exact hH
end
end K17
end TI
section TC3
set_option Elab.async false
set_option linter.all false
set_option maxRecDepth 100000
set_option maxHeartbeats 4000000
namespace K17
open PySem PySem.Spec PyProof.Rows L2
/-! ### the same rows in another order -/
structure PermR (R R' : M) : Prop where
  rows : Paired (fun (r r' : Row Str) => r'.Perm r) R.rows R'.rows
  ends : R'.ends.Perm R.ends
  start : R'.start = R.start
theorem lookup_perm {α : Type} {l l' : List (Nat × α)} (h : l'.Perm l) (nd : (l.map (·.1)).Nodup) (c : Nat) : l'.lookup c = l.lookup c := by
  have nd' : (l'.map (·.1)).Nodup := (h.map (·.1)).nodup_iff.mpr nd
  cases e : l.lookup c with
  | some x => exact lookup_of_mem nd' (h.mem_iff.mpr (mem_of_lookup' e))
  | none =>
    cases e' : l'.lookup c with
    | none => rfl
    | some x =>
      have := lookup_of_mem nd (h.mem_iff.mp (mem_of_lookup' e'))
      rw [e] at this
      cases this
theorem Paired.mem2 {α β : Type} {F : α → β → Prop} : ∀ {l : List α} {k : List β} {y : β}, Paired F l k → y ∈ k → ∃ x, x ∈ l ∧ F x y
  | _, _, y, .nil, h => by simp at h
  | _, _, y, .cons r t, h => by
    rcases List.mem_cons.mp h with e | h
    · rw [e]; exact ⟨_, List.mem_cons_self, r⟩
    · obtain ⟨x, hx, f⟩ := Paired.mem2 t h
      exact ⟨x, List.mem_cons_of_mem _ hx, f⟩
theorem PermR.len {R R' : M} (p : PermR R R') : R'.rows.length = R.rows.length := (Paired.len p.rows).symm
theorem PermR.alike {R R' : M} (p : PermR R R') (ok : R.Ok) : Alike R' R where
  len := p.len
  mv := fun q c => by
    unfold Rdr.mv Rdr.row
    rw [List.getD_eq_getElem?_getD, List.getD_eq_getElem?_getD]
    cases e : R.rows[q]? with
    | none =>
      have : R'.rows[q]? = none := by
        rw [List.getElem?_eq_none_iff] at e ⊢
        rw [p.len]
        exact e
      rw [this]
    | some r =>
      obtain ⟨r', e', hp⟩ := Paired.get1 p.rows e
      rw [e']
      exact lookup_perm hp (ok.keys r (List.mem_of_getElem? e)) c
  ends := fun e => p.ends.mem_iff
  start := p.start
theorem PermR.fit {R R' : M} (p : PermR R R') (F : Fit R) : Fit R' := by
  have bk : ∀ r' ∈ R'.rows, ∃ r ∈ R.rows, r'.Perm r := fun r' h => Paired.mem2 p.rows h
  have hl := p.len
  have hs : ∀ c, c ∈ signsOf R'.rows → c ∈ signsOf R.rows := fun c h => by
    obtain ⟨r', h1, h2⟩ := List.mem_flatMap.mp h
    obtain ⟨r, h3, h4⟩ := bk r' h1
    exact List.mem_flatMap.mpr ⟨r, h3, (h4.map _).mem_iff.mp h2⟩
  have ht : ∀ c, c ∈ tolds R'.rows → c ∈ tolds R.rows := fun c h => by
    obtain ⟨r', h1, h2⟩ := List.mem_flatMap.mp h
    obtain ⟨r, h3, h4⟩ := bk r' h1
    exact List.mem_flatMap.mpr ⟨r, h3, (h4.filterMap _).mem_iff.mp h2⟩
  obtain ⟨A, a1, a2⟩ := F.sg
  obtain ⟨B, b1, b2⟩ := F.tx
  obtain ⟨C, c1, c2⟩ := F.mks
  refine ⟨⟨by rw [hl]; exact F.ok.pos, fun r h => ?_, fun r h e he => ?_, fun e he => ?_, p.ends.nodup_iff.mpr F.ok.nd, by rw [hl, p.start]; exact F.ok.start⟩, by rw [hl]; exact F.six, fun r h e he => ?_,
    ⟨A, a1, fun c h => a2 c (hs c h)⟩, ⟨B, b1, fun c h => b2 c (ht c h)⟩, ⟨C, c1, fun c h => c2 c (ht c h)⟩⟩
  · obtain ⟨r0, h3, h4⟩ := bk r h
    exact (h4.map _).nodup_iff.mpr (F.ok.keys r0 h3)
  · obtain ⟨r0, h3, h4⟩ := bk r h
    rw [hl]
    exact F.ok.goal r0 h3 e (h4.mem_iff.mp he)
  · rw [hl]
    exact F.ok.ends e (p.ends.mem_iff.mp he)
  · obtain ⟨r0, h3, h4⟩ := bk r h
    rw [hl]
    exact F.row r0 h3 e (h4.mem_iff.mp he)
/-! ### row.items() as a value -/
def tItemsV (to : TE) : TE := fun σ H Q => to σ H fun x H1 => rItemsK x [] H1 Q
theorem pe_itemsV {X : Cx} {o : Expr} {to : TE} {apos cpos : Pos} (ho : PE X o to)
    (hbase : attributeBase o "items" X.env (eval o X.env) = eval o X.env := by rfl) (hline : (apos.endLine == cpos.line) = true := by rfl) : PE X (.Call (.Attribute o "items" apos) [] [] cpos) (tItemsV to) := by
  refine ⟨fun pins s σ H Q I h => ?_⟩
  refine wpAny_Call_method0_late hbase hline (thn (ho.run pins s σ H _ I h) fun v s1 ⟨x, H1, I1, r1, q1⟩ => ?_)
  obtain ⟨a, od, ks, rfl, e0, ha, q⟩ := id q1
  cases r1
  obtain ⟨hd, es, ep, ⟨ob, hob, hx, hdat⟩, _⟩ := dk_raw I1 ha
  refine ⟨"dict", "dict.items", PySem.F.plainAttrs_dict, PySem.F.slot_dict_items, PySem.F.type_dict_items, ⟨ob, hob, hx.1⟩, fun b e => ?_, Calls.callWith_builtin rfl (PySem.evalArgs_none (mt_itemsK pins s1 σ H1 (.ref a) [] (.ref a) [] Q I1 rfl .nil q1))⟩
  cases e
  exact ⟨ob, hob, hx.2.1⟩
/-- dict(pairs) -/
def rDictP (K : PySem.W.Frag) : List V → Hp → VK → Prop := fun xs H Q => ∃ (a : Addr) (ps : List Addr) (kvs : List (Key × V)), xs = [.ref a] ∧ SqL K H a (ps.map V.ref) ∧ Paired (fun p kv => SqT K H p [kV kv.1, kv.2]) ps kvs ∧
    ∀ p, H p = none → Q (.ref p) (upd H p (.dK (mergeK [] kvs)))
theorem cr_dictP {X : Cx} {K : PySem.W.Frag} (hc : X.calm = true) (hK : X.K = K) : CallR X (.type "dict") (rDictP K) := by
  subst hK
  exact call_dictP hc
theorem merge_nd : ∀ {more : List (Key × V)} {kvs : List (Key × V)}, ((kvs ++ more).map (·.1)).Nodup → mergeK kvs more = kvs ++ more
  | [], kvs, _ => by rw [List.append_nil]; rfl
  | x :: more, kvs, nd => by
    show mergeK (putK kvs x.1 x.2) more = _
    have hn : (kvs.any fun kv => decide (kv.1 = x.1)) = false := by
      rw [List.any_eq_false]
      intro y hy hd
      have hd := of_decide_eq_true hd
      rw [List.map_append, List.nodup_append] at nd
      exact nd.2.2 y.1 (List.mem_map_of_mem hy) x.1 (by simp) hd
    have e : putK kvs x.1 x.2 = kvs ++ [x] := by
      unfold putK
      rw [if_neg (by rw [hn]; exact Bool.false_ne_true)]
    rw [e, merge_nd (by rw [List.append_assoc]; exact nd), List.append_assoc]
    rfl
theorem Paired.mem1 {α β : Type} {F : α → β → Prop} : ∀ {l : List α} {k : List β} {x : α}, Paired F l k → x ∈ l → ∃ y, y ∈ k ∧ F x y
  | _, _, x, .nil, h => by simp at h
  | _, _, x, .cons r t, h => by
    rcases List.mem_cons.mp h with e | h
    · rw [e]; exact ⟨_, List.mem_cons_self, r⟩
    · obtain ⟨y, hy, f⟩ := Paired.mem1 t h
      exact ⟨y, List.mem_cons_of_mem _ hy, f⟩
theorem Paired.mapM {α β : Type} {F G : α → β → Prop} : ∀ {l : List α} {k : List β}, Paired F l k → (∀ x y, x ∈ l → F x y → G x y) → Paired G l k
  | _, _, .nil, _ => .nil
  | _, _, .cons r t, h => .cons (h _ _ List.mem_cons_self r) (Paired.mapM t fun x y hx => h x y (List.mem_cons_of_mem _ hx))
theorem paired_perm {α β : Type} {F : α → β → Prop} {l l' : List α} (h : l'.Perm l) : ∀ {k : List β}, Paired F l k → ∃ k', Paired F l' k' ∧ k'.Perm k := by
  induction h with
  | nil => intro k p; exact ⟨k, p, .refl _⟩
  | cons x _ ih =>
    intro k p
    cases p with
    | cons r t =>
      obtain ⟨k', h1, h2⟩ := ih t
      exact ⟨_ :: k', .cons r h1, h2.cons _⟩
  | swap x y l =>
    intro k p
    cases p with
    | cons r t =>
      cases t with
      | cons r2 t => exact ⟨_, .cons r2 (.cons r t), .swap _ _ _⟩
  | trans _ _ ih1 ih2 =>
    intro k p
    obtain ⟨k1, a1, a2⟩ := ih2 p
    obtain ⟨k2, b1, b2⟩ := ih1 a1
    exact ⟨k2, b1, b2.trans a2⟩
theorem Paired.tk {α β : Type} {F : α → β → Prop} : ∀ {l : List α} {k : List β} (i : Nat), Paired F l k → Paired F (l.take i) (k.take i)
  | _, _, 0, _ => .nil
  | _, _, i + 1, .nil => .nil
  | _, _, i + 1, .cons r t => .cons r (Paired.tk i t)
section
variable {P : Program} {w : World} {K : PySem.W.Frag} {mg : Str → Option Value} {base : Heap}
/-- Reader.__init__ -/
def spInit (K : PySem.W.Frag) : Sp := fun vs H Q _ => ∃ (x dx a b : Addr) (ds : List Addr) (R : M), vs = [.ref x, .ref a, .ref b, .int (R.start : Int)] ∧ H x = some (.ins (RC K) dx []) ∧ Rd H a (.lst (ds.map V.ref)) ∧ RowsAt H ds R.rows ∧
  Rd H b (.lst (R.ends.map fun i : Nat => V.int (i : Int))) ∧ Fit R ∧
  ∀ H' R', (∀ q o, q ≠ x → H q = some o → H' q = some o) → ReaderAt (RC K) H' x R' → PermR R R' → Q .non H'
theorem scInit : FnScope ["self", "states", "ends", "start", "problem", "row"] ["self", "states", "ends", "start"] (defScope (mth 1)) := ⟨rfl, rfl, rfl, by decide +kernel, rfl, by decide +kernel, by decide +kernel⟩
/-- what a row's comprehension has made -/
def NewRows (H H1 : Hp) (D : Addr) (rs : List (Row Str)) (es : List Addr) (rs' : List (Row Str)) : Prop :=
  H1 D = some (.lst (es.map V.ref)) ∧ Paired (fun (e : Addr) (r' : Row Str) => ∃ kvs, H1 e = some (.dK kvs) ∧ KRow H kvs r') es rs' ∧ Paired (fun (r r' : Row Str) => r'.Perm r) rs rs' ∧ es.Nodup ∧ (∀ e ∈ es, H e = none) ∧ D ∉ es
theorem f_init (T : Tx K mg) (X : Rx K mg) : ∃ (fd : FuncData) (e : V), FunD K "__init__" "Reader.__init__" (defArgs (mth 1)) (defBody (mth 1)) (defScope (mth 1)) [e] [("start", .int 0)] (He.ma K (RC K) "__init__") fd ∧
    FnOk P w K mg base CX0 7 (He.ma K (RC K) "__init__") fd ["self", "states", "ends", "start"] (spInit K) := by
  have Pr : Def P w K mg base CX0 6 "reader_problem" ["states", "ends", "start"] (spProblem K) := d_problem T X
  obtain ⟨fd, e, F⟩ := X.ini
  refine ⟨fd, e, F, F.ok scInit (fun vs H Q E h => ?_) (fun cdv A outer s H vs Q E hr h => ?_)⟩
  · obtain ⟨x, dx, a, b, ds, R, rfl, _⟩ := h; rfl
  · obtain ⟨x, dx, a, b, ds, R, rfl, hx, ha, hrs, hb, Ft, k⟩ := h
    have nd := scInit.nd
    refine ⟨_, PSs.nox (pss_cons (ps_set (i := 4) nd rfl (Or.inl rfl) (pd0 Pr hr (pa_cons (pv 1) (pa_cons (pv 2) (pa1 (pv 3))))))
      (pss_cons (ps_if (pt_cmpR op_notN (pv 4) pe_non (nomark _)) (pss_one ps_never) pss_nil)
      (pss_cons (ps_frz (ps_fld (pv 0) (pT T b_tuple call_tuple_of (pa1 (pe_lc (own := [("row", 5)]) (g := gName 5) (tt := tYes) rfl nd (pi_list (pv 1)) (blkOk_by (own := [("row", 5)]) (N := ["self", "states", "ends", "start", "problem", "row"]) (sc := defScope (mth 1)) (by decide +kernel))
          (fun _ _ _ _ _ => pg_name (i := 5) nd rfl (Or.inl rfl)) (fun _ _ _ _ _ => pts_nil)
          (fun _ _ _ _ _ => pT T b_dict (r := rDictP K) (cr_dictP rfl rfl) (pa1 (pB T b_sorted (cr_sortRow rfl) (pa1 (pe_itemsV (pv 5))))))))) rfl))
      (pss_cons (ps_fld (pv 0) (pT T b_tuple call_tuple_of (pa1 (pB T b_sorted cr_sorted (pa1 (pv 2))))) rfl)
      (pss_one (ps_fld (pv 0) (pv 3) rfl)))))), ?_⟩
    refine ⟨_, rfl, _, rfl, _, rfl, a, b, ds, R, rfl, ha, hrs, hb, Ft, fun H0 s0 => ?_⟩
    refine ⟨_, rfl, rfl, false, rfl, iteF ?_⟩
    have ha0 := Same.rd s0 ha
    refine ⟨_, rfl, a, rfl, ⟨_, .inl ha0⟩, fun D hD => ?_⟩
    have hlen : ds.length = R.rows.length := Paired.len hrs
    have hrs0 : RowsAt H0 ds R.rows := RowsAt.same s0 hrs
    refine lc_it (walk_list (xs := ds.map V.ref)) (fun i H1 => Same H0 H1 ∧ ∃ es rs', NewRows H0 H1 D (R.rows.take i) es rs')
      ⟨Same.new hD, [], [], upd_same, .nil, .nil, .nil, fun _ h => (nomatch h), fun h => (nomatch h)⟩ (fun i H1 _ hp => .inl (Same.rd hp.1 ha0)) (fun i y H1 H2 hi hp hy => ?_) (fun H1 hp => ?_)
    · obtain ⟨s1, es, rs', h1, h2, h3, h4, h5, h6⟩ := hp
      obtain ⟨rfl, hy⟩ := hy
      rw [List.getElem?_map] at hy
      cases hz : ds[i]? with
      | none => rw [hz] at hy; cases hy
      | some d =>
        rw [hz] at hy
        cases hy
        obtain ⟨r, hri, o, kvs, hd, hk⟩ := Paired.get1 hrs0 hz
        have hrm := List.mem_of_getElem? hri
        obtain ⟨ks, rfl, hks⟩ := hk.ents
        have hkl : ks.length = r.length := Paired.len hks
        refine ⟨rfl, ?_⟩
        refine ⟨_, rfl, d, o, ks, rfl, rfl, s1 _ _ hd, fun p hp => ?_⟩
        have hdp := s1 _ _ hd
        refine ⟨p, d, o, ks, rfl, upd_same, Same.new hp _ _ hdp, by have := Ft.rlen hrm; omega, fun H3 l ps s3 hperm hsort hl hl3 hz3 => ?_⟩
        have hpl : ps.length = ks.length := by
          have := hperm.length_eq
          rw [List.length_map] at this
          exact this
        refine ⟨l, ps.map (·.1), (ps.map (·.2)).map entK, rfl, SqL.of (by rw [hl3, List.map_map]; rfl), ?_, fun e he => ?_⟩
        · have go : ∀ qs : List (Addr × Nat × Addr), (∀ z ∈ qs, z ∈ ps) → Paired (fun p kv => SqT K H3 p [kV kv.1, kv.2]) (qs.map (·.1)) ((qs.map (·.2)).map entK) := by
            intro qs
            induction qs with
            | nil => exact fun _ => .nil
            | cons q qs ih => exact fun h => .cons (SqT.of (hz3 q (h q List.mem_cons_self))) (ih fun z hz => h z (List.mem_cons_of_mem _ hz))
          exact go ps fun _ h => h
        · have s2 : Same H2 (upd H2 p (DX.itemsO p d)) := Same.new hp
          have sA : Same H2 H3 := s2.trans s3
          have sB : Same H0 H3 := s1.trans sA
          have hD3 := sA _ _ h1
          have heD : D ≠ e := ne_of_none hD3 he
          refine ⟨_, by rw [upd_ne heD]; exact hD3, ?_, ?_⟩
          · rw [List.length_map, Paired.len h2, ← Paired.len h3, List.length_take]
            have := Ft.six
            exact lt_line (by omega)
          · have he0 : H0 e = none := Same.free sB he
            have nd1 : ((ps.map (·.2)).map (·.1)).Nodup := by
              have q : ((ps.map (·.2)).map (·.1)).Pairwise (· < ·) := by
                rw [List.pairwise_map]
                exact hsort
              rw [List.nodup_iff_pairwise_ne]
              exact q.imp fun h => Nat.ne_of_lt h
            have hm : mergeK [] ((ps.map (·.2)).map entK) = (ps.map (·.2)).map entK := by
              rw [merge_nd]
              · rfl
              · rw [List.nil_append, List.map_map]
                rw [List.nodup_iff_pairwise_ne, List.pairwise_map] at nd1
                rw [List.nodup_iff_pairwise_ne, List.pairwise_map]
                exact nd1.imp fun h z => h (sg_inj (Sum.inr.inj z))
            rw [hm]
            -- the new row
            obtain ⟨r', hr', hpr⟩ : ∃ r', Paired (fun (e : Nat × Addr) (x : Nat × Nat × Option Str) => e.1 = x.1 ∧ MoveAt H0 e.2 x.2) (ps.map (·.2)) r' ∧ r'.Perm r := paired_perm hperm hks
            have hkr : KRow H0 ((ps.map (·.2)).map entK) r' := by
              have go : ∀ {l : List (Nat × Addr)} {r' : Row Str}, Paired (fun (e : Nat × Addr) (x : Nat × Nat × Option Str) => e.1 = x.1 ∧ MoveAt H0 e.2 x.2) l r' → KRow H0 (l.map entK) r' := by
                intro l
                induction l with
                | nil => intro r' h; cases h; exact .nil
                | cons x l ih =>
                  intro r' h
                  cases h with
                  | cons h t => exact .cons ⟨by rw [← h.1], x.2, rfl, h.2⟩ (ih t)
              exact go hr'
            have hold : ∀ b ∈ es, H3 b ≠ none ∧ b ≠ D ∧ b ≠ e := fun b hb => by
              obtain ⟨y, _, kvs, e1, _⟩ := Paired.mem1 h2 hb
              have e3 := sA _ _ e1
              exact ⟨by rw [e3]; exact Option.some_ne_none _, fun z => h6 (by rw [← z]; exact hb), ne_of_none e3 he⟩
            refine ⟨Same.updN (Same.updN sB he0) hD, es ++ [e], rs' ++ [r'], by rw [upd_same, List.map_append]; rfl, ?_, ?_, ?_, ?_, ?_⟩
            · refine Paired.app (Paired.mapM h2 fun b y hb ⟨kvs, e1, e2⟩ => ⟨kvs, ?_, e2⟩) (.cons ⟨_, ?_, hkr⟩ .nil)
              · rw [upd_ne (hold b hb).2.1, upd_ne (hold b hb).2.2]
                exact sA _ _ e1
              · rw [upd_ne heD.symm, upd_same]
            · rw [take_succ_of hri]
              exact Paired.app h3 (.cons hpr .nil)
            · rw [List.nodup_append]
              refine ⟨h4, by simp, fun x hx y hy => ?_⟩
              rw [List.mem_singleton] at hy
              rw [hy]
              exact (hold x hx).2.2
            · intro x hx
              rcases List.mem_append.mp hx with hx | hx
              · exact h5 x hx
              · rw [List.mem_singleton] at hx
                rw [hx]
                exact he0
            · intro hx
              rcases List.mem_append.mp hx with hx | hx
              · exact h6 hx
              · rw [List.mem_singleton] at hx
                exact heD hx
    · obtain ⟨s1, es, rs', h1, h2, h3, h4, h5, h6⟩ := hp
      have t2 : R.rows.take (ds.map V.ref).length = R.rows := by rw [List.length_map, hlen, List.take_length]
      rw [t2] at h3
      refine ⟨D, _, rfl, .inl ⟨SqL.of h1, fun l hl => ?_⟩⟩
      have hx0 := s0 _ _ hx
      have hx1 := s1 _ _ hx0
      have hxl : x ≠ l := ne_of_none hx1 hl
      refine ⟨_, rfl, x, RC K, dx, [], rfl, by rw [upd_ne hxl]; exact hx1, X.cls, X.nR, by decide, ?_⟩
      have old : ∀ q o, H0 q = some o → q ∉ es := fun q o e hq => by
        rw [h5 q hq] at e
        cases e
      have hesl : ∀ e ∈ es, e ≠ l ∧ e ≠ x := fun e he => by
        obtain ⟨y, _, kvs, e1, _⟩ := Paired.mem1 h2 he
        exact ⟨ne_of_none e1 hl, fun z => old _ _ hx0 (z ▸ he)⟩
      refine ⟨es, frzTo_all es _ _ h4 (fun e he => ?_) fun H2 f1 f2 => ?_⟩
      · obtain ⟨y, _, kvs, e1, _⟩ := Paired.mem1 h2 he
        exact ⟨.dK kvs, by rw [upd_ne (hesl e he).2, upd_ne (hesl e he).1]; exact e1, trivial⟩
      have keep2 : ∀ q o, q ≠ x → H0 q = some o → H2 q = some o := fun q o hq e => by
        have hq1 := s1 _ _ e
        rw [f1 q (old q o e), upd_ne hq, upd_ne (ne_of_none hq1 hl)]
        exact hq1
      have hrows2 : RowsAt H2 es rs' := Paired.mapM h2 fun e r' he ⟨kvs, e1, e2⟩ => by
        obtain ⟨od, e3⟩ := f2 e he (.dK kvs) (by rw [upd_ne (hesl e he).2, upd_ne (hesl e he).1]; exact e1)
        refine ⟨od, kvs, e3, Paired.mapP e2 fun kv en ⟨a1, m, a2, a3⟩ => ⟨a1, m, a2, ?_⟩⟩
        refine keep2 m _ (fun z => ?_) a3
        rw [z] at a3
        rw [show H0 x = _ from a3] at hx0
        cases hx0
      have hxes : x ∉ es := old _ _ hx0
      have hx2 : H2 x = some (.ins (RC K) dx [("rows", .ref l)]) := by
        rw [f1 x hxes, upd_same]
        rfl
      have hles : l ∉ es := fun z => by
        have := (hesl l z).1
        exact this rfl
      have hl2 : H2 l = some (.tup (es.map V.ref)) := by rw [f1 l hles, upd_ne hxl.symm, upd_same]
      have hb0 := Same.rd s0 hb
      have hbx : b ≠ x := fun z => by
        rw [z] at hb0
        rcases hb0 with q | ⟨o, q⟩
        · rw [hx0] at q; cases q
        · rw [hx0] at q; cases q
      have hb2 : Rd H2 b (.lst (R.ends.map fun i : Nat => V.int (i : Int))) := by
        rcases hb0 with q | ⟨o, q⟩
        · exact .inl (keep2 _ _ hbx q)
        · exact .inr ⟨o, keep2 _ _ hbx q⟩
      have em : (R.ends.map fun i : Nat => V.int (i : Int)) = (R.ends.map fun i : Nat => (i : Int)).map V.int := by rw [List.map_map]; rfl
      refine ⟨_, rfl, b, R.ends.map (fun i : Nat => (i : Int)), rfl, .inl (by rw [← em]; exact hb2), by rw [List.length_map]; have := Ft.ends6; omega, fun ns' p hperm hsort hp => ?_⟩
      obtain ⟨en, hen, rfl⟩ := perm_lift (fun n : Nat => (n : Int)) hperm R.ends rfl
      refine ⟨p, _, rfl, .inl ⟨SqL.of upd_same, fun l3 hl3 => ?_⟩⟩
      have hl3p : l3 ≠ p := fun z => by
        rw [z, upd_same] at hl3
        cases hl3
      have hl30 : H2 l3 = none := by
        rw [upd_ne hl3p] at hl3
        exact hl3
      have hx3 : x ≠ p := ne_of_none hx2 hp
      have hx4 : x ≠ l3 := ne_of_none hx2 hl30
      refine ⟨_, rfl, x, RC K, dx, [("rows", .ref l)], rfl, by rw [upd_ne hx4, upd_ne hx3]; exact hx2, X.cls, X.nE, by show 1 < 1000; decide, ?_⟩
      refine ⟨_, rfl, _, rfl, x, RC K, dx, _, rfl, upd_same, X.cls, X.nS, by show 2 < 1000; decide, ?_⟩
      have keep4 : ∀ q o, q ≠ x → H2 q = some o → (upd (upd (upd (upd H2 p (.lst ((en.map fun n : Nat => (n : Int)).map V.int))) l3 (.tup ((en.map fun n : Nat => (n : Int)).map V.int))) x
          (.ins (RC K) dx (putF "end_list" (.ref l3) [("rows", .ref l)]))) x (.ins (RC K) dx (putF "own_start" (.int (R.start : Int)) (putF "end_list" (.ref l3) [("rows", .ref l)])))) q = some o := fun q o hq e => by
        rw [upd_ne hq, upd_ne hq, upd_ne (ne_of_none e hl30), upd_ne (ne_of_none e hp)]
        exact e
      refine k _ ⟨rs', en, R.start⟩ (fun q o hq e => keep4 q o hq (keep2 q o hq (s0 _ _ e))) ⟨dx, l, l3, es, ?_, keep4 _ _ hxl.symm hl2, ?_, ?_⟩ ⟨h3, hen, rfl⟩
      · rw [upd_same]
        rfl
      · rw [upd_ne hx4.symm, upd_ne hx4.symm, upd_same, List.map_map]
        rfl
      · refine Paired.mapM hrows2 fun e r' he ⟨od, kvs, e1, e2⟩ => ⟨od, kvs, keep4 _ _ (fun z => hxes (z ▸ he)) e1, Paired.mapP e2 fun kv en ⟨a1, m, a2, a3⟩ => ⟨a1, m, a2, keep4 _ _ (fun z => ?_) a3⟩⟩
        have a3 : H2 m = _ := a3
        rw [z, hx2] at a3
        cases a3
end
end K17
end TC3
section TC4
set_option Elab.async false
set_option linter.all false
set_option maxRecDepth 100000
set_option maxHeartbeats 4000000
namespace K17
open PySem PySem.Spec PyProof.Rows L2
section
variable {K : PySem.W.Frag}
theorem init_binds {fd : FuncData} {e : V} (F : FunD K "__init__" "Reader.__init__" (defArgs (mth 1)) (defBody (mth 1)) (defScope (mth 1)) [e] [("start", .int 0)] (He.ma K (RC K) "__init__") fd) :
    ∃ its : List Value, KBn K fd ["self", "states", "ends", "start"] 3 ["start"] (fun us ws => us ++ ws) (fun vs zs => vs ++ zs) := by
  refine FunD.kbindsD F 3 ["start"] (fun us _ ws => us ++ ws) (by simp) (fun r1 _ r3 => r1.append r3) ?_
  intro T kV doc pm an cdv ct us its ws l1 l2 l3
  match us, its, ws, l1, l2, l3 with
  | [u1, u2, u3], [i1], [w1], _, _, _ =>
    refine ⟨_, rfl, ?_⟩
    rfl
end
section
variable {P : Program} {w : World} {K : PySem.W.Frag} {mg : Str → Option Value} {base : Heap}
/-- Reader(rows, ends, start=s) -/
abbrev tReader (K : PySem.W.Frag) (t tk : TA) : TE := tMakeN (RC K) 2 1 (spInit K) (fun vs zs => vs ++ zs) E0 t tk
theorem pe_reader {X : Cx} {j : Nat} {p pos : Pos} {e : Expr} {es : List Expr} {kws : List Keyword} {t tk : TA} (T : Tx X.K X.mg) (RX : Rx X.K X.mg) (hr : Room j X.A) (ha : PA X (e :: es) t) (hkw : PK X kws tk) (hj : 8 ≤ j := by decide) (hg : Gl X "Reader" := by rfl)
    (hall : (backToKw pos (keywordEach kws X.env)).all (·.1.isSome) = true := by rfl) (hks : (backToKw pos (keywordEach kws X.env)).filterMap (·.1) = [("start" : Str)] := by rfl)
    (he : starEach (e :: es) X.env = (false, eval e X.env) :: starEach es X.env := by rfl)
    (hpl : ((backTo pos (starEach (e :: es) X.env)).any (·.1) || (backToKw pos (keywordEach kws X.env)).any (·.1.isNone)) = false := by rfl) :
    PE X (.Call (.Name "Reader" p) (e :: es) kws pos) (tReader X.K t tk) := by
  obtain ⟨fd, d0, F, ok⟩ := f_init (P := X.prog) (w := X.w) (base := X.base) T RX
  obtain ⟨its, hb⟩ := init_binds F
  exact pe_makeN (E := E0) RX.mkr ok (hr.mono hj) hg RX.gC hb pass0 ha hkw hall hks (by decide) he hpl
theorem rd_make {H : Hp} {a b : Addr} {ds : List Addr} {R : M} {Q : VK} (ha : Rd H a (.lst (ds.map V.ref))) (hrs : RowsAt H ds R.rows) (hb : Rd H b (.lst (R.ends.map fun i : Nat => V.int (i : Int)))) (F : Fit R)
    (k : ∀ x H' R', Same H H' → H x = none → ReaderAt (RC K) H' x R' → PermR R R' → Q (.ref x) H') :
    [V.ref a, V.ref b].length = 2 ∧ [V.int (R.start : Int)].length = 1 ∧ ∀ x dx, H x = none → H dx = none → dx ≠ x →
      spInit K ((fun vs zs => vs ++ zs) (V.ref x :: [V.ref a, V.ref b]) [V.int (R.start : Int)]) (upd (upd H dx (.own x)) x (.ins (RC K) dx [])) (fun v H3 => v = .non ∧ Q (.ref x) H3) E0 := by
  refine ⟨rfl, rfl, fun x dx hx hdx hne => ?_⟩
  have s : Same H (upd (upd H dx (.own x)) x (.ins (RC K) dx [])) := Same.updN (Same.new hdx) hx
  refine ⟨x, dx, a, b, ds, R, rfl, upd_same, Same.rd s ha, RowsAt.same s hrs, Same.rd s hb, F, fun H' R' ho hR hp => ⟨rfl, k x H' R' (fun q o e => ?_) hx hR hp⟩⟩
  have hqx : q ≠ x := ne_of_none e hx
  exact ho q o hqx (s q o e)
/-- a reader's field -/
theorem rd_fld {C : Addr} {H : Hp} {r : Addr} {R : M} (h : ReaderAt C H r R) : ∃ (dx rt et : Addr) (ds : List Addr), H r = some (.ins C dx (rfields rt et R.start)) ∧ H rt = some (.tup (ds.map V.ref)) ∧ H et = some (.tup (R.ends.map fun n : Nat => V.int (n : Int))) ∧ RowsAt H ds R.rows := h.ex
/-- Reader.__len__ -/
def spLen (K : PySem.W.Frag) : Sp := fun vs H Q _ => ∃ (r : Addr) (R : M), vs = [.ref r] ∧ ReaderAt (RC K) H r R ∧ Q (.int (R.rows.length : Nat)) H
theorem scLen : FnScope ["self"] ["self"] (defScope (mth 10)) := ⟨rfl, rfl, rfl, by decide +kernel, rfl, by decide +kernel, by decide +kernel⟩
theorem f_len (T : Tx K mg) (X : Rx K mg) : ∃ fd : FuncData, FnOk P w K mg base CX0 1 (He.ma K (RC K) "__len__") fd ["self"] (spLen K) ∧ Binds K fd ["self"] [] := by
  obtain ⟨fd, F⟩ := X.lenD
  refine ⟨fd, F.ok scLen (fun vs H Q E h => ?_) (fun cdv A outer s H vs Q E hr h => ?_), F.bindsN fun _ _ _ _ _ _ us hl => match us, hl with | [_], _ => rfl⟩
  · obtain ⟨r, R, rfl, _⟩ := h; rfl
  · obtain ⟨r, R, rfl, hr, k⟩ := h
    obtain ⟨dx, rt, et, ds, h1, h2, h3, h4⟩ := hr.ex
    refine ⟨_, pss_one (ps_ret (pB T b_len call_len_seq (pa1 (pe_fld (pv 0) rfl)))), ?_⟩
    refine ⟨_, rfl, r, RC K, dx, _, _, rfl, h1, X.cls, X.nR, rfl, rt, _, rfl, .inr (SqT.of h2), ?_⟩
    rw [List.length_map, Paired.len h4]
    exact k
/-- len(reader) -/
def rLenR (K : PySem.W.Frag) : List V → Hp → VK → Prop := fun vs H Q => ∃ (r : Addr) (R : M), vs = [.ref r] ∧ ReaderAt (RC K) H r R ∧ R.rows.length ≤ 6 ∧ Q (.int (R.rows.length : Nat)) H
theorem cr_lenR {X : Cx} {K : PySem.W.Frag} {j : Nat} (hK : X.K = K) (T : Tx X.K X.mg) (RX : Rx X.K X.mg) (hr : Room j X.A) (hj : 2 ≤ j := by decide) : CallR X (.builtin "len") (rLenR K) := by
  subst hK
  intro pins s σ H vs us Q I r h
  obtain ⟨a, R, rfl, hR, h6, q⟩ := h
  obtain rfl := Vals.ref1 r
  obtain ⟨fd, FN, bN⟩ := f_len (P := X.prog) (w := X.w) (base := X.base) T RX
  obtain ⟨dx, rt, et, ds, h1, h2, h3, h4⟩ := hR.ex
  have rm : Room 1 X.A.in1 := (hr.mono hj).in1
  obtain ⟨mA, J, _⟩ := ins_get I.hok h1
  obtain ⟨od, J, _⟩ := J.look
  refine Calls.call_function_entry kind_len plain_len entry_len (args_len1 _) ?_
  unfold Builtin.«len»
  refine wpAny_bind (m := oneArg "len" _) (wpAny_pure ?_)
  have e0 : Env0 X.prog X.w X.K X.mg X.base X.A.in1 X.stack s H := by
    have e := I.env0
    exact ⟨e.frames, e.mod, e.bs, e.bsz, e.funs, e.frf, e.hok, e.bare⟩
  have hsp : spLen X.K [.ref a] H (fun v H' => v = .int (R.rows.length : Nat) ∧ Q v H') E0 := ⟨a, R, rfl, hR, rfl, q⟩
  refine wpAny_bind (m := callSpecial? (.ref a) (PySem.Str.ofString "__len__")) (PySem.W.special_fn (name := "__len__") (args := []) I.kIn J RX.len (beq_iff_eq.mp RX.lenF) ?_)
  refine wpAny_call (codeAny_mono (FN.run X.A.in1 X.stack s H ⟨[.ref a], []⟩ [.ref a] [.ref a] _ E0 rm e0 (by
    have := bN s [.ref a] I.kIn rfl
    simpa using this) (.cons rfl .nil) hsp) fun r s' hq => ?_)
  cases r with
  | error e => exact hq.elim
  | ok fl =>
    cases fl with
    | ret u =>
      obtain ⟨v, H', I', rv, ev, q'⟩ := I.after hq
      subst ev
      obtain ⟨t, rfl⟩ := rv
      refine wpAny_bind (wpAny_holding (wpAny_pure ?_))
      refine wpAny_bind (wpAny_letGo ?_)
      show wpAny _ _ (if ((R.rows.length : Nat) : Int) < 0 then _ else _) _ _ _
      rw [if_neg (by omega)]
      show wpAny _ _ (if ((R.rows.length : Nat) : Int) ≥ 2 ^ 63 then _ else _) _ _ _
      rw [if_neg (by omega)]
      exact wpAny_bind (wpAny_mkInt (wpAny_pure ⟨_, rfl, ⟨.int (R.rows.length : Nat), H', I'.tok _, ⟨_, rfl⟩, q'⟩⟩))
    | next => exact hq.elim
    | brk => exact hq.elim
    | cont => exact hq.elim
end
end K17
end TC4
section TG
set_option Elab.async false
set_option linter.all false
set_option maxRecDepth 100000
set_option maxHeartbeats 4000000
/-! A for in a generator's body (the layer has while only). -/
namespace K17
open PySem PySem.Spec PyProof.Rows L2 GenW
section
variable {M : Model} {A : Around} {R : GenEnd} {Y : Protocol} {n : Nat} {s₀ : Shared} {c : Code} {fs : List Frame} {s : Shared} {env : Env}
  {Kf : Flow → Sem PySem.Fin} {Hf : Value → Sem PySem.Fin} {gd : Bool → Bool} {lv : List Value → List Value}
theorem seg_For {target iter : Expr} {body orelse : List Stmt} {pos : Pos} (hs : ∀ x, foldedSetIterable iter env x = pure x)
    (h : wpAny M (A.over c fs) (eval iter env) (fun x s1 => wpAny M (A.over c fs) (pyIter x) (fun it s2 => ∀ p, Seg M A R Y n s₀ (.forLoop target it body orelse env) (M.den (.forLoop target it body orelse env))
      (.ret (fun r => ((match r with | .ok f => (.pure f : Sem Flow) | .error e => .raise e).onRaise (cameBack env)).wrap Kf Hf gd lv) none (gd false) (lv []) c p [] :: fs) s2)
      (fun e s' => Seg M A R Y n s₀ c (Hf e) fs s') s1) (fun e s' => Seg M A R Y n s₀ c (Hf e) fs s') s) :
    Seg M A R Y n s₀ c ((exec (.For target iter body orelse pos) env).wrap Kf Hf gd lv) fs s := by
  rw [exec_For]
  refine seg_at ?_
  show Seg M A R Y n s₀ c ((eval iter env >>= fun a => foldedSetIterable iter env a >>= fun x => standAt iter.pos >>= fun _ => holding [x] (pyIter x) >>= fun it => runOwn (.forLoop target it body orelse env) env).wrap Kf Hf gd lv) fs s
  refine seg_bind_wrap (wpAny_mono h (fun x s1 h1 => ?_) fun _ _ z => z)
  rw [hs x]
  refine seg_bind_wrap (wpAny_pure ?_)
  refine seg_at ?_
  show Seg M A R Y n s₀ c ((holding [x] (pyIter x) >>= fun it => runOwn (.forLoop target it body orelse env) env).wrap Kf Hf gd lv) fs s1
  refine seg_bind_wrap (wpAny_holding (wpAny_mono h1 (fun it s2 h2 => ?_) fun _ _ z => z))
  exact seg_call h2
end
section
variable {prog : Program} {w : World} {A : Around} {R : GenEnd} {Y : Protocol} {n : Nat} {s₀ : Shared} {fs : List Frame} {s : Shared} {env : Env}
/-- what a loop's code does with an exception -/
def lotGoes (env : Env) (e : Value) : Sem PySem.Fin := (do noteFrame e env; theTreesLotGoes e : Sem Unit).wrap (fun _ => .raise e) .raise id id
theorem seg_forLoop {target : Expr} {it : Value} {body : List Stmt}
    (h : wpAny (model prog w) (A.over (.forLoop target it body [] env) fs) (pyNext it) (fun r s1 => match r with
        | none => Seg (model prog w) A R Y n s₀ (.block [] env) (.pure (.done .next)) fs s1
        | some v => wpAny (model prog w) (A.over (.forLoop target it body [] env) fs) (letOwnedTupleGo target it v) (fun _ s2 =>
            wpAny (model prog w) (A.over (.forLoop target it body [] env) fs) (assign target env v) (fun _ s3 =>
              Seg (model prog w) A R Y n s₀ (.forLoop target it body [] env) ((execs body env).wrap (fun f => match f with
                | .next | .cont => .pure (.again (.forLoop target it body [] env))
                | .brk => .pure (.done .next)
                | .ret v => .pure (.done (.ret v))) (lotGoes env) id id) fs s3)
              (fun x s' => Seg (model prog w) A R Y n s₀ (.forLoop target it body [] env) (lotGoes env x) fs s') s2)
            (fun x s' => Seg (model prog w) A R Y n s₀ (.forLoop target it body [] env) (lotGoes env x) fs s') s1)
      (fun x s' => Seg (model prog w) A R Y n s₀ (.forLoop target it body [] env) (lotGoes env x) fs s') s) :
    Seg (model prog w) A R Y n s₀ (.forLoop target it body [] env) ((model prog w).den (.forLoop target it body [] env)) fs s := by
  show Seg _ A R Y n s₀ _ ((forTurn target it body [] env).onRaise (fun x => do noteFrame x env; theTreesLotGoes x)) fs s
  have eH : (fun e => (do noteFrame e env; theTreesLotGoes e : Sem Unit).bind fun _ => (.raise e : Sem PySem.Fin)) = lotGoes env := by
    funext e
    rw [Sem.bind_eq_wrap]
    rfl
  rw [Sem.onRaise_eq_wrap, eH]
  unfold forTurn
  refine seg_at ?_
  refine seg_bind_wrap (wpAny_pure ?_)
  refine seg_bind_wrap (wpAny_onRaise (wpAny_mono h (fun r s1 h1 => ?_) fun x s' hx => wpAny_standAt hx))
  cases r with
  | none =>
    refine seg_again rfl ?_
    exact h1
  | some v =>
    refine seg_bind_wrap (wpAny_mono h1 (fun _ s2 h2 => ?_) fun _ _ z => z)
    refine seg_bind_wrap (wpAny_mono h2 (fun _ s3 h3 => ?_) fun _ _ z => z)
    rw [Sem.bind_eq_wrap', Sem.wrap_wrap]
    have e := Sem.wrap_congr (execs body env) (K := fun f => (match f with
            | .next | .cont => .pure (.again (.forLoop target it body [] env))
            | .brk => .pure (.done .next)
            | .ret v => .pure (.done (.ret v)) : Sem PySem.Fin)) (H := lotGoes env)
        (K' := fun f => Sem.wrap Sem.pure (lotGoes env) id id (match f with
            | .next | .cont => again (.forLoop target it body [] env)
            | .brk => pure (.done .next)
            | .ret v => pure (.done (.ret v)))) (H' := fun e => Sem.wrap Sem.pure (lotGoes env) id id (Sem.raise e)) id id (fun f => by cases f <;> rfl) (fun e => rfl)
    rw [e] at h3
    exact h3
end
section
variable {X : Cx}
/-- for in a generator: the invariant W by the turn, its measure, what is out, the slots, the heap -/
def tGFor (wi : TI) (g : TG) (tb : TGn) : TGn := fun D ys σ H => wi σ H fun J H1 => ∃ W : Nat → Nat → List V → L2.St → Hp → Prop, (∃ m, W 0 m ys σ H1) ∧ ∀ i m ys σ H, W i m ys σ H →
  (J.stop i H ∧ D.nx ys σ H) ∨ (J.go i H ∧ ∃ N : List V → L2.St → Hp → Prop, (∀ ys' σ' H', N ys' σ' H' → ∃ m', m' < m ∧ W (i + 1) m' ys' σ' H') ∧ ∀ x H', J.yld i H x H' → g x σ H' fun σ2 H2 => tb { D with nx := N, ct := N, bk := D.nx } ys σ2 H2)
theorem gs_for {tg iter : Expr} {body : List Stmt} {pos : Pos} {wi : TI} {g : TG} {tb : TGn} (hp : PassesOwn (model X.prog X.w) X.A X.env X.xe) (hc : X.calm = true) (hi : PI X tg iter wi) (hg : PG X tg g) (hb : GSs X body tb)
    (hs : ∀ x, foldedSetIterable iter X.env x = pure x := by intro _; rfl) : GS X (.For tg iter body [] pos) (tGFor wi g tb) := by
  refine ⟨fun A S ip R n ys s₀ c fs Kf Jf gd lv s σ H D gc hn k hI ht => ?_⟩
  obtain ⟨acc, cc, r, I⟩ := hI
  refine seg_For hs ?_
  rw [gc.over]
  refine wpAny_mono (hi.run _ s σ H _ I ht) (fun v s1 h1 => wpAny_mono h1 (fun itv s2 h2 => ?_) fun e s' he => k.exc n s₀ e s' he) fun e s' he => k.exc n s₀ e s' he
  obtain ⟨it, fp, tn, J, H2, e, I2, T, st2, f2, W, ⟨m0, w0⟩, turn⟩ := h2
  subst e
  intro p
  have hSfp : ∀ b ∈ fp, b ≠ S := fun b hb z => (f2 b hb).2.2.2.2.2 (S, lstObj acc cc) (List.mem_append_right _ List.mem_cons_self) z.symm
  have gl := fun (kk : Result → Sem PySem.Fin) => gc_loop (k := kk) (c' := .forLoop tg (.ref it) body [] X.env) (l := lv []) (kp := []) (p := p) gc rfl rfl
  have stat : ∀ {H' : Hp} {acc' : Array Value} {c' : Nat}, (∀ b ∈ fp, H' b = none) → ∀ b ∈ fp, FpOk X ((S, lstObj acc' c') :: ip) H' b := fun {H' acc' c'} hn b hb =>
    ⟨hn b hb, (f2 b hb).2.1, (f2 b hb).2.2.1, (f2 b hb).2.2.2.1, (f2 b hb).2.2.2.2.1, fun q hq => by
      rcases List.mem_append.mp hq with z | z
      · exact (f2 b hb).2.2.2.2.2 q (List.mem_append_left _ z)
      · rcases List.mem_cons.mp z with z | z
        · rw [z]; exact fun y => hSfp b hb y.symm
        · exact (f2 b hb).2.2.2.2.2 q (List.mem_append_right _ (List.mem_cons_of_mem _ z))⟩
  have loop : ∀ (m i n : Nat) (ys : List V) (s₀ s : Shared) (σ : L2.St) (H : Hp), n + ys.length = sizeLine → W i m ys σ H → GI X S ip ys σ H s → tn i s.heap → (∀ b ∈ fp, H b = none) →
      Seg (model X.prog X.w) A R (GY X S) n s₀ (.forLoop tg (.ref it) body [] X.env) ((model X.prog X.w).den (.forLoop tg (.ref it) body [] X.env))
        (.ret (fun r => ((match r with | .ok f => (.pure f : Sem Flow) | .error e => .raise e).onRaise (cameBack X.env)).wrap Kf Jf gd lv) none (gd false) (lv []) c p [] :: fs) s := by
    intro m
    induction m using Nat.strongRecOn with
    | ind m ih =>
      intro i n ys s₀ s σ H hn w hI hst hfr
      have ee : ∀ (n : Nat) (s₀ : Shared) (x : Value) (s' : Shared), X.xe x s' → Seg (model X.prog X.w) A R (GY X S) n s₀ (.forLoop tg (.ref it) body [] X.env) (lotGoes X.env x)
          (.ret (fun r => ((match r with | .ok f => (.pure f : Sem Flow) | .error e => .raise e).onRaise (cameBack X.env)).wrap Kf Jf gd lv) none (gd false) (lv []) c p [] :: fs) s' := fun n s₀ x s' hx => by
        refine seg_wrap ?_
        rw [(gl _).over]
        refine wpAny_bind (wpAny_mono (hp x s' hx) (fun _ s'' hcb => wpAny_theTreesLotGoes ?_) fun y s'' hcb => ?_)
        · exact seg_leaf (.error x) (seg_cameBack gc k hcb)
        · exact seg_leaf (.error y) (seg_cameBack gc k hcb)
      refine seg_forLoop ?_
      rw [(gl _).over]
      obtain ⟨acc, cc, r, I⟩ := hI
      rcases turn i m ys σ H w with ⟨stop, qn⟩ | ⟨go, N, hN, step⟩
      · refine wpAny_mono (T.done X rfl rfl rfl hc i _ s σ H X.xe I (stat hfr) hst stop) (fun r s4 ⟨hr, I4⟩ => ?_) fun x s' hx => ee n s₀ x s' hx
        subst hr
        exact seg_leaf (.ok .next) (k.ok n ys s₀ s4 .next hn ⟨σ, H, ⟨acc, cc, r, I4⟩, qn⟩)
      · refine wpAny_mono (T.item X rfl rfl rfl hc i _ s σ H X.xe I (stat hfr) hst go) (fun r4 s4 ⟨u, hr, h4⟩ => ?_) fun x s' hx => ee n s₀ x s' hx
        subst hr
        refine wpAny_mono h4 (fun _ s5 ⟨x, H5, I5, r5, y5, st5, fr5⟩ => ?_) fun x s' hx => ee n s₀ x s' hx
        have I5' := I5.pinned (stat fr5) (T.obj _ _ st5)
        refine wpAny_mono (hg.run _ s5 σ H5 x u _ I5' r5 (step x H5 y5)) (fun _ s6 ⟨σ6, H6, I6, q6⟩ => ?_) fun x s' hx => ee n s₀ x s' hx
        have hipS : ∀ q ∈ ip ++ pinsAt fp s5.heap, q.1 ≠ S := fun q hq => by
          rcases List.mem_append.mp hq with z | z
          · exact gc.ip q z
          · exact hSfp q.1 (of_pinsAt z).1
        have gc2 := fun (kk : Result → Sem PySem.Fin) => (⟨(gl kk).pn, hipS, (gl kk).apart, (gl kk).over, (gl kk).split, (gl kk).guard, (gl kk).gd⟩ : GC X S (ip ++ pinsAt fp s5.heap) A _ _ id)
        -- the turn's end
        have back : ∀ {ys' : List V} {σ' : L2.St} {H' : Hp} {s' : Shared}, GI X S (ip ++ pinsAt fp s5.heap) ys' σ' H' s' → GI X S ip ys' σ' H' s' ∧ tn (i + 1) s'.heap ∧ ∀ b ∈ fp, H' b = none := fun {ys' σ' H' s'} hG => by
          obtain ⟨acc', c', r', I'⟩ := hG
          have pin' : ∀ b ∈ fp, ∀ o, s5.heap.get? b = some o → s'.heap.get? b = some o ∧ H' b = none := fun b hb o e =>
            let z := I'.pin (b, o) (List.mem_append_right _ (List.mem_cons_of_mem _ (List.mem_append_right _ (mem_pinsAt hb e))))
            ⟨z.1, z.2.1⟩
          refine ⟨⟨acc', c', r', I'.pins_of fun q hq => I'.pin q (List.mem_append_right _ ?_)⟩, T.keep _ _ _ st5 fun b hb o e => (pin' b hb o e).1, fun b hb => ?_⟩
          · rcases List.mem_cons.mp hq with z | z
            · rw [z]; exact List.mem_cons_self
            · exact List.mem_cons_of_mem _ (List.mem_append_left _ z)
          · obtain ⟨o, e, _⟩ := T.obj _ _ st5 b hb
            exact (pin' b hb o e).2
        refine hb.run A S (ip ++ pinsAt fp s5.heap) R n ys s₀ _ _ _ _ id id s6 σ6 H6 { D with nx := N, ct := N, bk := D.nx } (gc2 _) hn ⟨fun n' ys' s₀' s7 f hn' hs => ?_, fun n' s₀' x s7 hx => ee n' s₀' x s7 hx⟩ ⟨acc, cc, r, I6⟩ q6
        cases f with
        | next =>
          obtain ⟨σ7, H7, hG, n7⟩ := hs
          obtain ⟨m', hm, w7⟩ := hN ys' σ7 H7 n7
          obtain ⟨b1, b2, b3⟩ := back hG
          exact seg_again rfl (ih m' hm (i + 1) n' ys' s₀' s7 σ7 H7 hn' w7 b1 b2 b3)
        | cont =>
          obtain ⟨σ7, H7, hG, n7⟩ := hs
          obtain ⟨m', hm, w7⟩ := hN ys' σ7 H7 n7
          obtain ⟨b1, b2, b3⟩ := back hG
          exact seg_again rfl (ih m' hm (i + 1) n' ys' s₀' s7 σ7 H7 hn' w7 b1 b2 b3)
        | brk =>
          obtain ⟨σ7, H7, hG, q7⟩ := hs
          exact seg_leaf (.ok .next) (k.ok n' ys' s₀' s7 .next hn' ⟨σ7, H7, (back hG).1, q7⟩)
        | ret v =>
          obtain ⟨x7, σ7, H7, hG, r7, q7⟩ := hs
          exact seg_leaf (.ok (.ret v)) (k.ok n' ys' s₀' s7 (.ret v) hn' ⟨x7, σ7, H7, (back hG).1, r7, q7⟩)
  exact loop m0 0 n ys s₀ s2 σ H2 hn w0 ⟨acc, cc, r, I2⟩ st2 fun b hb => (f2 b hb).1
/-- the form one uses -/
theorem gfor_it {J : It} {nn : Nat} {G : Hp → Prop} {Yv : Nat → Hp → V → Hp → Prop} (w : Walk J nn G Yv) {g : TG} {tb : TGn} {D : GEnds} {ys : List V} {σ : L2.St} {H : Hp} (Pv : Nat → List V → L2.St → Hp → Prop) (h0 : Pv 0 ys σ H) (hG : ∀ i ys σ H, i ≤ nn → Pv i ys σ H → G H)
    (hs : ∀ i x ys σ H H', i < nn → Pv i ys σ H → Yv i H x H' → g x σ H' fun σ2 H2 => tb { D with nx := Pv (i + 1), ct := Pv (i + 1), bk := D.nx } ys σ2 H2) (hd : ∀ ys σ H, Pv nn ys σ H → D.nx ys σ H) :
    ∃ W : Nat → Nat → List V → L2.St → Hp → Prop, (∃ m, W 0 m ys σ H) ∧ ∀ i m ys σ H, W i m ys σ H →
      (J.stop i H ∧ D.nx ys σ H) ∨ (J.go i H ∧ ∃ N : List V → L2.St → Hp → Prop, (∀ ys' σ' H', N ys' σ' H' → ∃ m', m' < m ∧ W (i + 1) m' ys' σ' H') ∧ ∀ x H', J.yld i H x H' → g x σ H' fun σ2 H2 => tb { D with nx := N, ct := N, bk := D.nx } ys σ2 H2) := by
  refine ⟨fun i m ys σ H => m = nn - i ∧ i ≤ nn ∧ Pv i ys σ H, ⟨nn, by simp, Nat.zero_le _, h0⟩, ?_⟩
  rintro i m ys σ H ⟨rfl, hi, p⟩
  have q := hG i ys σ H hi p
  by_cases hlt : i < nn
  · exact .inr ⟨w.goes i H hlt q, Pv (i + 1), fun ys' σ' H' p' => ⟨nn - (i + 1), by omega, rfl, hlt, p'⟩, fun x H' y => hs i x ys σ H H' hlt p (w.yields i H x H' hlt q y)⟩
  · have e : i = nn := by omega
    subst e
    exact .inl ⟨w.stops H q, hd ys σ H p⟩
end
end K17
end TG
section TX
set_option Elab.async false
set_option linter.all false
set_option maxRecDepth 100000
set_option maxHeartbeats 4000000
/-! An own exception class over RuntimeError with an __init__. Turned from the layer's proofs for ValueError. -/
namespace K17
open PySem PySem.Spec PyProof.Rows L2
abbrev rtTail : List Value := [.type "RuntimeError", .type "Exception", .type "BaseException", .type "object"]
section
open Builtin Builtin.ObjectAttr PySem.HandSPX
variable {prog : Program} {w : World} {A : Around} {E : Value → Shared → Prop} {R : Result → Shared → Prop} {hp : Heap} {g : Array GenState} {d : Drawn} {t : Nat} {os : OsState}
theorem exc_osaR {K : W.Frag} {name : Str} {tk : Tok} {v : Value} {x C : Addr} {fv : Array Value} {cd : ClassData}
    (X : K.In hp) (hx : hp.get? x = some { cls := .ref C, data := .fields fv }) (hcd : W.clsIn K C = some cd) (hm : cd.mro = .ref C :: rtTail) (hh : cd.hasDict = true) (ha : W.findIn K (.ref C) name = some none)
    (hq : ∀ h' tk' dx, (∀ b o, b ≠ x → hp.get? b = some o → h'.get? b = some o) → hp.objs.size ≤ dx → dx ≠ x → h'.get? x = some { cls := .ref C, dict := some dx, data := .fields fv } →
      h'.Ns1 dx (fun y => if y = name then some v else none) → R (.ok (.ret .none)) ⟨h', g, d, tk', os⟩) :
    codeAny (model prog w) A (.call (.builtin "object.__setattr__") ⟨[.ref x, .str name tk, v], []⟩) R ⟨hp, g, d, t, os⟩ := by
  have I : W.InstAt hp x { cls := .ref C, data := .fields fv } C none := ⟨hx, rfl, rfl, trivial⟩
  have SF := F.store_object
  have ne : cd.mro.isEmpty = false := by rw [hm]; rfl
  have hob : cd.mro.contains (.type "object") = true := by rw [hm]; exact (by decide +kernel : rtTail.contains (.type "object") = true)
  have hxs : x ≠ hp.objs.size := Nat.ne_of_lt (Heap.lt_size hx)
  have sub : W.Looks (model prog w) hp (isInstance (.ref x) (.type "object")) true := I.type.andThen (W.looks_mroIn X (by unfold W.mroIn; rw [hcd, Option.bind_some, if_neg (by rw [ne]; decide), hob]))
  refine codeAny_call_builtin SF.slot.plain SF.entry (@W.check_slot (model prog w) _ _ ⟨hp, g, d, t, os⟩ "object.__setattr__" "object" "__setattr__" (.ref x) [.str name tk, v] [] _ SF.kind SF.split sub (SF.args (.ref x) (.str name tk) v) ?_)
  have hmr : W.Looks (model prog w) hp (mroOf (.ref C)) cd.mro := (W.looks_clsIn X hcd).andThen .now
  have L3 : W.Looks (model prog w) hp (storeTaker? none) none := .now
  have hcls : W.Looks (model prog w) hp (classData C) cd := W.looks_clsIn X hcd
  rw [W.osa_eq, refuse_eq]
  refine wpAny_bind (wpAny_bind (I.type.at (wpAny_bind (hmr.at ?_))))
  rw [hm, refuseLoop_ref, F.store_RuntimeError.passes]
  refine wpAny_pure (wpAny_bind (I.type.at (wpAny_bind ((W.looks_findIn X ha).at (wpAny_bind (L3.at ?_))))))
  show wpAny _ _ (storeInOwnDict (.ref x) (.ref C) (.str name tk) name v false) _ _ _
  obtain ⟨nm, bs, mro, ns, qn, hd, sn, sb, ab, col, del⟩ := cd
  dsimp only at hh
  subst hh
  unfold storeInOwnDict ownDictForStores
  repeat (first | with_reducible refine store_in_new ?_ ?_ | with_reducible refine wpAny_loadPart_at hx ?_ | with_reducible refine hcls.at ?_ | wp_step)
  · exact ⟨_, #[], _, (Heap.get?_update_ne _ _ _ _ hxs.symm).trans (Heap.get?_push_at rfl rfl), rfl, fun e he => absurd he (by simp), fun _ => rfl⟩
  · intro h' tk' hn' hs
    have hx₁ : (hp.push { cls := .type "dict", data := .dict #[] }).get? x = some { cls := .ref C, data := .fields fv } := Heap.get?_push_of_some _ hx
    refine hq h' tk' hp.objs.size (fun b o hb ho => ?_) (Nat.le_refl _) hxs.symm ?_ hn'
    · exact (hs.2 b (Nat.ne_of_lt (Heap.lt_size ho))).trans ((Heap.get?_update_ne _ _ _ _ hb).trans (Heap.get?_push_of_some _ ho))
    · exact (hs.2 x hxs).trans (Heap.get?_update_self _ hx₁ rfl)
end
theorem typ_RE : typeOf (.type "RuntimeError") = pure (.type "type") := by kernel_rfl
/-- what the written part says of the class -/
structure OexR (K : PySem.W.Frag) (C : Addr) : Prop where
  cls : ∃ nm q N bs sn sub ab col dd k0 k1 k2 k3 k5, K.lookup C = some (excClassObj nm q C N bs rtTail true sn sub ab col dd k0 k1 k2 k3 k5 "RuntimeError.__new__")
  sa : PySem.W.findIn K (.ref C) "__setattr__" = some (some (.builtin "object.__setattr__"))
  exC : PySem.W.subIn K (.ref C) (.type "BaseException") = some true
  tyC : PySem.W.typeIn K (.ref C) = some (.type "type")
  kC : PySem.W.keepIn K (.ref C) = true
section
variable {X : Cx} {pins : List (Addr × Obj)} {σ : L2.St} {H : Hp} {s : Shared} {a C dx : Addr} {f : Str} {y : V} {u : Value} {fs : List (Str × V)} {Q : Unit → Shared → Prop} {E : Value → Shared → Prop} {A : Around}
/-- self.f = y, the first one -/
theorem ost_newR (T : OexR X.K C) (I : Inv X pins σ H s) (e : H a = some (exo a C none)) (hno : PySem.W.findIn X.K (.ref C) f = some none) (ry : RelV y u)
    (h : ∀ dx s', H dx = none → dx ≠ a → Inv X pins σ (upd (upd H dx (exd dx [(f, y)])) a (exo a C (some dx))) s' → Q () s') : wpAny (model X.prog X.w) A (setAttr (.ref a) f u) Q E s := by
  obtain ⟨nm, q, N, bs, sn, sub, ab, col, dd, k0, k1, k2, k3, k5, hC⟩ := T.cls
  have hcl : PySem.W.clsIn X.K C = some { name := nm, bases := bs, mro := .ref C :: rtTail, ns := N, qualname := q, hasDict := true, slotNames := sn, subclasses := sub, abstract := ab, collection := col, hasDel := false } := by unfold PySem.W.clsIn; rw [hC] <;> rfl
  obtain ⟨t1, ho⟩ := exo_at I.hok e
  obtain ⟨hp, g, d, t, os⟩ := s
  refine PySem.W.set_plain I.kIn (ox := { cls := .ref C, dict := none, data := .fields #[.ref t1, .none, .none, .none, .bool false, .none] }) (od := none) ⟨ho, rfl, rfl, trivial⟩ T.sa ?_
  refine exc_osaR I.kIn ho hcl rfl rfl hno (fun h' tk' dx k dn dne hx hn => ?_)
  have hnd : H dx = none := I.hok.fresh dn
  have nd : ∀ {b : Addr} {o : Obj}, hp.get? b = some o → b ≠ dx := fun {b o} q => Nat.ne_of_lt (Nat.lt_of_lt_of_le (Heap.lt_size q) dn)
  have na : ∀ {b : Addr}, H b = none → b ≠ a := fun {b} n z => by
    rw [z, e] at n
    cases n
  have Un1 : Un X.fs [] H (upd (upd H dx (exd dx [(f, y)])) a (exo a C (some dx))) hp h' := {
    keep := fun b o q n _ _ => k b o (na n) q
    slot := fun b o q n _ _ => ⟨o.slots, k b o (na n) q⟩
    free := fun b o q n _ => by rw [upd_ne (na n), upd_ne (nd q)]; exact n
    there := fun b o q _ => by
      by_cases hb : b = a
      · exact ⟨_, by rw [hb]; exact hx⟩
      · exact ⟨o, k b o hb q⟩
    tups := fun b xs q => by rw [upd_ne (at_ne e q exo_tup), upd_ne (ne_of_none q hnd)]; exact q
    frzs := fun b o v q => by rw [upd_ne (at_ne e q exo_frz), upd_ne (ne_of_none q hnd)]; exact q
    tbls := fun b ps q => ⟨#[], by rw [upd_ne (at_ne e q exo_tbl), upd_ne (ne_of_none q hnd), q]; simp⟩ }
  refine h dx _ hnd dne (I.un (t' := tk') Un1 fun b o q => ?_)
  by_cases hb : b = a
  · subst hb
    rw [upd_same] at q
    cases q
    exact exo_ok hx
  · rw [upd_ne hb] at q
    by_cases hd : b = dx
    · subst hd
      rw [upd_same] at q
      cases q
      exact exd_ok hn (relO_put (fs := []) ry fun g => True.intro)
    · rw [upd_ne hd] at q
      exact (I.hok b o q).stay (fun c v hc z => k c v (by
          rcases hc with hc | hc
          · rw [hc]
            exact hb
          · exact at_ne e hc exo_own) z)
        (fun c hc => by rw [upd_ne (at_ne e hc exo_own), upd_ne (ne_of_none hc hnd)]; exact hc) (fun c xs hc => by rw [upd_ne (at_ne e hc exo_tup), upd_ne (ne_of_none hc hnd)]; exact hc)
/-- ValueError.__init__(self, ..): nothing of it is told -/
theorem oinit_okR {us : List Value} {Q : Value → Shared → Prop} (T : OexR X.K C) (I : Inv X pins σ H s) (e : H a = some (exo a C none)) (hl : us.length ≤ sizeLine) (h : ∀ s', Inv X pins σ H s' → Q .none s') :
    wpAny (model X.prog X.w) A (call (.builtin "RuntimeError.__init__") (.ref a :: us)) Q E s := by
  obtain ⟨nm, q, N, bs, sn, sub, ab, col, dd, k0, k1, k2, k3, k5, hC⟩ := T.cls
  obtain ⟨t1, ho⟩ := exo_at I.hok e
  obtain ⟨hp, g, d, t, os⟩ := s
  refine wpAny_call (PySem.HandSPX.init_base F.excBase_RuntimeError (fun Y => rfl) (I.kIn _ _ hC) ho hl fun h' t2 k hx => ?_)
  have J := I.write (t' := t) (x := a) (e := a) (o := exo a C none) (by rw [e]; exact True.intro) (.inl rfl) k ⟨_, hx⟩ (exo_ok hx)
  have eu : upd H a (exo a C none) = H := by
    funext b
    by_cases hb : b = a
    · rw [hb, upd_same, e]
    · rw [upd_ne hb]
  rw [eu] at J
  exact h _ J
end
/-- RuntimeError.__init__(self, ..) -/
def tRtI (K : PySem.W.Frag) (ta : TA) : TE := fun σ H Q => ta σ H fun vs H1 => ∃ (a C : Addr) (ws : List V), vs = .ref a :: ws ∧ ws.length ≤ 1000 ∧ OexR K C ∧ H1 a = some (exo a C none) ∧ Q .non H1
/-- self.f = e, the first one -/
def tOstR (K : PySem.W.Frag) (f : Str) (to te : TE) : TS := fun D σ H => te σ H fun y H1 => to σ H1 fun x H2 => ∃ a C : Addr, x = .ref a ∧ OexR K C ∧ PySem.W.findIn K (.ref C) f = some none ∧
  H2 a = some (exo a C none) ∧ ∀ dx, H2 dx = none → dx ≠ a → D.nx σ (upd (upd H2 dx (exd dx [(f, y)])) a (exo a C (some dx)))
section
variable {X : Cx} {o e : Expr} {es : List Expr} {to te : TE} {ta : TA} {f : Str} {p p' p1 p2 pos : Pos}
theorem pe_rtinit {pl : Sem Bool} (hg : Gl X "RuntimeError") (hm : X.mg "RuntimeError" = none) (vV : PySem.W.findCls X.K (.type "RuntimeError") (.type "type") "__init__" = some (.val (.builtin "RuntimeError.__init__"))) (ha : PA X (e :: es) ta)
    (hc : eval (.Call (.Attribute (.Name "RuntimeError" p1) "__init__" p2) (e :: es) [] pos) X.env = (do
      let ov ← eval (.Name "RuntimeError" p1) X.env
      standAt p2.atName
      let (f, first) ← holding [ov] (getMethod ov "__init__" pl)
      callWith pos f first (backTo pos (starEach (e :: es) X.env)) (backToKw pos (keywordEach [] X.env))) := by rfl)
    (he : starEach (e :: es) X.env = (false, eval e X.env) :: starEach es X.env := by rfl) (hpl : (backTo pos (starEach es X.env)).any (·.1) = false := by rfl) :
    PE X (.Call (.Attribute (.Name "RuntimeError" p1) "__init__" p2) (e :: es) [] pos) (tRtI X.K ta) := by
  refine ⟨fun pins s σ H Q I h => ?_⟩
  refine PySem.W.methodCall_KW (ld_blt I hg hm PyProof.Rows.Boot.«RuntimeError» ?_ (by decide) (by decide)) hc
  obtain ⟨m, fr⟩ := I.fr
  refine PySem.W.method_type fr I.ok.mod.kin typ_RE (by decide +kernel) vV (by decide +kernel) ?_
  show wpAny _ _ (callWith pos (Value.builtin "RuntimeError.__init__") [] (backTo pos (starEach (e :: es) X.env)) []) _ _ _
  refine PyProof.Rows.callWith_method1 (thn (ha.run pos pins _ σ H _ (I.tok _) h) fun us s1 ⟨vs, H1, I1, r1, a, C, ws, ev, hl, T, ea, q⟩ => ?_) he hpl
  subst ev
  cases r1 with
  | @cons _ u0 _ ur ra rw' =>
    obtain rfl : u0 = Value.ref a := ra
    have hlen : ur.length ≤ sizeLine := by
      rw [← Paired.length rw', sizeLine_eq]
      omega
    exact oinit_okR T I1 ea hlen fun s' J => ⟨.non, H1, J, rfl, q⟩
theorem ps_ostR (ho : PE X o to) (he : PE X e te) (hs : swapsWith e (some (.Attribute o f p')) pos.line X.env = pure false := by rfl) : PS X (.Assign [.Attribute o f p'] e pos) (tOstR X.K f to te) := by
  refine ⟨fun pins s σ H D I h => ?_⟩
  refine plainObj_wpAny_Assign_Attribute (thn (he.run pins s σ H _ I h) fun v s1 ⟨y, H1, I1, r1, q1⟩ => thn (ho.run pins s1 σ H1 _ I1 q1) fun u s2 ⟨x, H2, I2, r2, a, C, ex, T, hno, ea, q⟩ => ?_) hs
  subst ex
  obtain rfl : u = Value.ref a := r2
  exact ost_newR T I2 ea hno r1 fun dx s' n ne J => ⟨σ, _, J, q dx n ne⟩
theorem pmk_oexR {CX : CXT} {x : Str} {C fI : Addr} {k : Nat} {fd : FuncData} {ps : List Str} {sp : Sp} {ds : List Value} {dvs : List V} (T : OexR X.K C) (iC : PySem.W.findIn X.K (.ref C) "__init__" = some (some (.ref fI))) (tI : PySem.W.typeIn X.K (.ref fI) = some (.type "function"))
    (F1 : FnOk X.prog X.w X.K X.mg X.base CX k fI fd ps sp) (hr : Room (k + 1) X.A) (hb : Binds X.K fd ps ds) (hd : Vals dvs ds) (hx : Passes CX X (fun _ _ _ => False)) (hg : Gl X x) (hm : X.mg x = some (.ref C)) (ha : PA X (e :: es) ta)
    (hdb : (x == ("__debug__" : Str)) = false := by decide) (he : starEach (e :: es) X.env = (false, eval e X.env) :: starEach es X.env := by rfl) (hpl : (backTo pos (starEach es X.env)).any (·.1) = false := by rfl) :
    PMk X (.Call (.Name x p) (e :: es) [] pos) (tMkO C sp dvs ta) := by
  intro pins s σ H Q I h
  obtain ⟨nm, q, N, bs, sn, sub, ab, col, dd, k0, k1, k2, k3, k5, hC⟩ := T.cls
  refine wpAny_Call_Name_kw (ld_glob I hg hm ?_ hdb)
  refine PySem.W.callWith_K (h₀ := X.base) I.ok.mod.kin T.kC (thn (ha.run pos pins s σ H _ I h) fun us s1 ⟨vs, H1, I1, r1, hz, q1⟩ => ⟨I1.kIn, ?_⟩) he hpl
  show wpAny _ _ (call (.ref C) us) _ _ _
  obtain ⟨hp, g, dr, tk, os⟩ := s1
  have hsz : hp.objs.size ≤ hp.objs.size + 1 := Nat.le_succ _
  have hn : H1 (hp.objs.size + 1) = none := I1.hok.fresh hsz
  have hq := q1 (hp.objs.size + 1) hn
  have kk : ∀ b o, hp.get? b = some o → ((hp.push (PySem.W.kdv_tup us)).push (PySem.HandSPX.excO C hp.objs.size)).get? b = some o := fun b o e => Heap.get?_push_of_some _ (Heap.get?_push_of_some _ e)
  have hget : ((hp.push (PySem.W.kdv_tup us)).push (PySem.HandSPX.excO C hp.objs.size)).get? (hp.objs.size + 1) = some (PySem.HandSPX.excO C hp.objs.size) := by heap_get
  have I2 : Inv X pins σ (upd H1 (hp.objs.size + 1) (exo (hp.objs.size + 1) C none)) ⟨(hp.push (PySem.W.kdv_tup us)).push (PySem.HandSPX.excO C hp.objs.size), g, dr, tk, os⟩ :=
    I1.laid (t' := tk) (a := hp.objs.size + 1) (o := exo (hp.objs.size + 1) C none) (h' := (hp.push (PySem.W.kdv_tup us)).push (PySem.HandSPX.excO C hp.objs.size)) kk hsz (exo_ok hget)
  have r2 : Vals (V.ref (hp.objs.size + 1) :: (vs ++ dvs)) (Value.ref (hp.objs.size + 1) :: (us ++ ds)) := .cons rfl (r1.append hd)
  have hl : (Value.ref (hp.objs.size + 1) :: us ++ ds).length = ps.length := by
    have e := r2.length
    rw [F1.len _ _ _ _ hq] at e
    exact e.symm
  have hus : us.length ≤ sizeLine := by
    rw [← Paired.length r1, sizeLine_eq]
    omega
  refine wpAny_call (PySem.HandSPX.call_own F.excBase_RuntimeError (fun Y => rfl) (I1.kIn _ _ hC) (PySem.W.looks_findIn I1.kIn iC) (fun self => PySem.W.bind_fn I1.kIn self tI) hus
    (codeAny_mono (F1.run _ X.stack _ _ ⟨Value.ref (hp.objs.size + 1) :: us, []⟩ (Value.ref (hp.objs.size + 1) :: (us ++ ds)) _ _ (fun _ _ _ => False) (hr.make C us []) (I2.env0.make C us []) (hb _ (Value.ref (hp.objs.size + 1) :: us) I2.kIn hl) r2 hq) fun r s' hq' => ?_))
  cases r with
  | error er => exact hx pins σ _ _ er s' I2 hq'
  | ok fl =>
    cases fl with
    | ret u =>
      obtain ⟨v, H2, os2, bare2, un2, hok2, rv, ev, d, fs, ea, ed, hd1, q2⟩ := hq'
      subst ev
      obtain ⟨h2, g2, d2, t2, os'⟩ := s'
      exact ⟨rv, mk_end (raises_own T.exC T.tyC) I1 hsz kk un2 hok2 os2 bare2 ea ed hd1 q2⟩
    | next => exact False.elim hq'
    | brk => exact False.elim hq'
    | cont => exact False.elim hq'
end
end K17
end TX
section TR
set_option Elab.async false
set_option linter.all false
set_option maxRecDepth 100000
set_option maxHeartbeats 4000000
namespace K17
open PySem PySem.Spec PyProof.Rows L2
/-! ### the moves of a page, as far as they go -/
section
variable {τ : Type}
def Rdr.trace (R : Rdr τ) : Nat → Wd → List (Nat × Option τ)
  | _, [] => []
  | q, c :: w => match R.mv q c with
    | none => []
    | some m => m :: R.trace m.1 w
theorem trace_none {R : Rdr τ} {q c : Nat} {w : Wd} (h : R.mv q c = none) : R.trace q (c :: w) = [] := by
  unfold Rdr.trace
  rw [h]
theorem trace_some {R : Rdr τ} {q c : Nat} {w : Wd} {m : Nat × Option τ} (h : R.mv q c = some m) : R.trace q (c :: w) = m :: R.trace m.1 w := by
  rw [Rdr.trace, h]
theorem trace_len {R : Rdr τ} : ∀ {w : Wd} {q : Nat}, (R.trace q w).length ≤ w.length
  | [], _ => Nat.le_refl _
  | c :: w, q => by
    cases h : R.mv q c with
    | none => rw [trace_none h]; exact Nat.zero_le _
    | some m => rw [trace_some h, List.length_cons, List.length_cons]; exact Nat.succ_le_succ trace_len
/-- the state behind the moves -/
def lastOf (q : Nat) (l : List (Nat × Option τ)) : Nat := (l.getLast?.map (·.1)).getD q
theorem lastOf_cons (q : Nat) (m : Nat × Option τ) (l : List (Nat × Option τ)) : lastOf q (m :: l) = lastOf m.1 l := by
  unfold lastOf
  cases l with
  | nil => rfl
  | cons x l =>
    rw [List.getLast?_cons_cons]
    cases h : (x :: l).getLast? with
    | none => simp at h
    | some y => rfl
theorem trace_run {R : Rdr τ} : ∀ {w : Wd} {q : Nat}, R.run q w = if (R.trace q w).length = w.length then some ((R.trace q w).filterMap (·.2), lastOf q (R.trace q w)) else none
  | [], q => rfl
  | c :: w, q => by
    rw [run_cons]
    cases h : R.mv q c with
    | none =>
      rw [trace_none h]
      simp
    | some m =>
      rw [trace_some h]
      show (R.run m.1 w).map _ = _
      rw [trace_run (w := w) (q := m.1), lastOf_cons]
      by_cases e : (R.trace m.1 w).length = w.length
      · rw [if_pos e, if_pos (by rw [List.length_cons, List.length_cons, e])]
        obtain ⟨g, t⟩ := m
        cases t <;> rfl
      · rw [if_neg e, if_neg (by rw [List.length_cons, List.length_cons]; omega)]
        rfl
theorem trace_read {R : Rdr τ} (w : Wd) : R.read w = if (R.trace R.start w).length = w.length ∧ lastOf R.start (R.trace R.start w) ∈ R.ends then some ((R.trace R.start w).filterMap (·.2)) else none := by
  unfold Rdr.read
  rw [trace_run]
  by_cases e : (R.trace R.start w).length = w.length
  · rw [if_pos e]
    show (if _ ∈ R.ends then some _ else none) = _
    by_cases f : lastOf R.start (R.trace R.start w) ∈ R.ends
    · rw [if_pos f, if_pos ⟨e, f⟩]
    · rw [if_neg f, if_neg fun z => f z.2]
  · rw [if_neg e, if_neg fun z => e z.1]
    rfl
end
/-! ### require_word -/
theorem wd_of {w : Wd} : isWd (S w) = true ↔ ∀ c ∈ w, c ∈ abc.cps.toList := by
  unfold isWd
  rw [S_list, List.all_eq_true]
  exact ⟨fun h c hc => of_decide_eq_true (h c hc), fun h c hc => decide_eq_true (h c hc)⟩
section
variable {P : Program} {w : World} {K : PySem.W.Frag} {mg : Str → Option Value} {base : Heap}
def spReqW : Sp := fun vs H Q _ => ∃ z : Str, vs = [.str z] ∧ z.length ≤ 1000 ∧ isWd z = true ∧ ∀ H', Same H H' → Q .non H'
theorem scReqW : FnScope ["value"] ["value"] (defScope (top 28)) := ⟨rfl, rfl, rfl, by decide +kernel, rfl, by decide +kernel, by decide +kernel⟩
theorem d_require_word (T : Tx K mg) : Def P w K mg base CX0 2 "require_word" ["value"] spReqW := by
  have W : Def P w K mg base CX0 1 "is_word" ["value"] (spTxt isWd) := d_is_word T
  refine def_of T 12 28 ["value"] rfl scReqW (fun _ _ _ _ _ _ us hl => match us, hl with | [_], _ => rfl) (fun vs H Q E h => ?_) (fun f cdv A outer s H vs Q E hr h => ?_)
  · obtain ⟨z, rfl, _⟩ := h; rfl
  · obtain ⟨z, rfl, hz, hw, k⟩ := h
    refine ⟨_, pss_one (ps_if (pt_not (pt_val (pd0 W hr (pa1 (pv 0))))) (pss_one ps_never) pss_nil), ?_⟩
    refine ⟨_, rfl, z, rfl, hz, fun H1 s1 => ?_⟩
    rw [hw]
    exact ⟨true, rfl, iteF (k H1 s1)⟩
/-! ### steps -/
/-- a generator def of the top -/
structure DefG (P : Program) (w : World) (K : PySem.W.Frag) (mg : Str → Option Value) (base : Heap) (k : Nat) (x : Str) (ps : List Str) (sp : SpG) : Prop where
  ex : ∃ (f : Addr) (fd : FuncData), GFn P w K mg base k f fd ps sp ∧ mg x = some (.ref f) ∧ PySem.W.keepIn K (.ref f) = true ∧ Binds K fd ps []
theorem defG_of {k : Nat} {x : Str} {ps : List Str} {sp : SpG} (T : Tx K mg) (i n : Nat) (N : List Str) (hi : defs[i]? = some (x, n)) (S : GScope N ps (defScope (top n)))
    (hb : ∀ (kV doc pm : Value) (an : Option Addr) (cdv ct : Value) (us : List Value), us.length = ps.length → bindArgs (PySem.W.fnOf x x (defArgs (top n)) (defBody (top n)) (defScope (top n)) .none kV doc pm an cdv ct) ⟨us, []⟩ = pure (ps.zip us))
    (len : ∀ vs H Q E, sp vs H Q E → vs.length = ps.length)
    (hbody : ∀ (f : Addr) (cdv : Value) (A : Around) (outer : List Env) (s : Shared) (H : Hp) (vs : List V) (Q : List V → Hp → Prop) (E : XK) (pn : List (Addr × Obj)), Room k (A.deeper (envOfC x (defScope (top n)) s.heap.objs.size f cdv)) → sp vs H Q E →
      ∃ t, GSs (gcxOf P w K mg base N x (defScope (top n)) f cdv A outer s H E pn) (defBody (top n)) t ∧ t { nx := fun ys _ H' => Q ys H', rt := fun ys v H' => v = .non ∧ Q ys H' } [] (start N vs) H) : DefG P w K mg base (k + 1) x ps sp := by
  have hm : (x, n) ∈ defs := List.mem_of_getElem? hi
  obtain ⟨fd, F⟩ := T.def_ (x, n) hm
  have hbn := F.bindsN hb
  have hkp := F.kp
  obtain ⟨oc, od, dV, kV, doc, pm, an, cdv, ct, osl, rfl, lk, hcd, _, _⟩ := F.ex
  exact ⟨He.ga K x, _, gfn_of lk hcd S len fun A outer s H vs Q E pn hr h => hbody _ cdv A outer s H vs Q E pn hr h, T.glo (x, n) hm, hkp, hbn⟩
theorem GSs.noxW {X : Cx} (h : ∀ e s, X.xe e s → False) : True := trivial
/-- a move handed out -/
def StepAt (H : Hp) (v : V) (e : Nat × Option Str) : Prop := ∃ t, v = .ref t ∧ MoveAt H t e
theorem StepAt.same {H H' : Hp} (s : Same H H') {v : V} {e : Nat × Option Str} (h : StepAt H v e) : StepAt H' v e := by
  obtain ⟨t, a, b⟩ := h
  exact ⟨t, a, s _ _ b⟩
def spSteps (K : PySem.W.Frag) : SpG := fun vs H Q _ => ∃ (r : Addr) (R : M) (wd : Wd), vs = [.ref r, .str (S wd)] ∧ ReaderAt (RC K) H r R ∧ R.Ok ∧ isWd (S wd) = true ∧ wd.length ≤ 1000 ∧
  ∀ ys H', Same H H' → Paired (StepAt H') ys (R.trace R.start wd) → Q ys H'
theorem scSteps : GScope ["reader", "page", "state", "sign", "told"] ["reader", "page"] (defScope (top 30)) := ⟨rfl, rfl, rfl, by decide +kernel, rfl, by decide +kernel, by decide +kernel⟩
end
end K17
namespace K17
open PySem PySem.Spec PyProof.Rows L2
section
variable {P : Program} {w : World} {K : PySem.W.Frag} {mg : Str → Option Value} {base : Heap}
/-- a reader's rows, looked up -/
theorem row_at {H : Hp} {ds : List Addr} {rs : List (Row Str)} (h : RowsAt H ds rs) {q : Nat} (hq : q < rs.length) : ∃ d r, ds[q]? = some d ∧ rs[q]? = some r ∧ RowAt H d r := by
  obtain ⟨d, h1, h2⟩ := Paired.get2 h (List.getElem?_eq_getElem hq)
  exact ⟨d, rs[q], h1, List.getElem?_eq_getElem hq, h2⟩
theorem mv_at {R : M} {q : Nat} {r : Row Str} (h : R.rows[q]? = some r) (c : Nat) : R.mv q c = r.lookup c := by
  unfold Rdr.mv Rdr.row
  rw [List.getD_eq_getElem?_getD, h]
  rfl
theorem d_steps (T : Tx K mg) (X : Rx K mg) : DefG P w K mg base 3 "steps" ["reader", "page"] (spSteps K) := by
  have Rw : Def P w K mg base CX0 2 "require_word" ["value"] spReqW := d_require_word T
  refine defG_of T 13 30 ["reader", "page", "state", "sign", "told"] rfl scSteps (fun _ _ _ _ _ _ us hl => match us, hl with | [_, _], _ => rfl) (fun vs H Q E h => ?_) (fun f cdv A outer s H vs Q E pn hr h => ?_)
  · obtain ⟨r, R, wd, rfl, _⟩ := h; rfl
  · obtain ⟨r, R, wd, rfl, hR, ok, hwd, hl, k⟩ := h
    have nd := scSteps.nd
    have hu := hu_of hr
    refine ⟨_, gss_cons (gs_ps (ps_expr (pd0 Rw hr (pa1 (pv 1))) rfl))
      (gss_cons (gs_ps (ps_set (i := 2) nd rfl (Or.inl rfl) (pe_fld (pv 0) rfl)))
      (gss_cons (gs_for (passes_of rfl) rfl (pi_str (pv 1)) (g := gName 3) (pg_name (i := 3) nd rfl (Or.inl rfl))
        (gss_cons (gs_ps (ps_if (pt_cmp (pc_dnotin hu (pv 3) (pe_ix ix_tup (pe_fld (pv 0) rfl) (pv 2) (fun _ _ => rfl)))) (pss_one ps_retN) pss_nil))
        (gss_cons (gs_ps (ps_asg (pe_dget hu (pe_ix ix_tup (pe_fld (pv 0) rfl) (pv 2) (fun _ _ => rfl)) (pv 3) (fun _ _ => rfl)) (g := gTup K 2 (gCons (gName 2) (gCons (gName 4) gNil))) (pg_tup rfl (pgs_cons (pg_name (i := 2) nd rfl (Or.inl rfl)) (pgs_cons (pg_name (i := 4) nd rfl (Or.inl rfl)) pgs_nil)))))
        (gss_cons (gs_yield (pe_tup (pa_cons (pv 2) (pa1 (pv 4))))) gss_nil)))) gss_nil)), ?_⟩
    obtain ⟨dx, rt, et, ds, h1, h2, h3, h4⟩ := hR.ex
    refine ⟨_, rfl, S wd, rfl, by rw [S_len]; exact hl, hwd, fun H1 s1 => ?_⟩
    refine ⟨_, rfl, r, RC K, dx, _, _, rfl, s1 _ _ h1, X.cls, X.nS, rfl, ?_⟩
    refine ⟨_, rfl, S wd, rfl, ?_⟩
    refine gfor_it walk_str (fun i ys σ H2 => Same H H2 ∧ ∃ (q : Nat) (u v : Option V) (done : List (Nat × Option Str)), σ = [some (.ref r), some (.str (S wd)), some (.int (q : Int)), u, v] ∧ q < R.rows.length ∧ Paired (StepAt H2) ys done ∧ done.length = i ∧
        R.trace R.start wd = done ++ R.trace q (wd.drop i)) ⟨s1, R.start, none, none, [], rfl, ok.start, .nil, rfl, rfl⟩ (fun _ _ _ _ _ _ => trivial) (fun i x ys σ H2 H3 hi hp y => ?_) (fun ys σ H2 hp => ?_)
    · obtain ⟨s2, q, u, v, done, rfl, hq, hys, hdl, htr⟩ := hp
      obtain ⟨rfl, c, hc, rfl⟩ := y
      have hc' : wd[i]? = some c := by
        have e : (S wd).cps[i]? = wd[i]? := by simp [S]
        rw [← e]
        exact hc
      have hil : i < wd.length := (List.getElem?_eq_some_iff.mp hc').1
      have hdrop : wd.drop i = c :: wd.drop (i + 1) := by
        rw [List.drop_eq_getElem_cons hil]
        congr 1
        exact (List.getElem?_eq_some_iff.mp hc').2
      obtain ⟨d, row, hd1, hd2, o, kvs, hd3, hk⟩ := row_at (RowsAt.same s2 h4) hq
      have hds : (ds.map V.ref)[q]? = some (.ref d) := by rw [List.getElem?_map, hd1]; rfl
      have hmv := mv_at hd2 c
      refine ⟨_, rfl, _, rfl, r, RC K, dx, _, _, rfl, s2 _ _ h1, X.cls, X.nR, rfl, _, rfl, rt, _, (q : Int), _, rfl, rfl, SqT.of (s2 _ _ h2), atI_nat hds, d, _, rfl, .inl ⟨kvs, Sum.inr (sg c), .inr ⟨o, hd3⟩, rfl, rfl⟩, ?_⟩
      rcases hk.val c with ⟨e1, e2⟩ | ⟨e, m, e1, e2, e3⟩
      · rw [e2]
        refine ⟨true, rfl, iteT ⟨rfl, k ys _ s2 ?_⟩⟩
        rw [htr, hdrop, trace_none (hmv.trans e1), List.append_nil]
        exact hys
      · rw [e2]
        refine ⟨false, rfl, iteF ?_⟩
        refine ⟨_, rfl, r, RC K, dx, _, _, rfl, s2 _ _ h1, X.cls, X.nR, rfl, _, rfl, rt, _, (q : Int), _, rfl, rfl, SqT.of (s2 _ _ h2), atI_nat hds, _, rfl, d, .ref m, rfl, .inl ⟨kvs, Sum.inr (sg c), .inr ⟨o, hd3⟩, rfl, e2.symm⟩, ?_⟩
        refine ⟨m, _, rfl, SqT.of e3, rfl, _, _, rfl, _, _, rfl, rfl, ?_⟩
        have hyl : ys.length = i := by rw [Paired.len hys, hdl]
        refine ⟨by rw [hyl]; exact lt_line (by omega), ?_⟩
        refine ⟨_, rfl, _, rfl, by show 2 ≤ sizeLine; decide, fun t ht => ?_⟩
        have s3 : Same H3 (upd H3 t (.tup [.int (e.1 : Int), toldV e.2])) := Same.new ht
        refine ⟨s2.trans s3, e.1, _, _, done ++ [e], rfl, ?_, Paired.app (Paired.mapP hys fun _ _ z => z.same s3) (.cons ⟨t, rfl, upd_same⟩ .nil), by rw [List.length_append, hdl]; rfl, ?_⟩
        · exact mv_goal ok (hmv.trans e1)
        · rw [htr, hdrop, trace_some (hmv.trans e1), List.append_assoc]
          rfl
    · obtain ⟨s2, q, u, v, done, rfl, hq, hys, hdl, htr⟩ := hp
      refine k ys _ s2 ?_
      have hn : (S wd).cps.size = wd.length := by simp [S]
      rw [htr, hn, List.drop_length]
      show Paired _ ys (done ++ [])
      rw [List.append_nil]
      exact hys
end
end K17
end TR
section TR2
set_option Elab.async false
set_option linter.all false
set_option maxRecDepth 100000
set_option maxHeartbeats 4000000
namespace K17
open PySem PySem.Spec PyProof.Rows L2
/-! ### xs != [] -/
def rNeNil (K : PySem.W.Frag) : R2 := fun x y H Q => ∃ (p q : Addr) (xs : List V), x = .ref p ∧ y = .ref q ∧ SqL K H p xs ∧ SqL K H q [] ∧ Q (.bl (!xs.isEmpty)) H
theorem op_neNil {X : Cx} (hu : X.A.units + 1 < cLine) : OpR X (compareOp .NotEq) (rNeNil X.K) := by
  intro pins s σ H x y v u Q I rx ry h
  obtain ⟨p, q, xs, rfl, rfl, hp, hq, k⟩ := h
  cases rx
  cases ry
  obtain ⟨i1, r1, l1, _⟩ := I.list hp
  obtain ⟨i2, r2, l2, _⟩ := I.list hq
  cases r2
  cases r1 with
  | nil => exact SeqAt.RcNeAt.lists (e := fun _ => true) l1.isList l2.isList rfl (by omega) (fun j h1 h2 => absurd h2 (by simp)) _ _ _ _ ⟨.bl false, H, I, rfl, k⟩
  | cons r t =>
    refine SeqAt.RcNeAt.lists_lengths l1.isList l2.isList ?_ (by omega) _ _ _ _ ⟨.bl true, H, I, rfl, k⟩
    simp
/-! ### the class Unreadable -/
def UC (K : PySem.W.Frag) : Addr := He.ga K "Unreadable"
def ust : Stmt := (clsB (top 7)).getD 0 (.Pass ⟨0, 0, 0, 0⟩)
structure Ux (K : PySem.W.Frag) (mg : Str → Option Value) : Prop where
  gC : mg "Unreadable" = some (.ref (UC K))
  ox : OexR K (UC K)
  np : PySem.W.findIn K (.ref (UC K)) "place" = some none
  ini : PySem.W.findIn K (.ref (UC K)) "__init__" = some (some (.ref (He.ma K (UC K) "__init__")))
  iniF : PySem.W.typeIn K (.ref (He.ma K (UC K) "__init__")) = some (.type "function")
  iniD : ∃ fd : FuncData, FunD K "__init__" "Unreadable.__init__" (defArgs ust) (defBody ust) (defScope ust) [] [] (He.ma K (UC K) "__init__") fd
  vV : PySem.W.findCls K (.type "RuntimeError") (.type "type") "__init__" = some (.val (.builtin "RuntimeError.__init__"))
  exm : PySem.W.exmOne K (.ref (UC K)) (.ref (UC K)) = some true
theorem passE0 {P : Program} {w : World} {X : Cx} : Passes (CX P w) X E0 := fun _ _ _ _ _ _ _ h => by
  obtain ⟨_, _, _, _, _, _, _, _, _, _, _, _, hE⟩ := h
  exact hE.elim
theorem noStop0 {K : PySem.W.Frag} : NoStop K E0 := fun _ _ _ h => h.elim
section
variable {P : Program} {w : World} {K : PySem.W.Frag} {mg : Str → Option Value} {base : Heap}
def spUI (K : PySem.W.Frag) : Sp := fun vs H Q _ => ∃ (a : Addr) (n : Nat), vs = [.ref a, .int (n : Int)] ∧ n ≤ 1000 ∧ H a = some (exo a (UC K) none) ∧
  ∀ dx, H dx = none → dx ≠ a → Q .non (upd (upd H dx (exd dx [("place", .int (n : Int))])) a (exo a (UC K) (some dx)))
theorem scUI : FnScope ["self", "place"] ["self", "place"] (defScope ust) := ⟨rfl, rfl, rfl, by decide +kernel, rfl, by decide +kernel, by decide +kernel⟩
theorem log_small {n : Nat} (h : n ≤ 1000) : ((n : Nat) : Int).natAbs.log2 < 1920 := by
  have e : ((n : Nat) : Int).natAbs = n := rfl
  rw [e]
  by_cases z : n = 0
  · rw [z]; decide
  · rw [Nat.log2_lt z]
    exact Nat.lt_of_le_of_lt h (Nat.lt_of_lt_of_le (by decide : 1000 < 2 ^ 10) (Nat.pow_le_pow_right (by decide) (by decide)))
theorem num_len : ∀ n : Fin 1001, (Str.ofString (toString ((n.val : Nat) : Int))).length ≤ 100 := by decide +kernel
theorem f_uinit (T : Tx K mg) (U : Ux K mg) : ∃ fd : FuncData, FnOk P w K mg base CX0 1 (He.ma K (UC K) "__init__") fd ["self", "place"] (spUI K) ∧ Binds K fd ["self", "place"] [] := by
  obtain ⟨fd, F⟩ := U.iniD
  refine ⟨fd, F.ok scUI (fun vs H Q E h => ?_) (fun cdv A outer s H vs Q E hr h => ?_), F.bindsN fun _ _ _ _ _ _ us hl => match us, hl with | [_, _], _ => rfl⟩
  · obtain ⟨a, n, rfl, _⟩ := h; rfl
  · obtain ⟨a, n, rfl, hn, ha, k⟩ := h
    refine ⟨_, pss_cons (ps_expr (pe_rtinit rfl (T.f "RuntimeError") U.vV (pa_cons (pv 0) (pa1 (pe_joined (.cons pe_str (.cons (pe_fmt (pv 1)) .nil)))))) rfl)
      (pss_one (ps_ostR (pv 0) (pv 1))), ?_⟩
    refine ⟨_, rfl, ?_⟩
    refine ⟨_, rfl, by decide, _, rfl, .inr ⟨(n : Int), rfl, log_small hn, _, rfl, ?_, ?_⟩⟩
    · have h1 := num_len ⟨n, by omega⟩
      have h2 : (Str.ofString (toString ((n : Nat) : Int))).cps.size ≤ 100 := h1
      show ((Str.empty ++ ("unreadable at " : Str)).cps ++ (Str.ofString (toString ((n : Nat) : Int))).cps).size ≤ sizeLine
      rw [Array.size_append]
      have h3 : (Str.empty ++ ("unreadable at " : Str)).cps.size = 14 := by decide
      rw [h3]
      exact line_of (by omega)
    · refine ⟨a, UC K, _, rfl, by show 1 ≤ 1000; decide, U.ox, ha, ?_⟩
      refine ⟨_, rfl, _, rfl, a, UC K, rfl, U.ox, U.np, ha, fun dx h1 h2 => k dx h1 h2⟩
/-- both sides of a conditional expression give v -/
theorem if_val {ta tb : TE} {σ : L2.St} {H : Hp} {Q : VK} {b : Bool} (v : V) (hA : b = true → ∀ Q : VK, Q v H → ta σ H Q) (hB : b = false → ∀ Q : VK, Q v H → tb σ H Q) (h : Q v H) : if b = true then ta σ H Q else tb σ H Q := by
  cases b with
  | true => exact iteT (hA rfl Q h)
  | false => exact iteF (hB rfl Q h)
/-- a test by or that gives c -/
theorem or_val {tb : TT} {σ : L2.St} {H : Hp} {Q : Bool → Hp → Prop} {b : Bool} (c : Bool) (hA : b = true → c = true) (hB : b = false → ∀ Q : Bool → Hp → Prop, Q c H → tb σ H Q) (h : Q c H) : if b = true then Q true H else tb σ H Q := by
  cases b with
  | true =>
    rw [hA rfl] at h
    exact iteT h
  | false => exact iteF (hB rfl Q h)
theorem atI_getLast {ys : List V} {y : V} (h : ys.getLast? = some y) : atI ys (-1) = some y := by
  obtain ⟨l, rfl⟩ := List.getLast?_eq_some_iff.mp h
  exact atI_last l y
/-- reading -/
def spReading (K : PySem.W.Frag) : Sp := fun vs H Q E => ∃ (r : Addr) (R : M) (wd : Wd), vs = [.ref r, .str (S wd)] ∧ ReaderAt (RC K) H r R ∧ R.Ok ∧ isWd (S wd) = true ∧ wd.length ≤ 900 ∧
  (∀ row p H', R.read wd = some row → Same H H' → H p = none → H' p = some (.tup (row.map V.str)) → Q (.ref p) H') ∧ (R.read wd = none → ∀ d H', Same H H' → E (.ref (UC K)) (some d) H')
theorem scReading : FnScope ["reader", "page", "behind", "last", "state", "told"] ["reader", "page"] (defScope (top 31)) := ⟨rfl, rfl, rfl, by decide +kernel, rfl, by decide +kernel, by decide +kernel⟩
theorem last_at {H : Hp} {ys : List V} {l : List (Nat × Option Str)} (h : Paired (StepAt H) ys l) (hne : ys ≠ []) (q : Nat) : ∃ t e, ys.getLast? = some (.ref t) ∧ MoveAt H t e ∧ lastOf q l = e.1 := by
  obtain ⟨y, hy⟩ : ∃ y, ys.getLast? = some y := by
    cases e : ys.getLast? with
    | none => exact absurd (List.getLast?_eq_none_iff.mp e) hne
    | some y => exact ⟨y, rfl⟩
  have hl := Paired.len h
  rw [List.getLast?_eq_getElem?] at hy
  obtain ⟨e, he, t, rfl, hm⟩ := Paired.get1 h hy
  rw [← List.getLast?_eq_getElem?] at hy
  rw [hl, ← List.getLast?_eq_getElem?] at he
  refine ⟨t, e, hy, hm, ?_⟩
  unfold lastOf
  rw [he]
  rfl
theorem inV_ints (q : Nat) (ns : List Nat) : inV (.int (q : Int)) (ns.map fun n : Nat => V.int (n : Int)) = decide (q ∈ ns) := by
  unfold inV
  rw [List.any_map]
  by_cases h : q ∈ ns
  · rw [decide_eq_true h, List.any_eq_true]
    refine ⟨q, h, ?_⟩
    show eqV (.int (q : Int)) (.int (q : Int)) = true
    simp [eqV]
  · rw [decide_eq_false h, List.any_eq_false]
    intro x hx z
    have z : eqV (.int (x : Int)) (.int (q : Int)) = true := z
    have e : x = q := by
      have z2 : (x : Int) = (q : Int) := by simpa [eqV] using z
      omega
    exact h (e ▸ hx)
theorem flat_ints (ns : List Nat) : (ns.map fun n : Nat => V.int (n : Int)).all flatV = true := by
  rw [List.all_map, List.all_eq_true]
  intro x _
  rfl
theorem d_reading (T : Tx K mg) (X : Rx K mg) (U : Ux K mg) : Def P w K mg base (CX P w) 7 "reading" ["reader", "page"] (spReading K) := by
  have St : DefG P w K mg base 3 "steps" ["reader", "page"] (spSteps K) := d_steps T X
  obtain ⟨fs, fds, GF, hms, hks, hbs⟩ := St.ex
  obtain ⟨fdu, Fu, Bu⟩ := f_uinit (P := P) (w := w) (base := base) T U
  refine def_of T 14 31 ["reader", "page", "behind", "last", "state", "told"] rfl scReading (fun _ _ _ _ _ _ us hl => match us, hl with | [_, _], _ => rfl) (fun vs H Q E h => ?_) (fun f cdv A outer s H vs Q E hr h => ?_)
  · obtain ⟨r, R, wd, rfl, _⟩ := h; rfl
  · obtain ⟨r, R, wd, rfl, hR, ok, hwd, hl, k1, k2⟩ := h
    have nd := scReading.nd
    have hu := hu_of hr
    refine ⟨_, pss_cons (ps_set (i := 2) nd rfl (Or.inl rfl) (pe_listG (pgen_call (E := E0) GF (hr.mono (by decide)) rfl hms hks hbs .nil (pa_cons (pv 0) (pa1 (pv 1)))) passE0 noStop0 (hr.mono (by decide)) rfl (T.f "list") b_list))
      (pss_cons (ps_set (i := 3) nd rfl (Or.inl rfl) (pe_ifExp (pt_cmpR (op_neNil hu) (pv 2) (pe_lst pa_nil) (nomark _)) (pe_ix ix_tup (pe_ix ix_list (pv 2) (pe_un un_neg pe_int) (fun _ _ => rfl)) pe_int (fun _ _ => rfl)) (pe_fld (pv 0) rfl)))
      (pss_cons (ps_if (PW.pt (pw_or (pt_cmpR op_lt (pB T b_len call_len_seq (pa1 (pv 2))) (pB T b_len call_len_str (pa1 (pv 1))) (nomark _)) (pw_or1 (pt_cmpR op_notIn_seq (pv 3) (pe_fld (pv 0) rfl) (by rfl)))))
          (pss_one (ps_raise rfl (takes_of rfl rfl rfl rfl) (pmk_oexR U.ox U.ini U.iniF Fu (hr.mono (by decide)) Bu .nil pass0 rfl U.gC (pa1 (pB T b_len call_len_seq (pa1 (pv 2))))))) pss_nil)
      (pss_one (ps_ret (pT T b_tuple call_tuple_of (pa1 (pe_lc (own := [("state", 4), ("told", 5)]) (g := gTup K 2 (gCons (gName 4) (gCons (gName 5) gNil))) rfl nd (pi_list (pv 2)) (blkOk_by (own := [("state", 4), ("told", 5)]) (N := ["reader", "page", "behind", "last", "state", "told"]) (sc := defScope (top 31)) (by decide +kernel))
          (fun _ _ _ _ _ => pg_tup rfl (pgs_cons (pg_name (i := 4) nd rfl (Or.inl rfl)) (pgs_cons (pg_name (i := 5) nd rfl (Or.inl rfl)) pgs_nil))) (fun _ _ _ _ _ => pts_one (pt_cmpR op_notN (pv 5) pe_non (nomark _)))
          (fun _ _ _ _ _ => pv 5)))))))), ?_⟩
    obtain ⟨dx, rt, et, ds, h1, h2, h3, h4⟩ := hR.ex
    refine ⟨_, rfl, _, rfl, r, R, wd, rfl, hR, ok, hwd, by omega, fun ys H1 s1 hys p hp => ?_⟩
    have hyl : ys.length = (R.trace R.start wd).length := Paired.len hys
    have htl := trace_len (R := R) (w := wd) (q := R.start)
    have s2 : Same H1 (upd H1 p (.lst ys)) := Same.new hp
    have sA := s1.trans s2
    refine ⟨_, rfl, Nat.zero_le _, fun q hq => ⟨p, q, ys, rfl, rfl, ?_, SqL.of upd_same, ?_⟩⟩
    · exact SqL.of (Same.new hq _ _ upd_same)
    have s3 : Same (upd H1 p (.lst ys)) (upd (upd H1 p (.lst ys)) q (.lst [])) := Same.new hq
    have sB := sA.trans s3
    have hpl : (upd (upd H1 p (.lst ys)) q (.lst [])) p = some (.lst ys) := s3 _ _ upd_same
    have hys2 := Paired.mapP hys fun _ _ z => StepAt.same (s2.trans s3) z
    generalize (upd (upd H1 p (.lst ys)) q (.lst [])) = H2 at hpl sB hys2
    have hlast : ys ≠ [] → ∃ t e, ys.getLast? = some (.ref t) ∧ MoveAt H2 t e ∧ lastOf R.start (R.trace R.start wd) = e.1 := fun hne => last_at hys2 hne R.start
    refine ⟨!ys.isEmpty, rfl, if_val (.int ((lastOf R.start (R.trace R.start wd) : Nat) : Int)) (fun hb Q t => ?ca) (fun hb Q t => ?cb) ?ct⟩
    case ca =>
      have hne : ys ≠ [] := by
        rintro rfl
        cases hb
      obtain ⟨t0, e, a1, a2, a3⟩ := hlast hne
      have a2 : H2 t0 = some (.tup [.int (e.1 : Int), toldV e.2]) := a2
      refine ⟨_, rfl, _, rfl, p, ys, -1, .ref t0, rfl, rfl, SqL.of hpl, atI_getLast a1, t0, _, 0, .int ((lastOf R.start (R.trace R.start wd) : Nat) : Int), rfl, rfl, SqT.of a2, ?_, t⟩
      rw [a3]
      exact atI_nat (j := 0) rfl
    case cb =>
      have hne : ys = [] := by simpa using hb
      have ht : R.trace R.start wd = [] := List.length_eq_zero_iff.mp (by rw [← hyl, hne]; rfl)
      refine ⟨_, rfl, r, RC K, dx, _, .int ((lastOf R.start (R.trace R.start wd) : Nat) : Int), rfl, sB _ _ h1, X.cls, X.nS, ?_, t⟩
      rw [ht]
      rfl
    case ct =>
      refine ⟨_, rfl, p, _, rfl, .inl (SqL.of hpl), ?_⟩
      refine ⟨_, rfl, S wd, rfl, by rw [S_len]; exact line_of (by omega), _, _, rfl, rfl, decide (ys.length < wd.length), congrArg V.bl ?_, or_val (!decide ((R.trace R.start wd).length = wd.length ∧ lastOf R.start (R.trace R.start wd) ∈ R.ends)) (fun hb => ?_) (fun hb Q t => ?_) ?_⟩
      · rw [S_len]
        by_cases z : ys.length < wd.length
        · rw [decide_eq_true z, decide_eq_true (by omega)]
        · rw [decide_eq_false z, decide_eq_false (by omega)]
      · have := of_decide_eq_true hb
        rw [decide_eq_false fun z => by omega]
        rfl
      · have h0 := of_decide_eq_false hb
        refine ⟨_, rfl, _, rfl, r, RC K, dx, _, _, rfl, sB _ _ h1, X.cls, X.nE, rfl, et, _, rfl, .inr (SqT.of (sB _ _ h3)), rfl, flat_ints _, _, rfl, ?_⟩
        rw [inV_ints]
        have e : decide ((R.trace R.start wd).length = wd.length ∧ lastOf R.start (R.trace R.start wd) ∈ R.ends) = decide (lastOf R.start (R.trace R.start wd) ∈ R.ends) := by
          by_cases z : lastOf R.start (R.trace R.start wd) ∈ R.ends
          · rw [decide_eq_true z, decide_eq_true ⟨by omega, z⟩]
          · rw [decide_eq_false z, decide_eq_false fun y => z y.2]
        rw [e] at t
        exact t
      · have hrd := trace_read (R := R) wd
        cases hc : decide ((R.trace R.start wd).length = wd.length ∧ lastOf R.start (R.trace R.start wd) ∈ R.ends) with
        | false =>
          rw [if_neg (of_decide_eq_false hc)] at hrd
          refine iteT ⟨_, rfl, p, _, rfl, .inl (SqL.of hpl), by show 1 ≤ 1000; decide, fun a ha => ?_⟩
          have sC : Same H2 (upd H2 a (exo a (UC K) none)) := Same.new ha
          refine ⟨a, ys.length, rfl, by omega, upd_same, fun dx2 hd hne => ⟨rfl, dx2, [("place", .int (ys.length : Nat))], upd_same, ?_, ?_, ?_⟩⟩
          · rw [upd_ne hne, upd_same]
          · rw [upd_ne hne] at hd
            exact hd
          · refine k2 hrd dx2 _ fun b o e => ?_
            have hb2 := sB _ _ e
            have hba : b ≠ a := ne_of_none hb2 ha
            have hbd : b ≠ dx2 := ne_of_none (sC _ _ hb2) hd
            rw [upd_ne hbd, del_ne hba, upd_ne hba, upd_ne hbd, upd_ne hba]
            exact hb2
        | true =>
          rw [if_pos (of_decide_eq_true hc)] at hrd
          refine iteF ⟨_, rfl, p, rfl, ⟨_, SqL.of hpl⟩, fun D hD => ?_⟩
          have hD0 : H D = none := Same.free sB hD
          refine lc_it (walk_list (xs := ys)) (fun i H4 => Same H2 H4 ∧ H4 D = some (.lst ((((R.trace R.start wd).take i).filterMap (·.2)).map V.str)))
            ⟨Same.new hD, upd_same⟩ (fun i H4 _ hp => SqL.of (hp.1 _ _ hpl)) (fun i x H4 H5 hi hp y => ?_) (fun H4 hp => ?_)
          · obtain ⟨s4, h4'⟩ := hp
            obtain ⟨rfl, hx⟩ := y
            obtain ⟨e, he, t, rfl, hm⟩ := Paired.get1 hys2 hx
            refine ⟨t, _, rfl, SqT.of (s4 _ _ hm), rfl, _, _, rfl, _, _, rfl, rfl, rfl, ?_⟩
            refine ⟨_, rfl, ?_⟩
            obtain ⟨g, tk⟩ := e
            cases tk with
            | none =>
              refine ⟨rfl, false, rfl, iteF ⟨s4, ?_⟩⟩
              rw [h4', take_fm he]
              simp
            | some z =>
              refine ⟨rfl, true, rfl, iteT ⟨_, rfl, _, h4', ?_, Same.updN s4 hD, ?_⟩⟩
              · rw [List.length_map]
                have := List.length_filterMap_le (fun e : Nat × Option Str => e.2) ((R.trace R.start wd).take i)
                rw [List.length_take] at this
                exact lt_line (by omega)
              · rw [upd_same, take_fm he]
                simp
                rfl
          · obtain ⟨s4, h4'⟩ := hp
            rw [hyl, List.take_length] at h4'
            refine ⟨D, _, rfl, .inl ⟨SqL.of h4', fun l hl' => ?_⟩⟩
            have hl0 : H l = none := Same.free (sB.trans s4) hl'
            exact k1 _ l _ hrd (Same.updN (sB.trans s4) hl0) hl0 upd_same
end
end K17
end TR2
section TK
set_option Elab.async false
set_option linter.all false
set_option maxRecDepth 100000
set_option maxHeartbeats 4000000
/-! Functions made in a def and handed on: their cells, locked while another def runs. -/
namespace K17
open PySem PySem.Spec PyProof.Rows L2 NdefX LamX
/-- the cells L known too, locked -/
def plus (L : List (Addr × Obj)) (H : Hp) : Hp := fun b => match L.lookup b with
  | some o => some (.frz o (.own 0))
  | none => H b
/-- .. not known -/
def minus (L : List (Addr × Obj)) (H : Hp) : Hp := fun b => match L.lookup b with
  | some _ => none
  | none => H b
def Tracked (H : Hp) (L : List (Addr × Obj)) : Prop := ∀ c o, L.lookup c = some o → H c = some (.frz o (.own 0))
section
variable {L : List (Addr × Obj)} {H H2 : Hp} {b : Addr}
theorem plus_in {o : Obj} (h : L.lookup b = some o) : plus L H b = some (.frz o (.own 0)) := by unfold plus; rw [h]
theorem plus_out (h : L.lookup b = none) : plus L H b = H b := by unfold plus; rw [h]
theorem minus_in {o : Obj} (h : L.lookup b = some o) : minus L H b = none := by unfold minus; rw [h]
theorem minus_out (h : L.lookup b = none) : minus L H b = H b := by unfold minus; rw [h]
theorem minus_none (h : H b = none) : minus L H b = none := by
  unfold minus
  cases L.lookup b with
  | some _ => rfl
  | none => exact h
theorem tracked_plus : Tracked (plus L H) L := fun _ _ h => plus_in h
theorem plus_minus (t : Tracked H L) : plus L (minus L H) = H := by
  funext b
  cases h : L.lookup b with
  | some o => rw [plus_in h, t b o h]
  | none => rw [plus_out h, minus_out h]
theorem minus_plus (n : ∀ c o, L.lookup c = some o → H c = none) : minus L (plus L H) = H := by
  funext b
  cases h : L.lookup b with
  | some o => rw [minus_in h, n b o h]
  | none => rw [minus_out h, plus_out h]
theorem Tracked.out {u : HO} (t : Tracked H L) (e : H b = some u) (n : ∀ o, u ≠ .frz o (.own 0)) : L.lookup b = none := by
  cases h : L.lookup b with
  | none => rfl
  | some o =>
    have := t b o h
    rw [e] at this
    exact absurd (Option.some.inj this) (n o)
theorem Tracked.same (s : Same H H2) (t : Tracked H L) : Tracked H2 L := fun c o h => s _ _ (t c o h)
theorem out_none (n : ∀ c o, L.lookup c = some o → H c = none) {u : HO} (e : H b = some u) : L.lookup b = none := by
  cases h : L.lookup b with
  | none => rfl
  | some o =>
    rw [n b o h] at e
    cases e
theorem same_plus (n : ∀ c o, L.lookup c = some o → H c = none) : Same H (plus L H) := fun b u e => by
  rw [plus_out (out_none n e)]
  exact e
theorem hok_plus {P : Program} {w : World} {h : Heap} (x : HOk P w H h) (n : ∀ c o, L.lookup c = some o → h.get? c = some o ∧ H c = none) : HOk P w (plus L H) h := fun b u e => by
  cases hb : L.lookup b with
  | some o =>
    rw [plus_in hb] at e
    cases e
    exact ⟨(n b o hb).1, o, (n b o hb).1⟩
  | none =>
    rw [plus_out hb] at e
    have n' : ∀ c o, L.lookup c = some o → H c = none := fun c o z => (n c o z).2
    exact (x b u e).stay (fun c v _ z => z) (fun c z => by rw [plus_out (out_none n' z)]; exact z) fun c xs z => by rw [plus_out (out_none n' z)]; exact z
theorem hok_minus {P : Program} {w : World} {h : Heap} (x : HOk P w H h) (t : Tracked H L) : HOk P w (minus L H) h := fun b u e => by
  cases hb : L.lookup b with
  | some o =>
    rw [minus_in hb] at e
    cases e
  | none =>
    rw [minus_out hb] at e
    exact (x b u e).stay (fun c v _ z => z) (fun c z => by rw [minus_out (t.out z fun o y => nomatch y)]; exact z) fun c xs z => by rw [minus_out (t.out z fun o y => nomatch y)]; exact z
theorem tracked_get {P : Program} {w : World} {h : Heap} (x : HOk P w H h) (t : Tracked H L) {c : Addr} {o : Obj} (e : L.lookup c = some o) : h.get? c = some o := (x c _ (t c o e)).1
theorem un_minus {P : Program} {w : World} {fs ex : List Addr} {h h2 : Heap} (u : Un fs ex (plus L H) H2 h h2) (n : ∀ c o, L.lookup c = some o → h.get? c = some o ∧ H c = none) (x : HOk P w H2 h2) : Un fs ex H (minus L H2) h h2 := by
  have n' : ∀ c o, L.lookup c = some o → H c = none := fun c o z => (n c o z).2
  have at2 : ∀ c o, L.lookup c = some o → h2.get? c = some o := fun c o z => (x c _ (u.frzs c o (.own 0) (plus_in z))).1
  exact {
    keep := fun b o e q hf hx => by
      cases hb : L.lookup b with
      | some oc =>
        have e2 := (n b oc hb).1
        rw [e] at e2
        cases e2
        exact at2 b _ hb
      | none => exact u.keep b o e (by rw [plus_out hb]; exact q) hf hx
    slot := fun b o e q hf hx => by
      cases hb : L.lookup b with
      | some oc =>
        have e2 := (n b oc hb).1
        rw [e] at e2
        cases e2
        exact ⟨o.slots, at2 b _ hb⟩
      | none => exact u.slot b o e (by rw [plus_out hb]; exact q) hf hx
    free := fun b o e q hx => by
      cases hb : L.lookup b with
      | some oc => exact minus_in hb
      | none =>
        rw [minus_out hb]
        exact u.free b o e (by rw [plus_out hb]; exact q) hx
    there := u.there
    tups := fun b xs e => by
      have hb := out_none n' e
      rw [minus_out hb]
      exact u.tups b xs (by rw [plus_out hb]; exact e)
    frzs := fun b o v e => by
      have hb := out_none n' e
      rw [minus_out hb]
      exact u.frzs b o v (by rw [plus_out hb]; exact e)
    tbls := fun b ps e => by
      have hb := out_none n' e
      obtain ⟨more, z⟩ := u.tbls b ps (by rw [plus_out hb]; exact e)
      exact ⟨more, by rw [minus_out hb]; exact z⟩ }
theorem un_plus {P : Program} {w : World} {fs ex : List Addr} {h h2 : Heap} (u : Un fs ex (minus L H) H2 h h2) (x : HOk P w H h) (t : Tracked H L) (hf : ∀ c o, L.lookup c = some o → c ∉ fs) (hx : ∀ c o, L.lookup c = some o → c ∉ ex) :
    Un fs ex H (plus L H2) h h2 ∧ ∀ c o, L.lookup c = some o → h2.get? c = some o ∧ H2 c = none := by
  have nin : ∀ {b}, H b = none → L.lookup b = none := fun {b} e => by
    cases hb : L.lookup b with
    | none => rfl
    | some o =>
      rw [t b o hb] at e
      cases e
  refine ⟨{
    keep := fun b o e q => u.keep b o e (minus_none q)
    slot := fun b o e q => u.slot b o e (minus_none q)
    free := fun b o e q hx => by
      rw [plus_out (nin q)]
      exact u.free b o e (minus_none q) hx
    there := u.there
    tups := fun b xs e => by
      have hb := t.out e fun o y => nomatch y
      rw [plus_out hb]
      exact u.tups b xs (by rw [minus_out hb]; exact e)
    frzs := fun b o v e => by
      cases hb : L.lookup b with
      | some oc =>
        rw [plus_in hb]
        have := t b oc hb
        rw [e] at this
        exact this.symm
      | none =>
        rw [plus_out hb]
        exact u.frzs b o v (by rw [minus_out hb]; exact e)
    tbls := fun b ps e => by
      have hb := t.out e fun o y => nomatch y
      obtain ⟨more, z⟩ := u.tbls b ps (by rw [minus_out hb]; exact e)
      exact ⟨more, by rw [plus_out hb]; exact z⟩ }, fun c o e => ?_⟩
  have hg := tracked_get x t e
  exact ⟨u.keep c o hg (minus_in e) (hf c o e) (hx c o e), u.free c o hg (minus_in e) (hx c o e)⟩
end
/-! ### a function that may be called from anywhere -/
structure Cal (P : Program) (w : World) (K : PySem.W.Frag) (mg : Str → Option Value) (base : Heap) (k : Nat) (f : Addr) (Held : Hp → Prop) (sp : Sp) : Prop where
  same : ∀ H H', Same H H' → Held H → Held H'
  fn : ∀ H h, HOk P w H h → Held H → PySem.W.FnAt f h
  run : ∀ (A : Around) (outer : List Env) (s : Shared) (H : Hp) (us : List Value) (vs : List V) (Q : VK), Room k A → Env0 P w K mg base A outer s H → Held H → Vals vs us → sp vs H Q E0 → codeAny (model P w) A (.call (.ref f) ⟨us, []⟩) (CR CX0 outer P w H s Q E0) s
/-- the cells L tell what the names fr held -/
structure CellL (L : List (Addr × Obj)) (cl : List (Str × Addr)) (fr : List Str) (ws : List V) : Prop where
  len : ws.length = fr.length
  all : ∀ y c, cl.lookup y = some c → ∃ o v, L.lookup c = some o ∧ o.data = .cell v
  inj : ∀ x y c, cl.lookup x = some c → cl.lookup y = some c → x = y
  has : ∀ (i : Nat) (y : Str), fr[i]? = some y → ∃ c o u, cl.lookup y = some c ∧ L.lookup c = some o ∧ o.data = .cell (some u) ∧ ∀ v, ws[i]? = some v → RelV v u
section
variable {P : Program} {w : World} {K : PySem.W.Frag} {mg : Str → Option Value} {base : Heap} {k : Nat} {f : Addr} {L : List (Addr × Obj)} {cl : List (Str × Addr)} {ps fr : List Str} {ws : List V}
theorem CellL.at {H : Hp} {h : Heap} (C : CellL L cl fr ws) (x : HOk P w H h) (t : Tracked H L) : CellsAt cl fr (ws.map some) h (minus L H) where
  len := by rw [List.length_map]; exact C.len
  all := fun y c e => by
    obtain ⟨o, v, h1, h2⟩ := C.all y c e
    exact ⟨minus_in h1, v, o, tracked_get x t h1, h2⟩
  inj := C.inj
  has := fun i y e => by
    obtain ⟨c, o, u, h1, h2, h3, h4⟩ := C.has i y e
    refine ⟨c, h1, fun v ev => ⟨u, h4 v ?_, o, tracked_get x t h2, h3⟩⟩
    rw [List.getElem?_map] at ev
    cases e2 : ws[i]? with
    | none => rw [e2] at ev; cases ev
    | some z => rw [e2] at ev; cases ev; rfl
theorem env_minus {A : Around} {outer : List Env} {s : Shared} {H : Hp} (e0 : Env0 P w K mg base A outer s H) (t : Tracked H L) : Env0 P w K mg base A outer s (minus L H) :=
  ⟨e0.frames, e0.mod, fun b o e => ⟨(e0.bs b o e).1, minus_none (e0.bs b o e).2⟩, e0.bsz, e0.funs, fun b hb => minus_none (e0.frf b hb), hok_minus e0.hok t, e0.bare⟩
theorem cr_plus {A : Around} {outer : List Env} {s s' : Shared} {H : Hp} {Q : VK} {r : Result} (e0 : Env0 P w K mg base A outer s H) (t : Tracked H L) (h : CR CX0 outer P w (minus L H) s (fun v H2 => (∀ c o, L.lookup c = some o → H2 c = none) → Q v (plus L H2)) E0 r s') : CR CX0 outer P w H s Q E0 r s' := by
  cases r with
  | error e => exact h.elim
  | ok fl =>
    cases fl with
    | ret u =>
      obtain ⟨v, H2, os, bare, un, hok, rv, q⟩ := h
      have hf : ∀ c o, L.lookup c = some o → c ∉ frs outer := fun c o e hc => by
        have := e0.frf c hc
        rw [t c o e] at this
        cases this
      obtain ⟨un2, n2⟩ := un_plus un e0.hok t hf fun _ _ _ z => nomatch z
      exact ⟨v, plus L H2, os, bare, un2, hok_plus hok n2, rv, q fun c o e => (n2 c o e).2⟩
    | next => exact h.elim
    | brk => exact h.elim
    | cont => exact h.elim
theorem fnO_nf {F : NF} (o : Obj) : FnO f F ≠ .frz o (.own 0) := fun z => by
  unfold FnO at z
  cases z
theorem codeO_nf {c : Addr} {q : Str} (o : Obj) : CodeO c q ≠ .frz o (.own 0) := fun z => by
  unfold CodeO at z
  cases z
/-- a def made in a def -/
theorem cal_nok {F : NF} {sp : List (Option V) → Sp} (Fn : NOk P w K mg base CX0 k f F ps fr sp) (C : CellL L F.cl fr ws) :
    Cal P w K mg base k f (fun H => H f = some (FnO f F) ∧ H F.c = some (CodeO F.c F.qual) ∧ Tracked H L) (fun vs H Q E => sp (ws.map some) vs (minus L H) (fun v H2 => (∀ c o, L.lookup c = some o → H2 c = none) → Q v (plus L H2)) E0) where
  same := fun H H' s h => ⟨s _ _ h.1, s _ _ h.2.1, h.2.2.same s⟩
  fn := fun H h x hh => by
    obtain ⟨od, sl, doc, pm, ctv, ho⟩ := fnO_at x hh.1
    exact ⟨_, od, _, sl, ho⟩
  run := fun A outer s H us vs Q hr e0 hh rv q => by
    obtain ⟨h1, h2, t⟩ := hh
    refine codeAny_mono (Fn.run A outer s (minus L H) us vs (ws.map some) (fun v H2 => (∀ c o, L.lookup c = some o → H2 c = none) → Q v (plus L H2)) E0 hr (env_minus e0 t) ?_ ?_ (C.at e0.hok t) rv q) fun r s' z => cr_plus e0 t z
    · rw [minus_out (t.out h1 fun o => fnO_nf o)]
      exact h1
    · rw [minus_out (t.out h2 fun o => codeO_nf o)]
      exact h2
end
/-! ### calls of such a function -/
def tCalF (i : Nat) (t : TA) (P : Program) (w : World) (K : PySem.W.Frag) (mg : Str → Option Value) (base : Heap) (k : Nat) : TE := fun σ H Q => ∃ f Held sp, σ[i]? = some (some (.ref f)) ∧ Cal P w K mg base k f Held sp ∧ Held H ∧ t σ H fun vs H1 => Held H1 ∧ sp vs H1 Q E0
section
variable {X : Cx} {i j k : Nat} {x : Str} {p pos : Pos} {e : Expr} {es : List Expr} {t : TA}
theorem pe_calF (hr : Room j X.A) (hN : X.N[i]? = some x) (hv : Vis X.env.scope x) (ha : PA X (e :: es) t) (hk : k ≤ j := by decide) (hd : (x == ("__debug__" : Str)) = false := by decide) (hcd : (x == ("__classdict__" : Str)) = false := by decide)
    (he : starEach (e :: es) X.env = (false, eval e X.env) :: starEach es X.env := by rfl) (hpl : (backTo pos (starEach es X.env)).any (·.1) = false := by rfl) :
    PE X (.Call (.Name x p) (e :: es) [] pos) (tCalF i t X.prog X.w X.K X.mg X.base k) := by
  refine ⟨fun pins s σ H Q I h => ?_⟩
  obtain ⟨f, Held, sp, hs, C, hh, ht⟩ := h
  refine wpAny_Call_Name_kw (thn ((pe_var (pos := p) hN hv hd hcd).run pins s σ H (fun v H1 => v = .ref f ∧ H1 = H) I ⟨.ref f, hs, rfl, rfl⟩) fun u s1 ⟨v, H1, I1, r1, q1⟩ => ?_)
  obtain ⟨ev, eH⟩ := q1
  subst ev
  rw [eH] at I1
  obtain rfl : u = Value.ref f := r1
  refine PySem.W.callWith_F (first := []) (C.fn _ _ I1.hok hh) (thn (ha.run pos pins s1 σ H _ I1 ht) fun us s2 ⟨vs, H2, I2, r, h1, q⟩ => ⟨C.fn _ _ I2.hok h1, ?_⟩) he hpl
  show wpAny _ _ (call (.ref f) us) _ _ _
  refine wpAny_call (codeAny_mono (C.run X.A X.stack s2 H2 us vs Q (hr.mono hk) I2.env0 h1 r q) fun r s' hq => ?_)
  cases r with
  | error e => exact hq.elim
  | ok fl =>
    cases fl with
    | ret u => exact I2.after hq
    | next => exact hq.elim
    | brk => exact hq.elim
    | cont => exact hq.elim
/-- the running frame's cells, as objects -/
structure FrameL (X : Cx) (σ : L2.St) (L : List (Addr × Obj)) : Prop where
  ok : X.Ok
  all : ∀ y c, X.env.cells.lookup y = some c → ∃ o v, L.lookup c = some o ∧ o.data = .cell v
  inj : ∀ x y c, X.env.cells.lookup x = some c → X.env.cells.lookup y = some c → x = y
  has : ∀ (i : Nat) (y : Str) (v : V), X.N[i]? = some y → σ[i]? = some (some v) → X.env.scope.names.lookup y = some .cell → ∃ c o u, X.env.cells.lookup y = some c ∧ L.lookup c = some o ∧ o.data = .cell (some u) ∧ RelV v u
end
end K17
namespace K17
open PySem PySem.Spec PyProof.Rows L2 NdefX LamX
section
variable {X : Cx} {pins : List (Addr × Obj)} {σ : L2.St} {H : Hp} {s : Shared}
theorem mem_lookupN {α : Type} : ∀ {l : List (Nat × α)} {n : Nat} {c : α}, (n, c) ∈ l → ∃ c', l.lookup n = some c'
  | [], _, _, h => by simp at h
  | (m, d) :: l, n, c, h => by
    rw [List.lookup_cons]
    cases e : n == m with
    | true => exact ⟨d, rfl⟩
    | false =>
      rcases List.mem_cons.mp h with z | z
      · cases z
        simp at e
      · exact mem_lookupN z
theorem frame_cells (I : Inv X pins σ H s) : ∃ L, FrameL X σ L ∧ ∀ c o, L.lookup c = some o → s.heap.get? c = some o ∧ H c = none ∧ ∃ y, X.env.cells.lookup y = some c := by
  have key : ∀ c o, (c, o) ∈ (X.env.cells.filterMap fun p => if X.env.cells.lookup p.1 = some p.2 then (s.heap.get? p.2).map fun o => (p.2, o) else none) → s.heap.get? c = some o ∧ ∃ y, X.env.cells.lookup y = some c := by
    intro c o hm
    obtain ⟨⟨y, c2⟩, hp, e⟩ := List.mem_filterMap.mp hm
    split at e
    · rename_i hl
      have e : (s.heap.get? c2).map (fun o => (c2, o)) = some (c, o) := e
      cases hg : s.heap.get? c2 with
      | none => rw [hg] at e; cases e
      | some o2 =>
        rw [hg] at e
        cases e
        exact ⟨hg, y, hl⟩
    · cases e
  have has : ∀ y c, X.env.cells.lookup y = some c → ∃ o v, List.lookup c (X.env.cells.filterMap fun p => if X.env.cells.lookup p.1 = some p.2 then (s.heap.get? p.2).map fun o => (p.2, o) else none) = some o ∧ s.heap.get? c = some o ∧ o.data = .cell v := by
    intro y c hl
    obtain ⟨v, o, ho, hd⟩ := I.cell y c hl
    have hm : (c, o) ∈ (X.env.cells.filterMap fun p => if X.env.cells.lookup p.1 = some p.2 then (s.heap.get? p.2).map fun o => (p.2, o) else none) := by
      refine List.mem_filterMap.mpr ⟨(y, c), PySem.mem_of_lookup hl, ?_⟩
      rw [if_pos hl, ho]
      rfl
    obtain ⟨o2, h2⟩ := mem_lookupN hm
    have h3 := (key c o2 (mem_of_lookup' h2)).1
    rw [ho] at h3
    cases h3
    exact ⟨o, v, h2, ho, hd⟩
  generalize (X.env.cells.filterMap fun p => if X.env.cells.lookup p.1 = some p.2 then (s.heap.get? p.2).map fun o => (p.2, o) else none) = L at key has
  refine ⟨L, ⟨I.ok, fun y c hl => ?_, I.ok.inj, fun i y v h1 h2 h3 => ?_⟩, fun c o hl => ?_⟩
  · obtain ⟨o, v, a, _, b⟩ := has y c hl
    exact ⟨o, v, a, b⟩
  · obtain ⟨m, hn, hl⟩ := I.loc
    obtain ⟨u, r, l⟩ := hl i y v h1 h2 (.inr (.inl h3))
    rcases l with ⟨z, _⟩ | ⟨_, c, hc, o, ho, hd⟩
    · have z' : X.env.scope.names.lookup y = some .local := z
      rw [h3] at z'
      cases z'
    · obtain ⟨o2, v2, a, b, _⟩ := has y c hc
      rw [ho] at b
      cases b
      exact ⟨c, o, u, hc, a, hd, r⟩
  · obtain ⟨h1, y, h2⟩ := key c o (mem_of_lookup' hl)
    exact ⟨h1, I.freeC y c h2, y, h2⟩
theorem env_plus {L : List (Addr × Obj)} (I : Inv X pins σ H s) (hst : X.stack = X.env :: X.outer) (hfr : X.env.frame = some X.env.locals) (hfn : ∀ y, X.fn y = true) (n : ∀ c o, L.lookup c = some o → s.heap.get? c = some o ∧ H c = none ∧ ∃ y, X.env.cells.lookup y = some c) :
    Env0 X.prog X.w X.K X.mg X.base X.A X.stack s (plus L H) := by
  have e0 := I.env0
  have above : ∀ c o, L.lookup c = some o → X.s_0.heap.objs.size ≤ c := fun c o e => by
    obtain ⟨_, _, y, hy⟩ := n c o e
    exact I.ok.cab y c (hfn y) hy
  refine ⟨e0.frames, e0.mod, fun b o e => ⟨(e0.bs b o e).1, ?_⟩, e0.bsz, e0.funs, fun b hb => ?_, hok_plus e0.hok fun c o z => ⟨(n c o z).1, (n c o z).2.1⟩, e0.bare⟩
  · cases hb : L.lookup b with
    | none => rw [plus_out hb]; exact (e0.bs b o e).2
    | some oc =>
      have h1 := above b oc hb
      have h2 := Heap.lt_size (I.ok.bs b o e).1
      exact absurd (Nat.lt_of_lt_of_le h2 h1) (Nat.lt_irrefl _)
  · cases hl : L.lookup b with
    | none => rw [plus_out hl]; exact e0.frf b hb
    | some oc =>
      exfalso
      obtain ⟨_, _, y, hy⟩ := n b oc hl
      rw [hst] at hb
      unfold frs at hb
      rw [List.filterMap_cons, hfr] at hb
      rcases List.mem_cons.mp hb with z | z
      · exact I.cne y b hy z
      · obtain ⟨_, o, ho, _⟩ := I.ok.funs.mem z
        exact absurd (Nat.lt_of_lt_of_le (Heap.lt_size ho) (above b oc hl)) (Nat.lt_irrefl _)
theorem FrameL.cell {L : List (Addr × Obj)} {cl : List (Str × Addr)} {fr : List Str} {js : List Nat} {ws : List V} (FL : FrameL X σ L) (c : Caps X cl fr js) (hv : js.map (fun j => σ[j]?) = ws.map fun v => some (some v)) (hk : ∀ y ∈ fr, X.env.scope.names.lookup y = some .cell) : CellL L cl fr ws where
  len := by
    have h1 := congrArg List.length hv
    have h2 := congrArg List.length c.at_
    rw [List.length_map, List.length_map] at h1 h2
    omega
  all := fun y a e => FL.all y a (c.sub y a e)
  inj := fun x y a e1 e2 => FL.inj x y a (c.sub x a e1) (c.sub y a e2)
  has := fun i y e => by
    have h1 : (js.map fun j => X.N[j]?)[i]? = some (some y) := by rw [c.at_, List.getElem?_map, e]; rfl
    rw [List.getElem?_map] at h1
    cases ej : js[i]? with
    | none => rw [ej] at h1; cases h1
    | some j =>
      rw [ej] at h1
      have hN : X.N[j]? = some y := Option.some.inj h1
      have h2 : (js.map fun j => σ[j]?)[i]? = (ws.map fun v => some (some v))[i]? := by rw [hv]
      rw [List.getElem?_map, ej, List.getElem?_map] at h2
      cases ew : ws[i]? with
      | none => rw [ew] at h2; cases h2
      | some v =>
        rw [ew] at h2
        have hσ : σ[j]? = some (some v) := Option.some.inj h2
        obtain ⟨a, o, u, h3, h4, h5, h6⟩ := FL.has j y v hN hσ (hk y (List.mem_of_getElem? e))
        refine ⟨a, o, u, c.sup y (List.mem_of_getElem? e) a h3, h4, h5, fun v' ev => ?_⟩
        cases ev
        exact h6
end
/-- a call of a def of the top, the frame's own cells locked meanwhile -/
def tCallC (X : Cx) (sp : Sp) (t : TA) : TE := fun σ H Q => t σ H fun vs H1 => ∀ L, FrameL X σ L → (∀ c o, L.lookup c = some o → H1 c = none) → sp vs (plus L H1) (fun v H2 => Q v (minus L H2)) E0
section
variable {X : Cx} {j k : Nat} {x : Str} {ps : List Str} {sp : Sp} {p pos : Pos} {e : Expr} {es : List Expr} {t : TA}
theorem pe_callC (D : Def X.prog X.w X.K X.mg X.base CX0 k x ps sp) (hr : Room j X.A) (ha : PA X (e :: es) t) (hkj : k ≤ j := by decide) (hst : X.stack = X.env :: X.outer := by rfl) (hfr : X.env.frame = some X.env.locals := by rfl) (hfn : ∀ y, X.fn y = true := by intro _; rfl) (hg : Gl X x := by rfl) (hdb : (x == ("__debug__" : Str)) = false := by decide)
    (he : starEach (e :: es) X.env = (false, eval e X.env) :: starEach es X.env := by rfl) (hpl : (backTo pos (starEach es X.env)).any (·.1) = false := by rfl) : PE X (.Call (.Name x p) (e :: es) [] pos) (tCallC X sp t) := by
  refine ⟨fun pins s σ H Q I h => ?_⟩
  obtain ⟨f, fd, F, hm, hk, hb⟩ := D.ex
  refine wpAny_Call_Name_kw (ld_glob I hg hm ?_ hdb)
  refine PySem.W.callWith_K (h₀ := X.base) I.ok.mod.kin hk (thn (ha.run pos pins s σ H _ I h) fun us s1 ⟨vs, H1, I1, r, q⟩ => ⟨I1.kIn, ?_⟩) he hpl
  show wpAny _ _ (call (.ref f) us) _ _ _
  obtain ⟨L, FL, n⟩ := frame_cells I1
  have q := q L FL fun c o z => (n c o z).2.1
  have hl : us.length = ps.length := by rw [← r.length]; exact F.len _ _ _ _ q
  refine wpAny_call (codeAny_mono (F.run X.A X.stack s1 (plus L H1) ⟨us, []⟩ us vs _ E0 (hr.mono hkj) (env_plus I1 hst hfr hfn n) (by
    have := hb s1 us I1.kIn (by simpa using hl)
    simpa using this) r q) fun r s' hq => ?_)
  cases r with
  | error e => exact hq.elim
  | ok fl =>
    cases fl with
    | ret u =>
      obtain ⟨v, H2, os, bare, un, hok, rv, q2⟩ := hq
      refine I1.after ⟨v, minus L H2, os, bare, un_minus un (fun c o z => ⟨(n c o z).1, (n c o z).2.1⟩) hok, hok_minus hok fun c o z => un.frzs c o (.own 0) (plus_in z), rv, q2⟩
    | next => exact hq.elim
    | brk => exact hq.elim
    | cont => exact hq.elim
end
end K17
end TK
section TL
set_option Elab.async false
set_option linter.all false
set_option maxRecDepth 100000
set_option maxHeartbeats 4000000
/-! A lambda with parameters, handed on. Turned from the layer's proofs for defs made in defs. -/
namespace K17
open PySem PySem.Spec PyProof.Rows L2 NdefX LamX
structure LF where
  qual : Str
  params : Arguments
  body : Expr
  scope : Scope
  cl : List (Str × Addr)
  c : Addr
/-- the same words as a def's, for the context -/
def LF.nf (F : LF) : NF := ⟨"<lambda>", F.qual, F.params, [], F.scope, F.cl, F.c⟩
abbrev LF.fd (F : LF) (pm ctv : Value) : FuncData := PySem.W.kla_fn "<lambda>" F.qual F.params F.body F.scope F.cl pm (.ref F.c) ctv
def LamO (f : Addr) (F : LF) : HO := .ext fun h => ∃ (od : Option Addr) (sl : Array (Option Value)) (pm ctv : Value), h.get? f = some (⟨.type "function", od, .func (F.fd pm ctv), sl⟩ : Obj)
theorem lamO_at {P : Program} {w : World} {H : Hp} {h : Heap} {f : Addr} {F : LF} (hok : HOk P w H h) (e : H f = some (LamO f F)) : ∃ (od : Option Addr) (sl : Array (Option Value)) (pm ctv : Value), h.get? f = some (⟨.type "function", od, .func (F.fd pm ctv), sl⟩ : Obj) := by
  obtain ⟨z, _, _⟩ := hok f _ e
  exact z
theorem lamO_nf {f : Addr} {F : LF} (o : Obj) : LamO f F ≠ .frz o (.own 0) := fun z => by
  unfold LamO at z
  cases z
section
variable {X : Cx} {pins : List (Addr × Obj)} {σ : L2.St} {H : Hp} {s : Shared}
theorem inv_lam {F : LF} {o : Obj} {t' : Nat} {pm ctv : Value} (I : Inv X pins σ H s) (ho : o = { cls := .type "function", data := .func (F.fd pm ctv) }) :
    Inv X pins σ (upd H s.heap.objs.size (LamO s.heap.objs.size F)) { s with heap := s.heap.push o, toks := t' } := by
  subst ho
  refine I.laid (a := s.heap.objs.size) (fun b u e => Heap.get?_push_of_some _ e) (Nat.le_refl _) ?_
  have e : (s.heap.push ({ cls := .type "function", data := .func (F.fd pm ctv) } : Obj)).get? s.heap.objs.size = some ({ cls := .type "function", data := .func (F.fd pm ctv) } : Obj) := Heap.get?_push_size _ rfl
  exact ⟨⟨_, _, pm, ctv, e⟩, ⟨_, e⟩, fun h1 h2 ⟨od, sl, p, t, z⟩ st => ⟨od, sl, p, t, st _ z⟩⟩
/-- the lambda's object is made -/
theorem lam_makeN {T : List NTab} {nm : Nat → Nat → Str} {c P : Addr} {params : Arguments} {body : Expr} {scope : Scope} {pos : Pos} {E : Value → Shared → Prop} {Q : Value → Shared → Prop} (I : Inv X pins σ H s) (TB : TabB X.base X.mg c P) (hcode : X.env.code = .ref c)
    (hm : (P, nm) ∈ T) (hn : nm pos.line pos.col = X.env.qual ++ "<lambda>") (hu : ∀ p ∈ T, p.1 = P → p.2 = nm) (hT : TabsN T H) (hdef : defaultsOf params X.env = ([], [])) (hfree : ∀ y ∈ scope.names, y.2 = .free → ∃ c, X.env.cells.lookup y.1 = some c)
    (h : ∀ (f c' : Addr) (H1 : Hp) (s' : Shared), Inv X pins σ H1 s' → ExtN H H1 → (∀ b, H1 b = Option.none → H b = Option.none) → TabsN T H1 → H f = none → H1 f = some (LamO f ⟨X.env.qual ++ "<lambda>", params, body, scope, cloFrom X.env.cells scope.names [], c'⟩) → H1 c' = some (CodeO c' (X.env.qual ++ "<lambda>")) → Q (.ref f) s') :
    wpAny (model X.prog X.w) X.A (eval (.Lambda params body scope pos) X.env) Q E s := by
  obtain ⟨ps, hP, ht, ha⟩ := (show TabN H P nm from hT _ hm)
  refine PySem.W.kla_eval hdef ?_
  have bP : s.heap.BuiltinsAt X.mg P := TB.bm.keeps I.bk
  have hP' : s.heap.get? P = some { cls := .none, data := .fields ps } := I.hok P _ hP
  cases hc : codeAmong pos ps.toList with
  | none =>
    refine PySem.W.kla_makeFunction (mg := X.mg) (c := c) (P := P) (ps := ps) (closure_ok hfree) I.ok.glob (I.mod.glob.keeps I.bk) hcode (TB.code.keeps I.bk) hP' ht hc TB.gP bP fun c' ctv h' tk hx hge hlt hrec htb => ?_
    obtain ⟨c2, oc, vs, t, e2, hoc, hd, hv⟩ := hrec
    cases e2
    have nC : H c' = none := I.hok.fresh hge
    have I1 := inv_table (t' := tk) (more := #[rawInt pos.line, rawInt pos.col, .ref c']) (h' := h') I hP (fun b o hb e => hx b o hb e) htb hge ⟨oc, vs, t, hoc, hd, hv⟩
    have hE : ExtN H (upd (upd H P (.tbl (ps ++ #[rawInt pos.line, rawInt pos.col, .ref c']))) c' (CodeO c' (X.env.qual ++ "<lambda>"))) := fun b o e n => by
      rw [upd_ne (ne_of_none e nC), upd_ne (fun z => n ps (Option.some.inj (e.symm.trans (by rw [z]; exact hP))))]
      exact e
    have eL : (ps ++ #[rawInt pos.line, rawInt pos.col, .ref c']).toList = ps.toList ++ [rawInt pos.line, rawInt pos.col, .ref c'] := by simp
    have T1 : TabsN T (upd (upd H P (.tbl (ps ++ #[rawInt pos.line, rawInt pos.col, .ref c']))) c' (CodeO c' (X.env.qual ++ "<lambda>"))) := fun p hp => by
      by_cases hb : p.1 = P
      · rw [hu p hp hb, hb]
        refine ⟨_, by rw [upd_ne (ne_of_none hP nC), upd_same], by rw [eL]; exact PySem.TriplesOk_snoc _ _ _ _ ht, fun p' cv hcv => ?_⟩
        rw [eL] at hcv
        rcases among_app2 _ ht hcv with z | ⟨z, z1, z2⟩
        · obtain ⟨c0, e1, e2⟩ := ha p' cv z
          exact ⟨c0, e1, hE _ _ e2 codeO_ne⟩
        · refine ⟨c', z, ?_⟩
          rw [← z1, ← z2, hn]
          exact upd_same
      · obtain ⟨ps', a1, a2, a3⟩ := hT p hp
        refine ⟨ps', by rw [upd_ne (ne_of_none a1 nC), upd_ne hb]; exact a1, a2, fun p' cv hcv => ?_⟩
        obtain ⟨c0, e1, e2⟩ := a3 p' cv hcv
        exact ⟨c0, e1, hE _ _ e2 codeO_ne⟩
    have nF := I1.hok.fresh (Nat.le_refl _)
    have I2 := inv_lam (F := ⟨X.env.qual ++ "<lambda>", params, body, scope, cloFrom X.env.cells scope.names [], c'⟩) (t' := tk) (pm := (X.mg "__name__").getD .none) (ctv := ctv) I1 rfl
    refine h h'.objs.size c' _ _ I2 (fun b o e n => ?_) (fun b e => upd_none (upd_none (upd_none e))) (T1.ext fun b o e => ?_) (I.hok.fresh (Nat.le_trans hge (Nat.le_of_lt hlt))) upd_same ?_
    · have e1 := hE b o e n
      exact (upd_ne (ne_of_none e1 nF)).trans e1
    · exact (upd_ne (ne_of_none e nF)).trans e
    · exact (upd_ne (Nat.ne_of_lt hlt)).trans upd_same
  | some cv =>
    obtain ⟨c', e, hco⟩ := ha pos cv hc
    subst e
    rw [hn] at hco
    refine PySem.W.kla_makeFunctionHit (mg := X.mg) (c := c) (P := P) (ps := ps) (closure_ok hfree) I.ok.glob (I.mod.glob.keeps I.bk) hcode (TB.code.keeps I.bk) hP' ht hc bP fun ctv h' tk hx hsz => ?_
    have I1 : Inv X pins σ H { s with heap := h', toks := tk } := I.kept hx
    have nF : H h'.objs.size = none := I1.hok.fresh (Nat.le_refl _)
    have I2 := inv_lam (F := ⟨X.env.qual ++ "<lambda>", params, body, scope, cloFrom X.env.cells scope.names [], c'⟩) (t' := tk) (pm := (X.mg "__name__").getD .none) (ctv := ctv) I1 rfl
    refine h h'.objs.size c' _ _ I2 (fun b o e n => ?_) (fun b e => upd_none e) (hT.ext fun b o e => ?_) nF upd_same ?_
    · exact (upd_ne (ne_of_none e nF)).trans e
    · exact (upd_ne (ne_of_none e nF)).trans e
    · exact (upd_ne (ne_of_none hco nF)).trans hco
/-- lambda ..: .. -/
def tLamN (T : List NTab) (mk : Addr → LF) : TE := fun σ H Q => TabsN T H ∧ ∀ (f c' : Addr) (H1 : Hp), ExtN H H1 → (∀ b, H1 b = Option.none → H b = Option.none) → TabsN T H1 → H f = none → H1 f = some (LamO f (mk c')) → H1 c' = some (CodeO c' (mk c').qual) → Q (.ref f) H1
theorem pe_lamN {T : List NTab} {nm : Nat → Nat → Str} {c P : Addr} {params : Arguments} {body : Expr} {scope : Scope} {pos : Pos} (TB : TabB X.base X.mg c P) (hcode : X.env.code = .ref c) (hm : (P, nm) ∈ T) (hn : nm pos.line pos.col = X.env.qual ++ "<lambda>") (hu : ∀ p ∈ T, p.1 = P → p.2 = nm)
    (hfree : ∀ y ∈ scope.names, y.2 = .free → X.env.scope.names.lookup y.1 = some .cell ∨ X.env.scope.names.lookup y.1 = some .free) (hdef : defaultsOf params X.env = ([], []) := by rfl) :
    PE X (.Lambda params body scope pos) (tLamN T fun c' => ⟨X.env.qual ++ "<lambda>", params, body, scope, cloFrom X.env.cells scope.names [], c'⟩) := by
  refine ⟨fun pins s σ H Q I h => ?_⟩
  obtain ⟨hT, h⟩ := h
  have hfr : ∀ y ∈ scope.names, y.2 = .free → ∃ c, X.env.cells.lookup y.1 = some c := fun y hy e => (hfree y hy e).elim (fun z => I.ok.has _ (.inl z)) fun z => I.ok.has _ (.inr z)
  exact lam_makeN I TB hcode hm hn hu hT hdef hfr fun f c' H1 s' I1 eN nn T1 f0 f1 c1 => ⟨.ref f, H1, I1, rfl, h f c' H1 eN nn T1 f0 f1 c1⟩
end
section
variable {P : Program} {w : World} {K : PySem.W.Frag} {mg : Str → Option Value} {base : Heap} {k : Nat} {f : Addr} {L : List (Addr × Obj)} {N ps fr : List Str} {ws : List V} {F : LF} {sp : List (Option V) → Sp}
/-- its call, from anywhere -/
theorem cal_lam (S : NScope N ps fr F.scope) (hb : ∀ (pm ctv : Value) (us : List Value), us.length = ps.length → bindArgs (F.fd pm ctv) ⟨us, []⟩ = pure (ps.zip us)) (len : ∀ ws vs H Q E, sp ws vs H Q E → vs.length = ps.length)
    (hbody : ∀ (A : Around) (outer : List Env) (s : Shared) (H : Hp) (vs : List V) (ws : List (Option V)) (Q : VK), Room k (A.deeper (envF F.nf f s.heap.objs.size)) → ws.length = fr.length → sp ws vs H Q E0 →
      ∃ t, PE (ncx CX0 P w K mg base N F.nf f A outer s H E0) F.body t ∧ t (startF N vs ws) H Q) (C : CellL L F.cl fr ws) :
    Cal P w K mg base (k + 1) f (fun H => H f = some (LamO f F) ∧ H F.c = some (CodeO F.c F.qual) ∧ Tracked H L) (fun vs H Q E => sp (ws.map some) vs (minus L H) (fun v H2 => (∀ c o, L.lookup c = some o → H2 c = none) → Q v (plus L H2)) E0) where
  same := fun H H' s h => ⟨s _ _ h.1, s _ _ h.2.1, h.2.2.same s⟩
  fn := fun H h x hh => by
    obtain ⟨od, sl, pm, ctv, ho⟩ := lamO_at x hh.1
    exact ⟨_, od, _, sl, ho⟩
  run := fun A outer s H0 us vs Q0 hr e00 hh rv hsp => by
    obtain ⟨h1, h2, t⟩ := hh
    have e0 := env_minus e00 t
    have Cc := C.at e00.hok t
    have hf : minus L H0 f = some (LamO f F) := by rw [minus_out (t.out h1 fun o => lamO_nf o)]; exact h1
    have hc : minus L H0 F.c = some (CodeO F.c F.qual) := by rw [minus_out (t.out h2 fun o => codeO_nf o)]; exact h2
    refine codeAny_mono (R := CR CX0 outer P w (minus L H0) s (fun v H2 => (∀ c o, L.lookup c = some o → H2 c = none) → Q0 v (plus L H2)) E0) ?_ fun r s' z => cr_plus e00 t z
    generalize minus L H0 = H at e0 Cc hf hc hsp ⊢
    generalize hQ : (fun v H2 => (∀ c o, L.lookup c = some o → H2 c = none) → Q0 v (plus L H2)) = Q at hsp ⊢
    have hl := len _ _ _ _ _ hsp
    have lim : s.heap.NoLimit := e0.mod.nolimit.keeps fun b o e => (e0.bs b o e).1
    obtain ⟨od, sl, pm, ctv, ho⟩ := lamO_at e0.hok hf
    refine PySem.W.kla_callFunE hr.depth ho rfl S.co S.gen rfl (codeO_at e0.hok hc) ?_
    rw [hb pm ctv us (by rw [← rv.length]; exact hl)]
    refine wpAny_pure (wpAny_newFunctionEnv S.nocell (fun ⟨n, _⟩ hy => S.par n (List.of_mem_zip hy).1) (fun h₁ hns hsb => ⟨lim.fresh _ hsb, ?_⟩) S.kind)
    show codeAny _ _ (.expr F.body (envF F.nf f s.heap.objs.size)) _ _
    have kp : ∀ b o, s.heap.get? b = some o → h₁.get? b = some o := fun b o e => hsb.extBut b o (Nat.ne_of_lt (Heap.lt_size e)) (Heap.get?_push_of_some _ e)
    obtain ⟨tb, hte, hq⟩ := hbody A outer s H vs (ws.map some) Q (hr.deeper _) Cc.len hsp
    have I : Inv (ncx CX0 P w K mg base N F.nf f A outer s H E0) [] (startF N vs (ws.map some)) H { s with heap := h₁, toks := s.toks + (ps.zip us).length } := inv_startN S hr.hd e0 hl rv Cc hns kp
    refine PySem.W.kla_codeExpr (wpAny_mono (hte.run [] _ _ H Q I hq) (fun v s' hq => ?_) fun e s' hq => hq)
    obtain ⟨w', H', J', rv', q⟩ := hq
    exact ⟨w', H', J'.os, J'.bare, J'.base, J'.hok, rv', q⟩
end
end K17
end TL
section TN
set_option Elab.async false
set_option linter.all false
set_option maxRecDepth 100000
set_option maxHeartbeats 4000000
/-! Dicts whose keys are nodes (whole numbers, or pairs of them): made of a list of pairs, grown by another. -/
namespace K17
open PySem PySem.Spec PyProof.Rows L2
section
variable {κ : Type} [DecidableEq κ]
def mergeG (kvs more : List (κ × V)) : List (κ × V) := more.foldl (fun acc kv => putK acc kv.1 kv.2) kvs
theorem valV_mergeG : ∀ (more kvs : List (κ × V)) (k : κ), (valV (mergeG kvs more) k).isSome = ((valV kvs k).isSome || (valV more k).isSome)
  | [], kvs, k => by
    show (valV kvs k).isSome = ((valV kvs k).isSome || (none : Option V).isSome)
    simp
  | p :: more, kvs, k => by
    show (valV (mergeG (putK kvs p.1 p.2) more) k).isSome = _
    rw [valV_mergeG more, valV_put]
    by_cases e : k = p.1
    · rw [if_pos e, valV_pos (p := p) e.symm]
      simp
    · rw [if_neg e, valV_neg (p := p) fun z => e z.symm]
theorem mergeG_len : ∀ (more kvs : List (κ × V)), (mergeG kvs more).length ≤ kvs.length + more.length
  | [], kvs => Nat.le_refl _
  | p :: more, kvs => by
    have h := mergeG_len more (putK kvs p.1 p.2)
    have h2 := length_putK kvs p.1 p.2
    show (mergeG (putK kvs p.1 p.2) more).length ≤ _
    rw [List.length_cons]
    omega
end
theorem KT.merge {H : Hp} : ∀ {more : List (List Key × V)} {ys : List (List Key × Addr × Value)}, KT H more ys → ∀ {kvs : List (List Key × V)} {xs : List (List Key × Addr × Value)}, KT H kvs xs → KT H (mergeG kvs more) (storedAllH xs ys)
  | _, _, .nil, _, _, r => r
  | _, _, .cons (a := p) (b := q) h t, kvs, xs, r => by
    refine KT.merge t (kvs := putK kvs p.1 p.2) (xs := storedH xs q.1 q.2.1 q.2.2) ?_
    rw [← h.1]
    exact r.put p.1 h.2.1 h.2.2
section
variable {X : Cx}
/-- dict(pairs), keys tuples -/
def rDictT (K : PySem.W.Frag) : List V → Hp → VK → Prop := fun xs H Q => ∃ (a : Addr) (ps : List Addr) (kvs : List (List Key × V)), xs = [.ref a] ∧ SqL K H a (ps.map V.ref) ∧
  Paired (fun p kv => ∃ b, SqT K H p [.ref b, kv.2] ∧ H b = some (.tup (kv.1.map kV))) ps kvs ∧ ∀ p, H p = none → Q (.ref p) (upd H p (.dT (mergeG [] kvs)))
theorem pairs_ofT {pins : List (Addr × Obj)} {σ : L2.St} {H : Hp} {s : Shared} (I : Inv X pins σ H s) : ∀ {ps : List Addr} {kvs : List (List Key × V)}, Paired (fun p kv => ∃ b, SqT X.K H p [.ref b, kv.2] ∧ H b = some (.tup (kv.1.map kV))) ps kvs →
    ∃ xs : List (List Key × Addr × Value), KT H kvs xs ∧ xs.length = ps.length ∧ ∀ (j : Nat) (q : List Key × Addr × Value), xs[j]? = some q → ∃ p, ps[j]? = some p ∧ IsTup s.heap p #[.ref q.2.1, q.2.2] ∧ H q.2.1 = some (.tup (q.1.map kV))
  | _, _, .nil => ⟨[], .nil, rfl, fun j q e => by simp at e⟩
  | _, _, .cons (a := p) (b := kv) h t => by
    obtain ⟨xs, r, hl, hp⟩ := pairs_ofT I t
    obtain ⟨b, hq, hb⟩ := h
    obtain ⟨its, rv, ht, _⟩ := I.tuple hq
    obtain ⟨u, y, ei, ru, ry⟩ := vals2 rv
    subst ei
    obtain rfl : u = Value.ref b := ru
    refine ⟨(kv.1, b, y) :: xs, .cons ⟨rfl, hb, ry⟩ r, by rw [List.length_cons, List.length_cons, hl], fun j q e => ?_⟩
    cases j with
    | zero =>
      have e' : (kv.1, b, y) = q := Option.some.inj e
      subst e'
      exact ⟨p, rfl, ht, hb⟩
    | succ j =>
      obtain ⟨p', e1, e2, e3⟩ := hp j q (by simpa using e)
      exact ⟨p', by simpa using e1, e2, e3⟩
theorem cr_dictT {K : PySem.W.Frag} (hc : X.calm = true) (hK : X.K = K) (hu : X.A.units + 16 < cLine) : CallR X (.type "dict") (rDictT K) := by
  subst hK
  intro pins s σ H xs us Q I r q
  obtain ⟨a, ps, kvs, rfl, hq, hp, q⟩ := q
  obtain rfl := Vals.ref1 r
  obtain ⟨its, rv, pl, hz⟩ := I.list hq
  have ei := refs_at rv
  subst ei
  rw [List.length_map] at hz
  obtain ⟨xs, rel, hl, hpr⟩ := pairs_ofT I hp
  obtain ⟨ol, nl, hol, hcl, hdl, hdt⟩ := pl
  have prs : ∀ (j : Nat) (k v : Value), (xs.map fun q : List Key × Addr × Value => (Value.ref q.2.1, q.2.2))[j]? = some (k, v) → ∃ q, xs[j]? = some q ∧ k = .ref q.2.1 ∧ v = q.2.2 := fun j k v e => by
    rw [List.getElem?_map] at e
    cases hx : xs[j]? with
    | none => rw [hx] at e; cases e
    | some q =>
      rw [hx] at e
      cases e
      exact ⟨q, rfl, rfl, rfl⟩
  have P := PySem.PairArg.list (prog := X.prog) (w := X.w) a (ps.map Value.ref).toArray (fun j => ps.getD j 0) (xs.map fun q : List Key × Addr × Value => (Value.ref q.2.1, q.2.2))
  have n0 : H s.heap.objs.size = none := I.hok.fresh (Nat.le_refl _)
  refine PySem.call_dict_pairsH (knd := tupleKind (mixKind X.prog X.w)) (ps := xs) P (I.ok.hd hc) (by show X.A.units + 1 + 1 < cLine; omega) ⟨⟨ol, nl, hol, hcl, hdl, hdt⟩, ?_, fun j k v e => ?_⟩ ⟨by rw [List.length_map], fun i k v e => ?_⟩ (fun h' hk x hx => ?_) (by rw [List.length_map]; omega) fun h' tk hd' hk => ?_
  · rw [List.size_toArray, List.length_map, List.length_map]
    omega
  · obtain ⟨q0, e1, rfl, rfl⟩ := prs j k v e
    obtain ⟨p, e2, e3, _⟩ := hpr j q0 e1
    refine ⟨?_, .inl ?_⟩
    · rw [List.getElem?_toArray, List.getElem?_map, e2]
      show some (Value.ref p) = some (Value.ref (ps.getD j 0))
      rw [List.getD_eq_getElem?_getD, e2]
      rfl
    · show IsTup s.heap (ps.getD j 0) _
      rw [List.getD_eq_getElem?_getD, e2]
      exact e3
  · obtain ⟨q0, e1, rfl, rfl⟩ := prs i k v e
    exact ⟨q0.1, q0.2.1, e1, rfl⟩
  · obtain ⟨j, hj⟩ := List.mem_iff_getElem?.mp hx
    obtain ⟨_, _, _, hb⟩ := hpr j x hj
    obtain ⟨o, its, n, h1, h2, h3, h4⟩ := key_of I.hok hb
    exact ⟨o, its, n, hk _ o (Nat.ne_of_lt (Heap.lt_size h1)) (by simp) h1, h2, h3, h4⟩
  · have kp : ∀ b o, s.heap.get? b = some o → h'.get? b = some o := fun b o e => hk b o (by simp) e
    have rel2 : KT (upd H s.heap.objs.size (.dT (mergeG [] kvs))) (mergeG [] kvs) (storedAllH [] xs) := (KT.merge rel (.nil : KT H [] [])).keeps fun b ys e => by rw [upd_ne (ne_of_none e n0)]; exact e
    obtain ⟨o, es, ep, h1, h2, h3, h4, _, h5⟩ := hd'
    have hz2 := mergeG_len kvs ([] : List (List Key × V))
    have hkl : kvs.length = xs.length := Paired.length rel
    rw [List.length_nil] at hz2
    have hsys : (s.heap.objs.size == sysModules) = false := beq_eq_false_iff_ne.mpr (Nat.ne_of_gt I.big)
    exact ⟨.ref s.heap.objs.size, _, I.laid (o := .dT (mergeG [] kvs)) (t' := tk) kp (Nat.le_refl _) ⟨by omega, hsys, _, rel2, o, es, ep, h1, h2, h3, h4, h5⟩, rfl, q _ n0⟩
/-- d.update(d2): both dicts of whole numbers and texts, or both of tuples -/
def rUpdN : V → List V → Hp → VK → Prop := fun x xs H Q => ∃ a b, x = .ref a ∧ xs = [.ref b] ∧ a ≠ b ∧
  ((∃ kvs more, H a = some (.dK kvs) ∧ H b = some (.dK more) ∧ kvs.length + more.length ≤ sizeLine ∧ Q .non (upd H a (.dK (mergeG kvs more)))) ∨
   (∃ kvs more, H a = some (.dT kvs) ∧ H b = some (.dT more) ∧ kvs ≠ [] ∧ kvs.length + more.length ≤ sizeLine ∧ Q .non (upd H a (.dT (mergeG kvs more)))))
theorem KV.merge : ∀ {more : List (Key × V)} {ys : List (Key × Value)}, KV more ys → ∀ {kvs : List (Key × V)} {xs : List (Key × Value)}, KV kvs xs → KV (mergeG kvs more) (merged xs ys)
  | _, _, .nil, _, _, r => r
  | _, _, .cons (a := p) (b := q) h t, kvs, xs, r => by
    refine KV.merge t (kvs := putK kvs p.1 p.2) (xs := stored xs q.1 q.2) ?_
    rw [← h.1]
    exact r.put p.1 h.2
theorem mt_updN (hu : X.A.units + 16 < cLine) : MtR X "dict.update" rUpdN := by
  intro pins s σ H x xs v us Q I rx rxs h
  obtain ⟨a, b, rfl, rfl, hab, h⟩ := h
  cases rx
  obtain rfl := Vals.ref1 rxs
  rcases h with ⟨kvs, more, ha, hb, hz, q⟩ | ⟨kvs, more, ha, hb, hne, hz, q⟩
  · obtain ⟨za, sa, vs, ra, da⟩ := dk_of I.hok ha
    obtain ⟨zb, sb, ws, rb, db⟩ := dk_of I.hok hb
    refine call_meetsIn PySem.F.slot_dict_update da.typeIs PySem.F.entry_dict_update (PySem.F.args_dict_update_2 _ _) (meets_dict_update (mixKind X.prog X.w) a b hab sb)
      ⟨vs, ws, da, db, by rw [← ra.length, ← rb.length]; exact hz, fun h' da' db' hs => ?_⟩
    have he : ∃ q, h'.get? a = some q := let ⟨q, _, _, hq, _⟩ := da'; ⟨q, hq⟩
    have hl := mergeG_len more kvs
    exact ⟨.non, _, d_write (t' := s.toks) I (by rw [ha]; exact True.intro) hs he (dk_new (by omega) sa (KV.merge rb ra) da'), rfl, q⟩
  · obtain ⟨za, sa, vs, ra, da⟩ := dt_of I.hok ha
    obtain ⟨zb, sb, ws, rb, db⟩ := dt_of I.hok hb
    refine call_update_dictH (knd := tupleKind (mixKind X.prog X.w)) (tupleKind_room_in1 (by omega)) hab sb da db (.inl fun z => ?_) (by rw [← Paired.length ra, ← Paired.length rb]; exact hz) fun h' da' db' hs => ?_
    · rw [z] at ra
      cases ra
      exact hne rfl
    · have hl := mergeG_len more kvs
      obtain ⟨q', es, ep, hq, h2, h3, h4, _, h5⟩ := da'
      refine ⟨.non, _, d_write (ob := .dT (mergeG kvs more)) (t' := s.toks) I (by rw [ha]; exact True.intro) hs ⟨q', hq⟩ ⟨by omega, sa, _, (KT.merge rb ra).keeps fun c ys ec => ?_, q', es, ep, hq, h2, h3, h4, h5⟩, rfl, q⟩
      rw [upd_ne (ne_of ec ha (fun z => nomatch z))]
      exact ec
end
end K17
end TN
section TP
set_option Elab.async false
set_option linter.all false
set_option maxRecDepth 100000
set_option maxHeartbeats 4000000
/-! Nodes: whole numbers, or pairs of them; dicts that know them. -/
namespace K17
open PySem PySem.Spec PyProof.Rows L2
/-! ### all but what may change stands -/
def Fixd : HO → Prop
  | .lst _ => False
  | .dK _ => False
  | .dT _ => False
  | _ => True
def Fx (H H' : Hp) : Prop := ∀ b u, H b = some u → Fixd u → H' b = some u
theorem Same.fx {H H' : Hp} (s : Same H H') : Fx H H' := fun b u e _ => s b u e
theorem Fx.refl {H : Hp} : Fx H H := fun _ _ e _ => e
theorem Fx.trans {H H' H2 : Hp} (a : Fx H H') (b : Fx H' H2) : Fx H H2 := fun c u e f => b c u (a c u e f) f
theorem Fx.put {H : Hp} {p : Addr} {o u : HO} (e : H p = some u) (f : ¬ Fixd u) : Fx H (upd H p o) := fun b v h g => by
  rw [upd_ne (fun z => f (by rw [z, e] at h; cases h; exact g))]
  exact h
theorem Fx.new {H : Hp} {p : Addr} {o : HO} (e : H p = none) : Fx H (L2.upd H p o) := Same.fx (Same.new e)
theorem KRow.fx {H H' : Hp} (s : Fx H H') {kvs : List (Key × V)} {r : Row Str} (k : KRow H kvs r) : KRow H' kvs r := Paired.mapP k fun _ _ ⟨a, m, b, c⟩ => ⟨a, m, b, s _ _ c trivial⟩
theorem RowAt.fx {H H' : Hp} (s : Fx H H') {d : Addr} {r : Row Str} (k : RowAt H d r) : RowAt H' d r := by
  obtain ⟨o, kvs, a, b⟩ := k
  exact ⟨o, kvs, s _ _ a trivial, b.fx s⟩
theorem RowsAt.fx {H H' : Hp} (s : Fx H H') {ds : List Addr} {rs : List (Row Str)} (k : RowsAt H ds rs) : RowsAt H' ds rs := Paired.mapP k fun _ _ z => z.fx s
theorem ReaderAt.fx {C : Addr} {H H' : Hp} (s : Fx H H') {r : Addr} {R : M} (k : ReaderAt C H r R) : ReaderAt C H' r R := by
  obtain ⟨dx, rt, et, ds, a, b, c, d⟩ := k.ex
  exact ⟨dx, rt, et, ds, s _ _ a trivial, s _ _ b trivial, s _ _ c trivial, RowsAt.fx s d⟩
/-! ### the known ones, each once -/
section
variable {ν : Type} [DecidableEq ν]
def addN (L : List ν) (n : ν) : List ν := if n ∈ L then L else L ++ [n]
def mergeN (L M : List ν) : List ν := M.foldl addN L
theorem mem_addN {L : List ν} {n g : ν} : g ∈ addN L n ↔ g ∈ L ∨ g = n := by
  unfold addN
  split
  · rename_i h
    exact ⟨.inl, fun z => z.elim id fun z => z ▸ h⟩
  · rw [List.mem_append, List.mem_singleton]
theorem mem_mergeN : ∀ {M L : List ν} {g : ν}, g ∈ mergeN L M ↔ g ∈ L ∨ g ∈ M
  | [], L, g => by simp [mergeN]
  | m :: M, L, g => by
    show g ∈ mergeN (addN L m) M ↔ _
    rw [mem_mergeN, mem_addN, List.mem_cons, or_assoc]
theorem addN_nd {L : List ν} {n : ν} (h : L.Nodup) : (addN L n).Nodup := by
  unfold addN
  split
  · exact h
  · rename_i z
    rw [List.nodup_append]
    exact ⟨h, by simp, fun a ha b hb => by rw [List.mem_singleton] at hb; exact fun e => z (by rw [← hb, ← e]; exact ha)⟩
theorem mergeN_nd : ∀ {M L : List ν}, L.Nodup → (mergeN L M).Nodup
  | [], _, h => h
  | m :: M, L, h => mergeN_nd (M := M) (addN_nd h)
variable {κ : Type} [DecidableEq κ] {key : ν → κ}
theorem any_key {L : List ν} {kvs : List (κ × V)} (inj : ∀ a b, key a = key b → a = b) (h : kvs.map (·.1) = L.map key) (n : ν) : (kvs.any fun kv => decide (kv.1 = key n)) = decide (n ∈ L) := by
  have e : (kvs.any fun kv => decide (kv.1 = key n)) = true ↔ n ∈ L := by
    rw [List.any_eq_true]
    constructor
    · rintro ⟨kv, hk, he⟩
      have he := of_decide_eq_true he
      have hm : kv.1 ∈ L.map key := by rw [← h]; exact List.mem_map_of_mem hk
      obtain ⟨m, hm, e2⟩ := List.mem_map.mp hm
      have := inj m n (e2.trans he)
      exact this ▸ hm
    · intro hn
      have hm : key n ∈ kvs.map (·.1) := by rw [h]; exact List.mem_map_of_mem hn
      obtain ⟨kv, hk, e2⟩ := List.mem_map.mp hm
      exact ⟨kv, hk, decide_eq_true e2⟩
  by_cases hn : n ∈ L
  · rw [e.mpr hn, decide_eq_true hn]
  · rw [decide_eq_false hn]
    exact Bool.not_eq_true _ ▸ fun z => hn (e.mp z)
theorem keys_put {L : List ν} {kvs : List (κ × V)} (inj : ∀ a b, key a = key b → a = b) (h : kvs.map (·.1) = L.map key) (n : ν) (v : V) : (putK kvs (key n) v).map (·.1) = (addN L n).map key := by
  unfold putK addN
  rw [any_key inj h n]
  by_cases hn : n ∈ L
  · rw [decide_eq_true hn, if_pos rfl, if_pos hn, List.map_map, ← h]
    refine List.map_congr_left fun kv hk => ?_
    show (if kv.1 = key n then (kv.1, v) else kv).1 = kv.1
    split <;> rfl
  · rw [decide_eq_false hn, if_neg Bool.false_ne_true, if_neg hn, List.map_append, List.map_append, h]
    rfl
theorem keys_merge (inj : ∀ a b, key a = key b → a = b) : ∀ {M : List ν} {more : List (κ × V)} {L : List ν} {kvs : List (κ × V)}, kvs.map (·.1) = L.map key → more.map (·.1) = M.map key → (mergeG kvs more).map (·.1) = (mergeN L M).map key
  | [], [], L, kvs, h, _ => h
  | [], _ :: _, _, _, _, h => by simp at h
  | _ :: _, [], _, _, _, h => by simp at h
  | m :: M, p :: more, L, kvs, h, h2 => by
    rw [List.map_cons, List.map_cons, List.cons.injEq] at h2
    show (mergeG (putK kvs p.1 p.2) more).map (·.1) = (mergeN (addN L m) M).map key
    rw [h2.1]
    exact keys_merge inj (keys_put inj h m p.2) h2.2
theorem val_key {L : List ν} {kvs : List (κ × V)} (inj : ∀ a b, key a = key b → a = b) (h : kvs.map (·.1) = L.map key) (n : ν) : (valV kvs (key n)).isSome = decide (n ∈ L) := by
  rw [← valV_any, any_key inj h n]
end
/-! ### a kind of nodes -/
structure NK (K : PySem.W.Frag) (ν : Type) [DecidableEq ν] where
  At : Hp → V → ν → Prop
  Kn : Hp → Addr → List ν → Prop
  dat : ν → PyData
  fx : ∀ {H H' : Hp} {v : V} {n : ν}, Fx H H' → At H v n → At H' v n
  kn : ∀ {H H' : Hp} {d : Addr} {L : List ν}, H' d = H d → Kn H d L → Kn H' d L
  loose : ∀ {H : Hp} {d : Addr} {L : List ν}, Kn H d L → ∃ u, H d = some u ∧ ¬ Fixd u
  nolst : ∀ {H : Hp} {d : Addr} {L : List ν}, Kn H d L → ∀ xs, H d ≠ some (.lst xs)
  ty : ∀ {H : Hp} {d : Addr} {L : List ν}, Kn H d L → (∃ kvs, H d = some (.dK kvs)) ∨ ∃ kvs, H d = some (.dT kvs)
  dp : ∀ {H : Hp} {v : V} {n : ν}, At H v n → Dp K H v (dat n)
  sh : ∀ n, PyData.canLay0 (dat n) = true ∧ PyData.depth (dat n) ≤ 3
  eqv : ∀ a b, PyData.eqv (dat a) (dat b) = decide (a = b)
  get : ∀ {H : Hp} {d : Addr} {L : List ν} {v : V} {n : ν}, Kn H d L → At H v n → ∃ r, DGet H d v r ∧ r.isSome = decide (n ∈ L)
  make : ∀ {H : Hp} {a : Addr} {ps : List Addr} {M : List ν} {Q : VK}, SqL K H a (ps.map V.ref) → Paired (fun p n => ∃ v, H p = some (.tup [v, .bl true]) ∧ At H v n) ps M →
    (∀ q H', H q = none → Same H H' → (∀ b, b ≠ q → H' b = H b) → Kn H' q (mergeN [] M) → Q (.ref q) H') → rDictP K [.ref a] H Q ∨ rDictT K [.ref a] H Q
  up : ∀ {H : Hp} {d e : Addr} {L M : List ν} {Q : VK}, Kn H d L → Kn H e M → d ≠ e → L ≠ [] → L.length + M.length ≤ sizeLine →
    (∀ u, Kn (upd H d u) d (mergeN L M) → Q .non (upd H d u)) → rUpdN (.ref d) [.ref e] H Q
theorem natInt_inj (a b : Nat) (h : ((a : Int)) = (b : Int)) : a = b := by omega
theorem keyI_inj (a b : Nat) (h : (Sum.inl (a : Int) : Key) = Sum.inl (b : Int)) : a = b := natInt_inj a b (Sum.inl.inj h)
/-- nodes that are whole numbers -/
def nkI (K : PySem.W.Frag) : NK K Nat where
  At := fun _ v n => v = .int (n : Int)
  Kn := fun H d L => ∃ kvs : List (Key × V), H d = some (.dK kvs) ∧ kvs.map (·.1) = L.map fun n : Nat => (Sum.inl (n : Int) : Key)
  dat := fun n => .int (n : Int)
  fx := fun _ h => h
  kn := fun e ⟨kvs, a, b⟩ => ⟨kvs, e.trans a, b⟩
  loose := fun ⟨kvs, a, _⟩ => ⟨_, a, id⟩
  nolst := fun ⟨kvs, a, _⟩ xs z => by rw [a] at z; cases z
  ty := fun ⟨kvs, a, _⟩ => .inl ⟨_, a⟩
  dp := fun {H v n} h => by rw [h]; exact .int _
  sh := fun n => ⟨rfl, by show PyData.depth (.int _) ≤ 3; unfold PyData.depth; decide⟩
  eqv := fun a b => by
    show ((a : Int) == (b : Int)) = decide (a = b)
    by_cases h : a = b
    · rw [h, decide_eq_true rfl]; simp
    · rw [decide_eq_false h]; simpa using fun z => h (natInt_inj a b z)
  get := fun {H d L v n} ⟨kvs, a, b⟩ h => by
    rw [h]
    exact ⟨_, DGet.k (k := Sum.inl (n : Int)) a, val_key (key := fun n : Nat => (Sum.inl (n : Int) : Key)) keyI_inj b n⟩
  make := fun {H a ps M Q} ha hp h => by
    refine .inl ⟨a, ps, M.map fun n : Nat => ((Sum.inl (n : Int) : Key), V.bl true), rfl, ha, ?_, fun p hp => h p _ hp (Same.new hp) (fun b hb => upd_ne hb) ⟨_, upd_same, keys_merge keyI_inj rfl (by rw [List.map_map]; rfl)⟩⟩
    clear ha h
    induction hp with
    | nil => exact .nil
    | cons h t ih =>
      obtain ⟨v, h1, h2⟩ := h
      refine .cons (SqT.of ?_) ih
      rw [h1, h2]
      rfl
  up := fun {H d e L M Q} ⟨kvs, a, b⟩ ⟨more, a2, b2⟩ hde hne hl h => by
    have e1 := congrArg List.length b
    have e2 := congrArg List.length b2
    rw [List.length_map, List.length_map] at e1 e2
    exact ⟨d, e, rfl, rfl, hde, .inl ⟨kvs, more, a, a2, by omega, h _ ⟨_, upd_same, keys_merge keyI_inj b b2⟩⟩⟩
abbrev keyP (n : Nat × Nat) : List Key := [Sum.inl (n.1 : Int), Sum.inl (n.2 : Int)]
theorem keyP_inj (a b : Nat × Nat) (h : keyP a = keyP b) : a = b := by
  obtain ⟨a1, a2⟩ := a
  obtain ⟨b1, b2⟩ := b
  have h1 := (List.cons.inj h).1
  have h2 := (List.cons.inj (List.cons.inj h).2).1
  have e1 := keyI_inj a1 b1 h1
  have e2 := keyI_inj a2 b2 h2
  rw [e1, e2]
/-- nodes that are pairs of whole numbers -/
def nkP (K : PySem.W.Frag) : NK K (Nat × Nat) where
  At := fun H v n => ∃ p, v = .ref p ∧ H p = some (.tup [.int (n.1 : Int), .int (n.2 : Int)])
  Kn := fun H d L => ∃ kvs : List (List Key × V), H d = some (.dT kvs) ∧ kvs.map (·.1) = L.map keyP
  dat := fun n => .tuple [.int (n.1 : Int), .int (n.2 : Int)]
  fx := fun s ⟨p, a, b⟩ => ⟨p, a, s _ _ b trivial⟩
  kn := fun e ⟨kvs, a, b⟩ => ⟨kvs, e.trans a, b⟩
  loose := fun ⟨kvs, a, _⟩ => ⟨_, a, id⟩
  nolst := fun ⟨kvs, a, _⟩ xs z => by rw [a] at z; cases z
  ty := fun ⟨kvs, a, _⟩ => .inr ⟨_, a⟩
  dp := fun {H v n} ⟨p, a, b⟩ => by rw [a]; exact .tup (SqT.of b) (.cons (.int _) (.cons (.int _) .nil))
  sh := fun n => ⟨rfl, by simp [PyData.depth, PyData.depthAll]⟩
  eqv := fun a b => by
    show (((a.1 : Int) == (b.1 : Int)) && (((a.2 : Int) == (b.2 : Int)) && true)) = decide (a = b)
    by_cases h : a = b
    · rw [h, decide_eq_true rfl]; simp
    · rw [decide_eq_false h]
      have : ¬ (a.1 = b.1 ∧ a.2 = b.2) := fun z => h (Prod.ext z.1 z.2)
      rw [Bool.and_true]
      by_cases h1 : a.1 = b.1
      · have h2 : ¬ a.2 = b.2 := fun z => this ⟨h1, z⟩
        have : ((a.2 : Int) == (b.2 : Int)) = false := by simpa using fun z => h2 (natInt_inj _ _ z)
        rw [this, Bool.and_false]
      · have : ((a.1 : Int) == (b.1 : Int)) = false := by simpa using fun z => h1 (natInt_inj _ _ z)
        rw [this, Bool.false_and]
  get := fun {H d L v n} ⟨kvs, a, b⟩ ⟨p, h1, h2⟩ => by
    rw [h1]
    exact ⟨_, DGet.t (k := keyP n) a h2, val_key (key := keyP) keyP_inj b n⟩
  make := fun {H a ps M Q} ha hp h => by
    refine .inr ⟨a, ps, M.map fun n => (keyP n, V.bl true), rfl, ha, ?_, fun p hp => h p _ hp (Same.new hp) (fun b hb => upd_ne hb) ⟨_, upd_same, keys_merge keyP_inj rfl (by rw [List.map_map]; rfl)⟩⟩
    clear ha h
    induction hp with
    | nil => exact .nil
    | cons h t ih =>
      obtain ⟨v, h1, p, h2, h3⟩ := h
      refine .cons ⟨p, SqT.of ?_, h3⟩ ih
      rw [h1, h2]
  up := fun {H d e L M Q} ⟨kvs, a, b⟩ ⟨more, a2, b2⟩ hde hne hl h => by
    have e1 := congrArg List.length b
    have e2 := congrArg List.length b2
    rw [List.length_map, List.length_map] at e1 e2
    refine ⟨d, e, rfl, rfl, hde, .inr ⟨kvs, more, a, a2, fun z => hne ?_, by omega, h _ ⟨_, upd_same, keys_merge keyP_inj b b2⟩⟩⟩
    rw [z] at e1
    exact List.length_eq_zero_iff.mp e1.symm
end K17
end TP
section TQ1
set_option Elab.async false
set_option linter.all false
set_option maxRecDepth 100000
set_option maxHeartbeats 4000000
/-! goals_of. -/
namespace K17
open PySem PySem.Spec PyProof.Rows L2
/-- the pairs (sign, goal) at l -/
def PairsAt {ν : Type} (At : Hp → V → ν → Prop) (H : Hp) (xs : List V) (gs : List (Nat × ν)) : Prop := Paired (fun x g => ∃ p v, x = V.ref p ∧ H p = some (.tup [.str (sg g.1), v]) ∧ At H v g.2) xs gs
theorem PairsAt.fx {K : PySem.W.Frag} {ν : Type} [DecidableEq ν] (NN : NK K ν) {H H' : Hp} {xs : List V} {gs : List (Nat × ν)} (s : Fx H H') (h : PairsAt NN.At H xs gs) : PairsAt NN.At H' xs gs :=
  Paired.mapP h fun _ _ ⟨p, v, a, b, c⟩ => ⟨p, v, a, s _ _ b trivial, NN.fx s c⟩
def spGoals (K : PySem.W.Frag) : Sp := fun vs H Q E => ∃ (r : Addr) (R : M) (q : Nat), vs = [.ref r, .int (q : Int)] ∧ ReaderAt (RC K) H r R ∧ q < R.rows.length ∧ (∀ r ∈ R.rows, r.length ≤ 100) ∧
  ∀ l H' xs, H l = none → Same H H' → H' l = some (.lst xs) → PairsAt (nkI K).At H' xs (foAny R q) → Q (.ref l) H'
theorem scGoals : FnScope ["reader", "state", "sign", "goal", "told"] ["reader", "state"] (defScope (top 35)) := ⟨rfl, rfl, rfl, by decide +kernel, rfl, by decide +kernel, by decide +kernel⟩
section
variable {P : Program} {w : World} {K : PySem.W.Frag} {mg : Str → Option Value} {base : Heap}
theorem d_goals_of (T : Tx K mg) (X : Rx K mg) : Def P w K mg base CX0 1 "goals_of" ["reader", "state"] (spGoals K) := by
  refine def_of T 18 35 ["reader", "state", "sign", "goal", "told"] rfl scGoals (fun _ _ _ _ _ _ us hl => match us, hl with | [_, _], _ => rfl) (fun vs H Q E h => ?_) (fun f cdv A outer s H vs Q E hr h => ?_)
  · obtain ⟨r, R, q, rfl, _⟩ := h; rfl
  · obtain ⟨r, R, q, rfl, hR, hq, hrl, k⟩ := h
    have nd := scGoals.nd
    have hu := hu_of hr
    refine ⟨_, pss_one (ps_ret (pe_lc (own := [("sign", 2), ("goal", 3), ("told", 4)]) (g := gTup K 2 (gCons (gName 2) (gCons (gTup K 2 (gCons (gName 3) (gCons (gName 4) gNil))) gNil))) (tt := tYes) rfl nd
        (pi_items (pe_ix ix_tup (pe_fld (pv 0) rfl) (pv 1) (fun _ _ => rfl))) (blkOk_by (own := [("sign", 2), ("goal", 3), ("told", 4)]) (N := ["reader", "state", "sign", "goal", "told"]) (sc := defScope (top 35)) (by decide +kernel))
        (fun _ _ _ _ _ => pg_tup rfl (pgs_cons (pg_name (i := 2) nd rfl (Or.inl rfl)) (pgs_cons (pg_tup rfl (pgs_cons (pg_name (i := 3) nd rfl (Or.inl rfl)) (pgs_cons (pg_name (i := 4) nd rfl (Or.inl rfl)) pgs_nil))) pgs_nil))) (fun _ _ _ _ _ => pts_nil)
        (fun _ _ _ _ _ => pe_tup (pa_cons (pv 2) (pa1 (pv 3)))))), ?_⟩
    obtain ⟨dx, rt, et, ds, h1, h2, h3, h4⟩ := hR.ex
    obtain ⟨d, row, hd1, hd2, o, kvs, hd3, hk⟩ := row_at h4 hq
    have hds : (ds.map V.ref)[q]? = some (.ref d) := by rw [List.getElem?_map, hd1]; rfl
    refine ⟨_, rfl, r, RC K, dx, _, _, rfl, h1, X.cls, X.nR, rfl, _, rfl, rt, _, (q : Int), _, rfl, rfl, SqT.of h2, atI_nat hds, d, o, kvs, rfl, hd3, fun D hD => ?_⟩
    have hrow : R.row q = row := by
      unfold Rdr.row
      rw [List.getD_eq_getElem?_getD, hd2]
      rfl
    have hrm := hrl row (List.mem_of_getElem? hd2)
    refine lc_it (row_items hk) (fun i H1 => Same H H1 ∧ ∃ xs, H1 D = some (.lst xs) ∧ PairsAt (nkI K).At H1 xs ((row.take i).map fun e => (e.1, e.2.1)))
      ⟨Same.new hD, [], upd_same, .nil⟩ (fun i H1 _ hp => hp.1 _ _ hd3) (fun i x H1 H2 hi hp hy => ?_) (fun H1 hp => ?_)
    · obtain ⟨s1, xs, hx, hps⟩ := hp
      obtain ⟨T1, e, m, he, rfl, hT1, rfl, hm⟩ := hy
      have s2 : Same H1 (upd H1 T1 (.tup [.str (sg e.1), .ref m])) := Same.new hT1
      refine ⟨T1, _, rfl, SqT.of upd_same, rfl, _, _, rfl, _, _, rfl, m, _, rfl, SqT.of (s2 _ _ (s1 _ _ hm)), rfl, _, _, rfl, _, _, rfl, rfl, rfl, rfl, ?_⟩
      refine ⟨_, rfl, _, rfl, by show 2 ≤ sizeLine; decide, fun p hp => ?_⟩
      have s3 : Same (upd H1 T1 (.tup [.str (sg e.1), .ref m])) (upd (upd H1 T1 (.tup [.str (sg e.1), .ref m])) p (.tup [.str (sg e.1), .int (e.2.1 : Int)])) := Same.new hp
      have sA := s2.trans s3
      have hxl : xs.length = (row.take i).length := by rw [Paired.len hps, List.length_map]
      refine ⟨xs, sA _ _ hx, ?_, Same.updN (s1.trans sA) hD, xs ++ [.ref p], upd_same, ?_⟩
      · rw [List.length_take] at hxl
        exact lt_line (by omega)
      · have fx1 : Fx H1 (upd (upd (upd H1 T1 (.tup [.str (sg e.1), .ref m])) p (.tup [.str (sg e.1), .int (e.2.1 : Int)])) D (.lst (xs ++ [.ref p]))) := (Same.fx sA).trans (Fx.put (sA _ _ hx) id)
        rw [take_succ_of he, List.map_append]
        refine Paired.app (PairsAt.fx (nkI K) fx1 hps) (.cons ⟨p, _, rfl, ?_, rfl⟩ .nil)
        have hpD : p ≠ D := fun z => by
          rw [z, s2 _ _ hx] at hp
          cases hp
        rw [upd_ne hpD, upd_same]
    · obtain ⟨s1, xs, hx, hps⟩ := hp
      rw [List.take_length] at hps
      refine k D H1 xs hD s1 hx ?_
      unfold foAny
      rw [hrow]
      exact hps
end
end K17
end TQ1
section TQ2
set_option Elab.async false
set_option linter.all false
set_option maxRecDepth 100000
set_option maxHeartbeats 4000000
/-! later_groups: how its things lie. -/
namespace K17
open PySem PySem.Spec PyProof.Rows L2
theorem map_nd_inj {α β : Type} {f : α → β} : ∀ {l : List α} {a b : α}, (l.map f).Nodup → a ∈ l → b ∈ l → f a = f b → a = b
  | x :: l, a, b, nd, ha, hb, e => by
    rw [List.map_cons, List.nodup_cons] at nd
    rcases List.mem_cons.mp ha with z | z <;> rcases List.mem_cons.mp hb with y | y
    · rw [z, y]
    · exact absurd (List.mem_map_of_mem (f := f) y) (by rw [← e, z]; exact nd.1)
    · exact absurd (List.mem_map_of_mem (f := f) z) (by rw [e, y]; exact nd.1)
    · exact map_nd_inj nd.2 z y e
theorem put_new {κ : Type} [DecidableEq κ] {kvs : List (κ × V)} {k : κ} {v : V} (h : valV kvs k = none) : putK kvs k v = kvs ++ [(k, v)] := by
  unfold putK
  rw [valV_any, h]
  rfl
section
variable {K : PySem.W.Frag} {ν : Type} [DecidableEq ν]
abbrev Ent (ν : Type) := Nat × Addr × List ν
abbrev entV {ν : Type} (e : Ent ν) : Key × V := (Sum.inr (sg e.1), .ref e.2.1)
theorem ent_val {ν : Type} (s : Nat) : ∀ ent : List (Ent ν), (valV (ent.map entV) (Sum.inr (sg s) : Key) = none ∧ ∀ e ∈ ent, e.1 ≠ s) ∨ ∃ e ∈ ent, e.1 = s ∧ valV (ent.map entV) (Sum.inr (sg s) : Key) = some (.ref e.2.1)
  | [] => .inl ⟨rfl, fun _ h => nomatch h⟩
  | e :: ent => by
    by_cases h : e.1 = s
    · exact .inr ⟨e, List.mem_cons_self, h, by rw [List.map_cons, valV_pos (p := entV e) (by show (Sum.inr (sg e.1) : Key) = _; rw [h])]⟩
    · have hn : valV ((e :: ent).map entV) (Sum.inr (sg s) : Key) = valV (ent.map entV) (Sum.inr (sg s) : Key) := by
        rw [List.map_cons, valV_neg (p := entV e) fun z => h (sg_inj (Sum.inr.inj z))]
      rw [hn]
      rcases ent_val s ent with ⟨a, b⟩ | ⟨x, a, b, c⟩
      · exact .inl ⟨a, fun x hx => (List.mem_cons.mp hx).elim (fun z => z ▸ h) (b x)⟩
      · exact .inr ⟨x, List.mem_cons_of_mem _ a, b, c⟩
abbrev NodesAt (NN : NK K ν) (H : Hp) (vs : List V) (gs : List ν) : Prop := Paired (fun v n => NN.At H v n) vs gs
theorem NodesAt.fx {NN : NK K ν} {H H' : Hp} {vs : List V} {gs : List ν} (s : Fx H H') (h : NodesAt NN H vs gs) : NodesAt NN H' vs gs := Paired.mapP h fun _ _ z => NN.fx s z
structure EntsAt (NN : NK K ν) (ok : Addr → Prop) (H : Hp) (bd : Addr) (ent : List (Ent ν)) : Prop where
  dict : H bd = some (.dK (ent.map entV))
  nd : (ent.map (·.2.1)).Nodup
  kd : (ent.map (·.1)).Nodup
  lst : ∀ e ∈ ent, ok e.2.1 ∧ ∃ vs, H e.2.1 = some (.lst vs) ∧ NodesAt NN H vs e.2.2
variable {NN : NK K ν} {ok : Addr → Prop} {H H' : Hp} {bd : Addr} {ent : List (Ent ν)}
theorem EntsAt.imp {ok' : Addr → Prop} (x : EntsAt NN ok H bd ent) (h : ∀ e ∈ ent, ok e.2.1 → ok' e.2.1) : EntsAt NN ok' H bd ent := ⟨x.dict, x.nd, x.kd, fun e he => ⟨h e he (x.lst e he).1, (x.lst e he).2⟩⟩
theorem EntsAt.same (s : Same H H') (x : EntsAt NN ok H bd ent) : EntsAt NN ok H' bd ent := ⟨s _ _ x.dict, x.nd, x.kd, fun e he => by
  obtain ⟨a, vs, b, c⟩ := x.lst e he
  exact ⟨a, vs, s _ _ b, c.fx (Same.fx s)⟩⟩
/-- a new sign with an empty list -/
theorem EntsAt.new {s : Nat} {q : Addr} (x : EntsAt NN ok H bd ent) (hs : ∀ e ∈ ent, e.1 ≠ s) (hv : valV (ent.map entV) (Sum.inr (sg s) : Key) = none) (hq : H q = some (.lst [])) (hqe : ∀ e ∈ ent, e.2.1 ≠ q) (hok : ok q) :
    EntsAt NN ok (upd H bd (.dK (putK (ent.map entV) (Sum.inr (sg s)) (.ref q)))) bd (ent ++ [(s, q, [])]) where
  dict := by rw [upd_same, put_new hv, List.map_append]; rfl
  nd := by
    rw [List.map_append, List.nodup_append]
    refine ⟨x.nd, by simp, fun a ha b hb => ?_⟩
    obtain ⟨e, he, rfl⟩ := List.mem_map.mp ha
    simp at hb
    subst hb
    exact hqe e he
  kd := by
    rw [List.map_append, List.nodup_append]
    refine ⟨x.kd, by simp, fun a ha b hb => ?_⟩
    obtain ⟨e, he, rfl⟩ := List.mem_map.mp ha
    simp at hb
    subst hb
    exact hs e he
  lst := fun e he => by
    have nb : ∀ {a vs}, H a = some (.lst vs) → a ≠ bd := fun {a vs} h => ne_of h x.dict (fun z => nomatch z)
    rcases List.mem_append.mp he with z | z
    · obtain ⟨a, vs, b, c⟩ := x.lst e z
      exact ⟨a, vs, by rw [upd_ne (nb b)]; exact b, c.fx (Fx.put x.dict id)⟩
    · rw [List.mem_singleton] at z
      subst z
      exact ⟨hok, [], by rw [upd_ne (nb hq)]; exact hq, .nil⟩
/-- one more goal -/
theorem EntsAt.app {s : Nat} {g : ν} {v : V} {vs : List V} {e : Ent ν} (x : EntsAt NN ok H bd ent) (he : e ∈ ent) (hs : e.1 = s) (hl : H e.2.1 = some (.lst vs)) (hv : NN.At H v g) :
    EntsAt NN ok (upd H e.2.1 (.lst (vs ++ [v]))) bd (ent.map (addG s g)) := by
  have fx : Fx H (upd H e.2.1 (.lst (vs ++ [v]))) := Fx.put hl id
  have e1 : ∀ y : Ent ν, (addG s g y).1 = y.1 := addG_1
  have e2 : ∀ y : Ent ν, (addG s g y).2.1 = y.2.1 := addG_2
  refine ⟨?_, ?_, ?_, fun y hy => ?_⟩
  · rw [upd_ne (fun z => (ne_of hl x.dict (fun z => nomatch z)) z.symm), x.dict, List.map_map]
    congr 2
    refine List.map_congr_left fun y _ => ?_
    show entV y = entV (addG s g y)
    unfold entV
    rw [e1, e2]
  · rw [List.map_map]
    have : (ent.map ((fun p : Ent ν => p.2.1) ∘ addG s g)) = ent.map (·.2.1) := List.map_congr_left fun q _ => e2 q
    rw [this]
    exact x.nd
  · rw [List.map_map]
    have : (ent.map ((fun p : Ent ν => p.1) ∘ addG s g)) = ent.map (·.1) := List.map_congr_left fun q _ => e1 q
    rw [this]
    exact x.kd
  · obtain ⟨r, hr, rfl⟩ := List.mem_map.mp hy
    rw [e2]
    obtain ⟨a, us, b, c⟩ := x.lst r hr
    refine ⟨a, ?_⟩
    by_cases h : r.1 = s
    · have : r = e := map_nd_inj x.kd hr he (h.trans hs.symm)
      subst this
      rw [hl] at b
      cases b
      refine ⟨vs ++ [v], upd_same, ?_⟩
      unfold addG
      rw [if_pos h]
      exact Paired.app (c.fx fx) (.cons (NN.fx fx hv) .nil)
    · have hne : r.2.1 ≠ e.2.1 := fun z => h (by rw [map_nd_inj x.nd hr he z]; exact hs)
      refine ⟨us, by rw [upd_ne hne]; exact b, ?_⟩
      unfold addG
      rw [if_neg h]
      exact c.fx fx
/-! ### the groups told -/
abbrev GrpsAt (NN : NK K ν) (ok : Addr → Prop) (H : Hp) (xs : List V) (out : List (Wd × List ν)) : Prop :=
  Paired (fun x g => ∃ p a vs, x = V.ref p ∧ H p = some (.tup [.str (S g.1), .ref a]) ∧ ok a ∧ H a = some (.lst vs) ∧ NodesAt NN H vs g.2 ∧ vs.length ≤ 600) xs out
theorem GrpsAt.imp {ok' : Addr → Prop} {xs : List V} {out : List (Wd × List ν)} (x : GrpsAt NN ok H xs out) (h : ∀ a vs, H a = some (.lst vs) → ok a → ok' a) : GrpsAt NN ok' H xs out :=
  Paired.mapP x fun _ _ ⟨p, a, vs, e1, e2, e3, e4, e5, e6⟩ => ⟨p, a, vs, e1, e2, h a vs e4 e3, e4, e5, e6⟩
/-- what is ok stands -/
theorem GrpsAt.keep {xs : List V} {out : List (Wd × List ν)} (x : GrpsAt NN ok H xs out) (fx : Fx H H') (k : ∀ a vs, ok a → H a = some (.lst vs) → H' a = some (.lst vs)) : GrpsAt NN ok H' xs out :=
  Paired.mapP x fun _ _ ⟨p, a, vs, e1, e2, e3, e4, e5, e6⟩ => ⟨p, a, vs, e1, fx _ _ e2 trivial, e3, k a vs e3 e4, e5.fx fx, e6⟩
/-- nodes told of a list -/
theorem any_nodes (NN : NK K ν) (g : ν) : ∀ gs : List ν, ((gs.map NN.dat).any fun z => PyData.eqv z (NN.dat g)) = decide (g ∈ gs)
  | [] => by simp
  | x :: gs => by
    rw [List.map_cons, List.any_cons, any_nodes NN g gs, NN.eqv]
    by_cases h : x = g
    · subst h
      simp
    · have : ¬ g = x := fun z => h z.symm
      rw [decide_eq_false h, Bool.false_or]
      by_cases h2 : g ∈ gs
      · rw [decide_eq_true h2, decide_eq_true (List.mem_cons_of_mem _ h2)]
      · rw [decide_eq_false h2, decide_eq_false (fun z => (List.mem_cons.mp z).elim this h2)]
theorem shaped_nodes (NN : NK K ν) (gs : List ν) : SeqAt.shaped (.list (gs.map NN.dat)) = true := by
  have h1 : PyData.canLayAll0 (gs.map NN.dat) = true := by
    induction gs with
    | nil => rfl
    | cons g gs ih =>
      rw [List.map_cons]
      unfold PyData.canLayAll0
      rw [(NN.sh g).1, ih]
      rfl
  have h2 : PyData.depthAll (gs.map NN.dat) ≤ 3 := by
    clear h1
    induction gs with
    | nil => simp [PyData.depthAll]
    | cons g gs ih =>
      rw [List.map_cons]
      have := (NN.sh g).2
      simp [PyData.depthAll]
      omega
  unfold SeqAt.shaped PyData.canLay0
  rw [h1, Bool.true_and]
  refine decide_eq_true ?_
  simp [PyData.depth]
  omega
theorem shaped_node (NN : NK K ν) (g : ν) : SeqAt.shaped (NN.dat g) = true := by
  unfold SeqAt.shaped
  rw [(NN.sh g).1, Bool.true_and]
  have := (NN.sh g).2
  exact decide_eq_true (by omega)
theorem dpAll_nodes {vs : List V} {gs : List ν} (h : NodesAt NN H vs gs) : DpAll K H vs (gs.map NN.dat) := by
  induction h with
  | nil => exact .nil
  | cons h t ih => exact .cons (NN.dp h) ih
theorem dp_nodes {a : Addr} {vs : List V} {gs : List ν} (ha : H a = some (.lst vs)) (h : NodesAt NN H vs gs) : Dp K H (.ref a) (.list (gs.map NN.dat)) := .lst (SqL.of ha) (dpAll_nodes h)
end
end K17
end TQ2
section TQ3
set_option Elab.async false
set_option linter.all false
set_option maxRecDepth 100000
set_option maxHeartbeats 4000000
/-! later_groups. -/
namespace K17
open PySem PySem.Spec PyProof.Rows L2
section
variable {P : Program} {w : World} {K : PySem.W.Frag} {mg : Str → Option Value} {base : Heap}
/-- all but d stands -/
abbrev ButD (d : Addr) (H H' : Hp) : Prop := ∀ b u, b ≠ d → H b = some u → H' b = some u
theorem ButD.fx {d : Addr} {H H' : Hp} (b : ButD d H H') (h : ∃ u, H d = some u ∧ ¬ Fixd u) : Fx H H' := fun c u e f => b c u (fun z => by
  obtain ⟨v, hv, nv⟩ := h
  rw [z, hv] at e
  cases e
  exact nv f) e
theorem ButD.free {d b : Addr} {H H' : Hp} (k : ButD d H H') (hd : H' d ≠ none) (h : H' b = none) : H b = none := by
  cases e : H b with
  | none => rfl
  | some u =>
    by_cases z : b = d
    · rw [z] at h
      exact absurd h hd
    · rw [k b u z e] at h
      cases h
theorem ButD.same {d : Addr} {H H' H2 : Hp} (b : ButD d H H') (s : Same H' H2) : ButD d H H2 := fun c u n e => s c u (b c u n e)
theorem ButD.pre {d : Addr} {H H' H2 : Hp} (s : Same H H') (b : ButD d H' H2) : ButD d H H2 := fun c u n e => b c u n (s c u e)
theorem ButD.put {d : Addr} {H H' : Hp} {o : HO} (b : ButD d H H') : ButD d H (upd H' d o) := fun c u n e => by
  rw [upd_ne n]
  exact b c u n e
theorem signsBy {ys : List Str} {ks : List Nat} (h : ys.Perm (ks.map sg)) (hs : sortedS ys = true) (nd : ks.Nodup) : ∃ cs : List Nat, ys = cs.map sg ∧ cs.Pairwise (· < ·) ∧ ∀ c, c ∈ cs ↔ c ∈ ks := by
  have ndk : (ks.map sg).Nodup := List.pairwise_map.mpr (nd.imp fun h e => h (sg_inj e))
  have ndy : ys.Nodup := h.nodup_iff.mpr ndk
  have he : ys = (ys.map fun z : Str => z.cps.toList.headD 0).map sg := by
    rw [List.map_map]
    refine ((List.map_congr_left fun y hy => ?_).trans (List.map_id ys)).symm
    obtain ⟨k, hk, rfl⟩ := List.mem_map.mp (h.mem_iff.mp hy)
    rfl
  refine ⟨_, he, ?_, fun c => ?_⟩
  · have p := sortedS_lt hs ndy
    rw [he, List.pairwise_map] at p
    exact p.imp fun {a b} z => (lex_snoc_same a b []).mp z
  · constructor
    · intro hc
      have : sg c ∈ ys := by rw [he]; exact List.mem_map_of_mem hc
      obtain ⟨k, hk, e⟩ := List.mem_map.mp (h.mem_iff.mp this)
      exact sg_inj e ▸ hk
    · intro hc
      have : sg c ∈ ys := h.mem_iff.mpr (List.mem_map_of_mem hc)
      rw [he] at this
      obtain ⟨k, hk, e⟩ := List.mem_map.mp this
      exact sg_inj e ▸ hk
/-- a function that tells a node's pairs -/
structure FoAt {ν : Type} [DecidableEq ν] (P : Program) (w : World) (K : PySem.W.Frag) (mg : Str → Option Value) (base : Heap) (NN : NK K ν) (U : List ν) (fo : ν → List (Nat × ν)) (f : Addr) (Held : Hp → Prop) (sp : Sp) : Prop where
  cal : Cal P w K mg base 6 f Held sp
  fx : ∀ H H', Fx H H' → Held H → Held H'
  run : ∀ (H : Hp) (v : V) (n : ν) (Q : VK), Held H → NN.At H v n → n ∈ U → (∀ l H' xs, H l = none → Same H H' → H' l = some (.lst xs) → PairsAt NN.At H' xs (fo n) → Q (.ref l) H') → sp [v] H Q E0
/-- the nodes and the signs, few -/
structure Few {ν : Type} (U : List ν) (SG : List Nat) (fo : ν → List (Nat × ν)) : Prop where
  lu : U.length ≤ 600
  ls : SG.length < 64
  ln : ∀ n ∈ U, (fo n).length ≤ 100
  gl : ∀ n ∈ U, ∀ e ∈ fo n, e.1 ∈ SG ∧ e.2 ∈ U
theorem hu65_of {A : Around} {k : Nat} (hr : Room k A) : A.units + 65 < cLine := by have := hr.un; omega
theorem hu16_of {A : Around} {k : Nat} (hr : Room k A) : A.units + 16 < cLine := by have := hr.un; omega
theorem tNil_of {σ : L2.St} {H : Hp} {Q : List V → Hp → Prop} (h : Q [] H) : tNil σ H Q := h
def spLater {ν : Type} [DecidableEq ν] (P : Program) (w : World) (K : PySem.W.Frag) (mg : Str → Option Value) (base : Heap) (NN : NK K ν) : Sp := fun vs H Q E => ∃ (wd : Wd) (nl f d : Addr) (nvs : List V) (N L U : List ν) (SG : List Nat) (fo : ν → List (Nat × ν)) (Held : Hp → Prop) (sp : Sp),
  vs = [.str (S wd), .ref nl, .ref f, .ref d] ∧ H nl = some (.lst nvs) ∧ NodesAt NN H nvs N ∧ FoAt P w K mg base NN U fo f Held sp ∧ Held H ∧ NN.Kn H d L ∧ L ≠ [] ∧ L.Nodup ∧ (∀ n ∈ L, n ∈ U) ∧ (∀ n ∈ N, n ∈ U) ∧ wd.length ≤ 700 ∧ Few U SG fo ∧
  ∀ l H' L' out xs, H l = none → ButD d H H' → Held H' → NN.Kn H' d L' → L'.Nodup → Later fo wd N L out L' → H' l = some (.lst xs) → GrpsAt NN (fun a => H a = none) H' xs out → Q (.ref l) H'
theorem scLater : FnScope ["word", "nodes", "follow", "known", "by_sign", "node", "sign", "goal", "found", "fresh"] ["word", "nodes", "follow", "known"] (defScope (top 32)) := ⟨rfl, rfl, rfl, by decide +kernel, rfl, by decide +kernel, by decide +kernel⟩
theorem d_later {ν : Type} [DecidableEq ν] (NN : NK K ν) (T : Tx K mg) : Def P w K mg base CX0 8 "later_groups" ["word", "nodes", "follow", "known"] (spLater P w K mg base NN) := by
  refine def_of T 15 32 ["word", "nodes", "follow", "known", "by_sign", "node", "sign", "goal", "found", "fresh"] rfl scLater (fun _ _ _ _ _ _ us hl => match us, hl with | [_, _, _, _], _ => rfl) (fun vs H Q E h => ?_) (fun f cdv A outer s H vs Q E hr h => ?_)
  · obtain ⟨wd, nl, ff, d, nvs, N, L, U, SG, fo, Held, sp, rfl, _⟩ := h; rfl
  · obtain ⟨wd, nl, ff, d, nvs, N, L, U, SG, fo, Held, sp, rfl, hnl, hN, F, hH, hK, hL0, hLnd, hLU, hNU, hwl, W, k⟩ := h
    have nd := scLater.nd
    have hu := hu_of hr
    have hu65 := hu65_of hr
    have hu16 := hu16_of hr
    refine ⟨_, PSs.nox (pss_cons (ps_set (i := 4) nd rfl (Or.inl rfl) pe_dnewK)
      (pss_cons (ps_for PassesOwn.never rfl (pi_list (pv 1)) (g := gName 5) (pg_name (i := 5) nd rfl (Or.inl rfl))
        (pss_one (ps_for PassesOwn.never rfl (pi_list (pe_calF (k := 6) (i := 2) hr rfl (Or.inl rfl) (pa1 (pv 5)))) (g := gTup K 2 (gCons (gName 6) (gCons (gName 7) gNil))) (pg_tup rfl (pgs_cons (pg_name (i := 6) nd rfl (Or.inl rfl)) (pgs_cons (pg_name (i := 7) nd rfl (Or.inl rfl)) pgs_nil)))
          (pss_one (ps_if (PW.pt (pw_and (pt_cmp (pc_dnotin hu (pv 7) (pv 3))) (pw_and1 (pt_cmpR (op_notInD hu65) (pv 7) (pe_dsetd (pv 4) (pv 6) (pe_lst pa_nil) ⟨rfl, rfl, rfl, rfl⟩) (by rfl)))))
            (pss_one (ps_expr (pe_bm PySem.F.plainAttrs_list PySem.F.slot_list_append PySem.F.type_list_append mt_append (pe_dget hu (pv 4) (pv 6) (fun _ _ => rfl)) (pa1 (pv 7))))) pss_nil)))))
      (pss_cons (ps_set (i := 8) nd rfl (Or.inl rfl) (pe_lst pa_nil))
      (pss_cons (ps_for PassesOwn.never rfl (pi_list (pB T b_sorted (call_sortedD rfl) (pa1 (pv 4)))) (g := gName 6) (pg_name (i := 6) nd rfl (Or.inl rfl))
        (pss_cons (ps_setLc (i := 9) (own := [("goal", 7)]) (g := gName 7) rfl nd rfl rfl (sw_true rfl rfl rfl (by decide +kernel)) (pi_list (pe_dget hu (pv 4) (pv 6) (fun _ _ => rfl))) (blkOk_by (own := [("goal", 7)]) (N := ["word", "nodes", "follow", "known", "by_sign", "node", "sign", "goal", "found", "fresh"]) (sc := defScope (top 32)) (by decide +kernel))
          (fun _ _ _ _ _ => pg_name (i := 7) nd rfl (Or.inl rfl)) (fun _ _ _ _ _ => pts_one (pt_cmp (pc_dnotin hu (pv 7) (pv 3)))) (fun _ _ _ _ _ => pv 7))
        (pss_cons (ps_expr (pe_bm PySem.F.plainAttrs_dict PySem.F.slot_dict_update PySem.F.type_dict_update (mt_updN hu16) (pv 3) (pa1 (pT T b_dict (r := fun xs H Q => rDictP K xs H Q ∨ rDictT K xs H Q) (CallR.or (cr_dictP rfl rfl) (cr_dictT rfl rfl hu16))
            (pa1 (pe_lc (own := [("goal", 7)]) (g := gName 7) (tt := tYes) rfl nd (pi_list (pv 9)) (blkOk_by (own := [("goal", 7)]) (N := ["word", "nodes", "follow", "known", "by_sign", "node", "sign", "goal", "found", "fresh"]) (sc := defScope (top 32)) (by decide +kernel))
              (fun _ _ _ _ _ => pg_name (i := 7) nd rfl (Or.inl rfl)) (fun _ _ _ _ _ => pts_nil) (fun _ _ _ _ _ => pe_tup (pa_cons (pv 7) (pa1 pe_bl)))))))))
        (pss_one (ps_expr (pe_bm PySem.F.plainAttrs_list PySem.F.slot_list_extend PySem.F.type_list_extend mt_extend (pv 8) (pa1 (pe_ifExp (pt_cmpR (op_neNil hu) (pv 9) (pe_lst pa_nil) (nomark _))
            (pe_lst (pa1 (pe_tup (pa_cons (pe_op op_add_str (pv 0) (pv 6)) (pa1 (pv 9)))))) (pe_lst pa_nil)))))))))
      (pss_one (ps_ret (pv 8))))))), ?_⟩
    intro bd hbd
    have s0 : Same H (upd H bd (.dK [])) := Same.new hbd
    have hdl := NN.loose hK
    have hdbd : d ≠ bd := fun z => by
      obtain ⟨u, hu, _⟩ := hdl
      rw [z, hbd] at hu
      cases hu
    refine ⟨_, rfl, nl, rfl, ⟨_, SqL.of (s0 _ _ hnl)⟩, ?_⟩
    refine for_it (walk_list (xs := nvs)) (fun i σ H1 => Same H H1 ∧ (∃ ent, EntsAt NN (fun a => H a = none) H1 bd ent ∧ BySign L ((N.take i).flatMap fo) ent ∧ ∀ e ∈ ent, e.1 ∈ SG) ∧
        ∃ u5 u6 u7, σ = [some (.str (S wd)), some (.ref nl), some (.ref ff), some (.ref d), some (.ref bd), u5, u6, u7, none, none])
      ⟨s0, ⟨[], ⟨upd_same, .nil, .nil, fun _ h => (nomatch h)⟩, BySign.nil, fun _ h => (nomatch h)⟩, none, none, none, rfl⟩ (fun i σ H1 _ hp => SqL.of (hp.1 _ _ hnl)) (fun i x σ H1 H2 hi hp hy => ?_) (fun σ H1 hp => ?_)
    · obtain ⟨s1, ⟨ent, hent, hby, hes⟩, u5, u6, u7, rfl⟩ := hp
      obtain ⟨rfl, hx⟩ := hy
      obtain ⟨n, hn, hxn⟩ := Paired.get1 hN hx
      have hnU := hNU n (List.mem_of_getElem? hn)
      have tkE : (N.take (i + 1)).flatMap fo = (N.take i).flatMap fo ++ fo n := by
        rw [take_succ_of hn, List.flatMap_append]
        simp
      refine ⟨ff, Held, sp, rfl, F.cal, F.fx _ _ (Same.fx s1) hH, _, rfl, F.fx _ _ (Same.fx s1) hH, ?_⟩
      refine F.run H2 x n _ (F.fx _ _ (Same.fx s1) hH) (NN.fx (Same.fx s1) hxn) hnU fun l H3 xs hl s2 hxs hps => ?_
      refine ⟨l, rfl, ⟨xs, SqL.of hxs⟩, ?_⟩
      have hxl : xs.length = (fo n).length := Paired.len hps
      refine for_it (walk_list (xs := xs)) (fun j σ H4 => Same H H4 ∧ Fx H3 H4 ∧ H4 l = some (.lst xs) ∧ (∃ ent, EntsAt NN (fun a => H a = none ∧ a ≠ l) H4 bd ent ∧ BySign L ((N.take i).flatMap fo ++ (fo n).take j) ent ∧ ∀ e ∈ ent, e.1 ∈ SG) ∧
          ∃ u6 u7, σ = [some (.str (S wd)), some (.ref nl), some (.ref ff), some (.ref d), some (.ref bd), some x, u6, u7, none, none])
        ⟨s1.trans s2, Fx.refl, hxs, ⟨ent, (hent.same s2).imp fun e he z => ⟨z, fun y => ?_⟩, by simpa using hby, hes⟩, u6, u7, rfl⟩ (fun j σ H4 _ hp => SqL.of hp.2.2.1) (fun j y σ H4 H5 hj hp hy => ?_) (fun σ H4 hp => ?_)
      · obtain ⟨_, vs, h1, _⟩ := hent.lst e he
        rw [y, hl] at h1
        cases h1
      · obtain ⟨s4, f4, hxs4, ⟨ent4, he4, hb4, hS4⟩, u6, u7, rfl⟩ := hp
        obtain ⟨rfl, hy⟩ := hy
        obtain ⟨⟨c, g⟩, hcg, p, v, rfl, hp, hv⟩ := Paired.get1 hps hy
        have hp : H3 p = some (.tup [.str (sg c), v]) := hp
        have hv : NN.At H3 v g := hv
        have hp5 := f4 _ _ hp trivial
        have hv5 := NN.fx f4 hv
        obtain ⟨hcS, hgU⟩ := W.gl n hnU (c, g) (List.mem_of_getElem? hcg)
        have hcg2 : (fo n).take (j + 1) = (fo n).take j ++ [(c, g)] := take_succ_of hcg
        have hKd : NN.Kn H5 d L := NN.kn (by
          obtain ⟨u, hu, _⟩ := hdl
          rw [s4 _ _ hu, hu]) hK
        obtain ⟨o, hget, hsome⟩ := NN.get hKd hv5
        refine ⟨p, _, rfl, SqT.of hp5, rfl, _, _, rfl, _, _, rfl, rfl, ?_⟩
        refine ⟨_, rfl, _, rfl, d, o, rfl, hget, ?_⟩
        rw [hsome]
        by_cases hg : g ∈ L
        · rw [decide_eq_true hg]
          refine ⟨false, rfl, iteF (iteF ⟨s4, f4, hxs4, ⟨ent4, he4, ?_, hS4⟩, _, _, rfl⟩)⟩
          rw [hcg2, ← List.append_assoc]
          exact hb4.old hg
        · rw [decide_eq_false hg]
          refine ⟨true, rfl, iteT ?_⟩
          refine ⟨_, rfl, _, rfl, bd, rfl, .inl ⟨_, .inl he4.dict⟩, _, rfl, Nat.zero_le _, fun q hq => ?_⟩
          have hEU : ∀ e ∈ (N.take i).flatMap fo ++ (fo n).take j, e.2 ∈ U := fun e he => by
            rcases List.mem_append.mp he with z | z
            · obtain ⟨m, hm, hme⟩ := List.mem_flatMap.mp z
              exact (W.gl m (hNU m (List.mem_of_mem_take hm)) e hme).2
            · exact (W.gl n hnU e (List.mem_of_mem_take z)).2
          have hel : ent4.length < 64 := by
            have := nodup_le he4.kd fun x hx => let ⟨e, he, ee⟩ := List.mem_map.mp hx; ee ▸ hS4 e he
            rw [List.length_map] at this
            have := W.ls
            omega
          have s6 : Same H5 (upd H5 q (.lst [])) := Same.new hq
          have he6 := he4.same s6
          have hlq : l ≠ q := ne_of_none hxs4 hq
          have hHq : H q = none := Same.free s4 hq
          have hv6 : NN.At (upd H5 q (.lst [])) v g := NN.fx (Same.fx s6) hv5
          refine ⟨_, Sum.inr (sg c), he6.dict, rfl, by rw [List.length_map]; exact lt_line (by omega), fun v0 hv0 => ?_, fun hv0 => ?_⟩
          · rcases ent_val c ent4 with ⟨z, _⟩ | ⟨e, he, hec, hev⟩
            · rw [z] at hv0
              cases hv0
            · rw [hev] at hv0
              cases hv0
              obtain ⟨hok, vs, hvs, hns⟩ := he6.lst e he
              refine ⟨_, _, NN.dp hv6, dp_nodes hvs hns, shaped_node NN g, shaped_nodes NN _, ?_⟩
              rw [any_nodes]
              by_cases hge : g ∈ e.2.2
              · rw [decide_eq_true hge]
                refine ⟨false, rfl, iteF ⟨s4.trans s6, f4.trans (Same.fx s6), s6 _ _ hxs4, ⟨ent4, he6, ?_, hS4⟩, _, _, rfl⟩⟩
                rw [hcg2, ← List.append_assoc]
                exact hb4.there hg he hec hge
              · rw [decide_eq_false hge]
                refine ⟨true, rfl, iteT ?_⟩
                refine ⟨_, rfl, _, rfl, bd, _, rfl, .inl ⟨_, Sum.inr (sg c), .inl he6.dict, rfl, hev.symm⟩, .inl ⟨rfl, _, SqL.of hvs⟩, _, rfl, e.2.1, vs, v, rfl, rfl, hvs, ?_, ?_⟩
                · have h1 : vs.length = e.2.2.length := Paired.len hns
                  have h2 := nodup_le (hb4.gnd e he) fun x hx => hEU _ ((hb4.mem e he x).mp hx).2
                  have := W.lu
                  exact lt_line (by omega)
                · have hne : e.2.1 ≠ l := hok.2
                  refine ⟨Same.updN (s4.trans s6) hok.1, (f4.trans (Same.fx s6)).trans (Fx.put hvs id), by rw [upd_ne hne.symm]; exact s6 _ _ hxs4, ⟨ent4.map (addG c g), he6.app he hec hvs hv6, ?_, fun y hy => ?_⟩, _, _, rfl⟩
                  · rw [hcg2, ← List.append_assoc]
                    exact hb4.more hg he hec hge
                  · obtain ⟨r, hr, rfl⟩ := List.mem_map.mp hy
                    rw [addG_1]
                    exact hS4 r hr
          · rcases ent_val c ent4 with ⟨z, hno⟩ | ⟨e, he, hec, hev⟩
            · have he7 := he6.new (s := c) (q := q) hno z upd_same (fun e he y => by
                obtain ⟨_, vs, h1, _⟩ := he4.lst e he
                rw [y, hq] at h1
                cases h1) ⟨hHq, hlq.symm⟩
              have hme : (c, q, ([] : List ν)) ∈ ent4 ++ [(c, q, [])] := List.mem_append_right _ List.mem_cons_self
              obtain ⟨hok, vs, hvs, hns⟩ := he7.lst _ hme
              cases hns
              have hvs : (upd (upd H5 q (.lst [])) bd (.dK (putK (ent4.map entV) (Sum.inr (sg c)) (.ref q)))) q = some (.lst []) := hvs
              have f7 : Fx (upd H5 q (.lst [])) (upd (upd H5 q (.lst [])) bd (.dK (putK (ent4.map entV) (Sum.inr (sg c)) (.ref q)))) := Fx.put he6.dict id
              have hv7 := NN.fx f7 hv6
              have hbl : bd ≠ l := fun y => by
                have := he6.dict
                rw [y, s6 _ _ hxs4] at this
                cases this
              refine ⟨_, _, NN.dp hv7, dp_nodes hvs .nil, shaped_node NN g, shaped_nodes NN [], true, rfl, iteT ?_⟩
              refine ⟨_, rfl, _, rfl, bd, .ref q, rfl, .inl ⟨_, Sum.inr (sg c), .inl upd_same, rfl, by rw [valV_put, if_pos rfl]⟩, .inl ⟨rfl, _, SqL.of hvs⟩, _, rfl, q, [], v, rfl, rfl, hvs, by decide, ?_⟩
              have hap := he7.app hme rfl hvs hv7
              have hmap : (ent4 ++ [(c, q, ([] : List ν))]).map (addG c g) = ent4 ++ [(c, q, [g])] := by
                rw [List.map_append]
                congr 1
                · refine (List.map_congr_left fun y hy => ?_).trans (List.map_id _)
                  show addG c g y = y
                  unfold addG
                  rw [if_neg (hno y hy)]
                · show [addG c g (c, q, [])] = _
                  unfold addG
                  rw [if_pos rfl]
                  rfl
              rw [hmap] at hap
              refine ⟨Same.updN (Same.updN (s4.trans s6) hbd) hHq, ((f4.trans (Same.fx s6)).trans f7).trans (Fx.put hvs id), ?_, ⟨ent4 ++ [(c, q, [g])], hap, ?_, fun y hy => ?_⟩, _, _, rfl⟩
              · rw [upd_ne hlq, upd_ne hbl.symm]
                exact s6 _ _ hxs4
              · rw [hcg2, ← List.append_assoc]
                exact hb4.fresh hg hno
              · rcases List.mem_append.mp hy with z | z
                · exact hS4 y z
                · rw [List.mem_singleton] at z
                  rw [z]
                  exact hcS
            · rw [hev] at hv0
              cases hv0
      · obtain ⟨s4, f4, hxs4, ⟨ent4, he4, hb4, hS4⟩, u6, u7, rfl⟩ := hp
        refine ⟨s4, ⟨ent4, he4.imp fun e he z => z.1, ?_, hS4⟩, _, _, _, rfl⟩
        rw [tkE]
        rw [hxl, List.take_length] at hb4
        exact hb4
    · obtain ⟨s1, ⟨ent, hent, hby, hes⟩, u5, u6, u7, rfl⟩ := hp
      have hE2 : (N.take nvs.length).flatMap fo = N.flatMap fo := by rw [Paired.len hN, List.take_length]
      rw [hE2] at hby
      have hE : ∀ c g, (c, g) ∈ N.flatMap fo ↔ ∃ n ∈ N, (c, g) ∈ fo n := fun c g => List.mem_flatMap
      have hEU : ∀ e ∈ N.flatMap fo, e.2 ∈ U := fun e he => by
        obtain ⟨m, hm, hme⟩ := List.mem_flatMap.mp he
        exact (W.gl m (hNU m hm) e hme).2
      generalize N.flatMap fo = E0' at hby hE hEU
      have hK1 : NN.Kn H1 d L := NN.kn (by
        obtain ⟨u, hu, _⟩ := hdl
        rw [s1 _ _ hu, hu]) hK
      have hdl1 := NN.loose hK1
      refine ⟨Nat.zero_le _, fun fl hfl => ?_⟩
      have s2 : Same H1 (upd H1 fl (.lst [])) := Same.new hfl
      have hel : ent.length < 64 := by
        have := nodup_le hent.kd fun x hx => let ⟨e, he, ee⟩ := List.mem_map.mp hx; ee ▸ hes e he
        rw [List.length_map] at this
        have := W.ls
        omega
      refine ⟨_, rfl, bd, ent.map entV, (ent.map (·.1)).map sg, rfl, .inl (s2 _ _ hent.dict), by rw [List.map_map, List.map_map, List.map_map]; rfl, by rw [List.length_map, List.length_map]; exact hel, fun ys p hperm hsort hp => ?_⟩
      obtain ⟨cs, rfl, hinc, hcs⟩ := signsBy hperm hsort hent.kd
      have s3 := s2.trans (Same.new (o := .lst ((cs.map sg).map V.str)) hp)
      have hpf : p ≠ fl := fun z => by rw [z, upd_same] at hp; cases hp
      have hp1 : H1 p = none := Same.free s2 hp
      have hdp : d ≠ p := fun z => by
        obtain ⟨u, hu, _⟩ := hdl1
        rw [z, hp1] at hu
        cases hu
      have hdf : d ≠ fl := fun z => by
        obtain ⟨u, hu, _⟩ := hdl1
        rw [z, hfl] at hu
        cases hu
      refine ⟨p, rfl, ⟨_, SqL.of upd_same⟩, ?_⟩
      have hcl : cs.length ≤ 64 := by
        have := nodup_le (hinc.imp fun h => Nat.ne_of_lt h) fun x hx => (hcs x).mp hx
        rw [List.length_map] at this
        omega
      have hall : ∀ c g, (c, g) ∈ E0' → g ∉ L → c ∈ cs := fun c g h1 h2 => by
        obtain ⟨e, he, e1⟩ := hby.all (c, g) h1 h2
        have e1 : e.1 = c := e1
        exact (hcs c).mpr (by rw [← e1]; exact List.mem_map_of_mem (f := (·.1)) he)
      refine for_it (walk_list (xs := (cs.map sg).map V.str)) (fun i σ Hx => ButD d H1 Hx ∧ Hx p = some (.lst ((cs.map sg).map V.str)) ∧ (∃ Li out xs, NN.Kn Hx d Li ∧ Li.Nodup ∧ Part wd L E0' cs i out Li ∧ out.length ≤ i ∧ Hx fl = some (.lst xs) ∧ GrpsAt NN (fun a => H a = none ∧ a ≠ fl) Hx xs out) ∧
          ∃ u5 u6 u7 u9, σ = [some (.str (S wd)), some (.ref nl), some (.ref ff), some (.ref d), some (.ref bd), u5, u6, u7, some (.ref fl), u9])
        ⟨fun b u _ e => s3 _ _ e, upd_same, ⟨L, [], [], NN.kn (by rw [upd_ne hdp, upd_ne hdf]) hK1, hLnd, Part.start, Nat.le_refl _, by rw [upd_ne hpf.symm]; exact upd_same, .nil⟩, _, _, _, _, rfl⟩ (fun i σ Hx _ hp => SqL.of hp.2.1) (fun i x σ Hx Hy hi hq hy => ?_) (fun σ Hx hq => ?_)
      · obtain ⟨k1, hpx, ⟨Li, out, xs, hKi, hLi, hPt, hol, hfx, hgr⟩, u5, u6, u7, u9, rfl⟩ := hq
        obtain ⟨rfl, hx⟩ := hy
        rw [List.map_map, List.getElem?_map] at hx
        cases hc : cs[i]? with
        | none => rw [hc] at hx; cases hx
        | some c =>
          rw [hc] at hx
          obtain rfl : V.str (sg c) = x := Option.some.inj hx
          obtain ⟨e, he, hec⟩ := List.mem_map.mp ((hcs c).mp (List.mem_of_getElem? hc))
          have hec : e.1 = c := hec
          obtain ⟨hok, vs, hvs, hns⟩ := hent.lst e he
          have fx1 := k1.fx hdl1
          have hvx : Hy e.2.1 = some (.lst vs) := k1 _ _ (fun z => NN.nolst hK1 vs (by rw [← z]; exact hvs)) hvs
          have hbx : Hy bd = some (.dK (ent.map entV)) := k1 _ _ hdbd.symm hent.dict
          have hnx := hns.fx fx1
          have hev : valV (ent.map entV) (Sum.inr (sg c) : Key) = some (.ref e.2.1) := by
            rcases ent_val c ent with ⟨_, z⟩ | ⟨e', he', hec', hev'⟩
            · exact absurd hec (z e he)
            · rw [map_nd_inj hent.kd he he' (hec.trans hec'.symm)]
              exact hev'
          have hgl : e.2.2.length ≤ 600 := by
            have h2 := nodup_le (hby.gnd e he) fun x hx => hEU _ ((hby.mem e he x).mp hx).2
            have := W.lu
            omega
          have hvl : vs.length = e.2.2.length := Paired.len hns
          refine ⟨_, rfl, _, rfl, bd, .ref e.2.1, rfl, .inl ⟨_, Sum.inr (sg c), .inl hbx, rfl, hev.symm⟩, e.2.1, rfl, ⟨vs, SqL.of hvx⟩, fun D hD => ?_⟩
          refine lc_it (walk_list (xs := vs)) (fun j H5 => Same Hy H5 ∧ ∃ fvs, H5 D = some (.lst fvs) ∧ NodesAt NN H5 fvs ((e.2.2.take j).filter fun g => decide (g ∉ Li)))
            ⟨Same.new hD, [], upd_same, .nil⟩ (fun j H5 _ hq => SqL.of (hq.1 _ _ hvx)) (fun j y H5 H6 hj hq hy => ?_) (fun H5 hq => ?_)
          · obtain ⟨s5, fvs, hf, hfn⟩ := hq
            obtain ⟨rfl, hy⟩ := hy
            obtain ⟨g, hg, hv⟩ := Paired.get1 hnx hy
            have hv5 := NN.fx (Same.fx s5) hv
            have hK5 : NN.Kn H6 d Li := NN.kn (by
              obtain ⟨u, hu, _⟩ := NN.loose hKi
              rw [s5 _ _ hu, hu]) hKi
            obtain ⟨o, hget, hsome⟩ := NN.get hK5 hv5
            refine ⟨rfl, ?_⟩
            refine ⟨_, rfl, _, rfl, d, o, rfl, hget, ?_⟩
            rw [hsome]
            by_cases hgi : g ∈ Li
            · rw [decide_eq_true hgi]
              refine ⟨false, rfl, iteF ⟨s5, fvs, hf, ?_⟩⟩
              rw [take_succ_of hg, List.filter_append]
              have : [g].filter (fun g => decide (g ∉ Li)) = [] := by simp [hgi]
              rw [this, List.append_nil]
              exact hfn
            · rw [decide_eq_false hgi]
              refine ⟨true, rfl, iteT ⟨_, rfl, fvs, hf, ?_, Same.updN s5 hD, fvs ++ [y], upd_same, ?_⟩⟩
              · have h1 : fvs.length = _ := Paired.len hfn
                have h2 := List.length_filter_le (fun g => decide (g ∉ Li)) (e.2.2.take j)
                rw [List.length_take] at h2
                exact lt_line (by omega)
              · rw [take_succ_of hg, List.filter_append]
                have : [g].filter (fun g => decide (g ∉ Li)) = [g] := by simp [hgi]
                rw [this]
                have f5 : Fx H6 (upd H6 D (.lst (fvs ++ [y]))) := Fx.put hf id
                exact Paired.app (hfn.fx f5) (.cons (NN.fx f5 hv5) .nil)
          · obtain ⟨s5, fvs, hf, hfn⟩ := hq
            rw [hvl, List.take_length] at hfn
            have hfr : ∀ g, g ∈ e.2.2.filter (fun g => decide (g ∉ Li)) ↔ (g ∉ L ∧ (c, g) ∈ E0') ∧ g ∉ Li := fun g => by
              rw [List.mem_filter, hby.mem e he g, hec, decide_eq_true_iff]
            have hfrl : (e.2.2.filter (fun g => decide (g ∉ Li))).length ≤ 600 := Nat.le_trans (List.length_filter_le _ _) hgl
            have hfrn : (e.2.2.filter (fun g => decide (g ∉ Li))).Nodup := (hby.gnd e he).filter _
            generalize e.2.2.filter (fun g => decide (g ∉ Li)) = fr at hfn hfr hfrl hfrn
            have hfvl : fvs.length = fr.length := Paired.len hfn
            have hK5 : NN.Kn H5 d Li := NN.kn (by
              obtain ⟨u, hu, _⟩ := NN.loose hKi
              rw [s5 _ _ hu, hu]) hKi
            -- known.update
            refine ⟨_, rfl, .inr (.inr (.inl ⟨rfl, NN.ty hK5⟩)), ?_⟩
            refine ⟨_, rfl, D, rfl, ⟨fvs, SqL.of hf⟩, fun D2 hD2 => ?_⟩
            refine lc_it (walk_list (xs := fvs)) (fun j H6 => Same H5 H6 ∧ ∃ ps : List Addr, H6 D2 = some (.lst (ps.map V.ref)) ∧ Paired (fun p n => ∃ v, H6 p = some (.tup [v, .bl true]) ∧ NN.At H6 v n) ps (fr.take j))
              ⟨Same.new hD2, [], upd_same, .nil⟩ (fun j H6 _ hq => SqL.of (hq.1 _ _ hf)) (fun j y H6 H7 hj hq hy => ?_) (fun H6 hq => ?_)
            · obtain ⟨s6, ps, hps, hpn⟩ := hq
              obtain ⟨rfl, hy⟩ := hy
              obtain ⟨g, hg, hv⟩ := Paired.get1 hfn hy
              have hv6 := NN.fx (Same.fx s6) hv
              refine ⟨rfl, ?_⟩
              refine ⟨_, rfl, by show 2 ≤ sizeLine; decide, fun t ht => ?_⟩
              have s7 : Same H7 (upd H7 t (.tup [y, .bl true])) := Same.new ht
              have hpl : ps.length = _ := Paired.len hpn
              refine ⟨ps.map V.ref, s7 _ _ hps, ?_, Same.updN (s6.trans s7) hD2, ps ++ [t], ?_, ?_⟩
              · rw [List.length_take] at hpl
                rw [List.length_map]
                exact lt_line (by omega)
              · rw [upd_same, List.map_append]
                rfl
              · have f8 : Fx H7 (upd (upd H7 t (.tup [y, .bl true])) D2 (.lst (ps.map V.ref ++ [V.ref t]))) := (Same.fx s7).trans (Fx.put (s7 _ _ hps) id)
                rw [take_succ_of hg]
                refine Paired.app (Paired.mapP hpn fun _ _ ⟨v, a, b⟩ => ⟨v, f8 _ _ a trivial, NN.fx f8 b⟩) (.cons ⟨y, ?_, NN.fx f8 hv6⟩ .nil)
                have : t ≠ D2 := fun z => by
                  rw [z, hps] at ht
                  cases ht
                rw [upd_ne this, upd_same]
            · obtain ⟨s6, ps, hps, hpn⟩ := hq
              rw [hfvl, List.take_length] at hpn
              refine NN.make (SqL.of hps) hpn fun q H7 hq s7 _ hK7 => ?_
              have hK7' : NN.Kn H7 d Li := NN.kn (by
                obtain ⟨u, hu, _⟩ := NN.loose hKi
                rw [s7 _ _ (s6 _ _ (s5 _ _ hu)), hu]) hKi
              have hyd : ∃ u, Hy d = some u := let ⟨u, hu, _⟩ := NN.loose hKi; ⟨u, hu⟩
              have nd_of : ∀ {b H'}, Same Hy H' → H' b = none → d ≠ b := fun {b H'} s hb z => by
                obtain ⟨u, hu⟩ := hyd
                rw [← z, s _ _ hu] at hb
                cases hb
              have hdq : d ≠ q := nd_of (s5.trans s6) hq
              have hdD : d ≠ D := nd_of (fun _ _ e => e) hD
              have hLiU : ∀ g ∈ Li, g ∈ U := fun g hg => by
                rcases (hPt.kn g).mp hg with z | ⟨x, _, z⟩
                · exact hLU g z
                · exact hEU _ z
              have hLi0 : Li ≠ [] := fun z => by
                obtain ⟨g, hg⟩ := List.exists_mem_of_ne_nil _ hL0
                have := (hPt.kn g).mpr (.inl hg)
                rw [z] at this
                exact nomatch this
              have hb1 := nodup_le hLi hLiU
              have hb2 : (mergeN [] fr).length ≤ fr.length := nodup_le (mergeN_nd List.nodup_nil) fun x hx => (mem_mergeN.mp hx).elim (fun z => nomatch z) id
              have hlu := W.lu
              refine tNil_of ?_
              refine NN.up hK7' hK7 hdq hLi0 (by rw [sizeLine_eq]; omega) fun u hK8 => ?_
              have s57 : Same Hy H7 := (s5.trans s6).trans s7
              have hfl7 := s57 _ _ hfx
              have hD7 := s7 _ _ (s6 _ _ hf)
              have hfl8 : (upd H7 d u) fl = some (.lst xs) := by rw [upd_ne hdf.symm]; exact hfl7
              have hD8 : (upd H7 d u) D = some (.lst fvs) := by rw [upd_ne hdD.symm]; exact hD7
              have hDf : D ≠ fl := fun z => by rw [z, hfx] at hD; cases hD
              -- all but known and found stands
              have fin : ∀ (Hz : Hp) (out' : List (Wd × List ν)) (xs' : List V) (s9 : Same (upd H7 d u) Hz), out' = (if fr = [] then out else out ++ [(wd ++ [c], fr)]) → out'.length ≤ i + 1 →
                  GrpsAt NN (fun a => H a = none ∧ a ≠ fl) (upd Hz fl (.lst xs')) xs' out' →
                  ButD d H1 (upd Hz fl (.lst xs')) ∧ (upd Hz fl (.lst xs')) p = some (.lst ((cs.map sg).map V.str)) ∧ (∃ Li out xs, NN.Kn (upd Hz fl (.lst xs')) d Li ∧ Li.Nodup ∧ Part wd L E0' cs (i + 1) out Li ∧ out.length ≤ i + 1 ∧ (upd Hz fl (.lst xs')) fl = some (.lst xs) ∧ GrpsAt NN (fun a => H a = none ∧ a ≠ fl) (upd Hz fl (.lst xs')) xs out) := by
                intro Hz out' xs' s9 ho hol' hg
                have kz : ∀ b v, b ≠ d → b ≠ fl → Hy b = some v → (upd Hz fl (.lst xs')) b = some v := fun b v n1 n2 e => by
                  rw [upd_ne n2]
                  refine s9 _ _ ?_
                  rw [upd_ne n1]
                  exact s57 _ _ e
                refine ⟨fun b v n e => kz b v n (ne_of_none e hfl) (k1 b v n e), kz _ _ hdp.symm hpf hpx, mergeN Li (mergeN [] fr), out', xs', NN.kn ?_ hK8, mergeN_nd hLi, ?_, hol', upd_same, hg⟩
                · rw [upd_ne hdf]
                  obtain ⟨v, hv, _⟩ := NN.loose hK8
                  rw [s9 _ _ hv, hv]
                · exact hPt.step hinc hc hall hfr (fun g => by rw [mem_mergeN, mem_mergeN]; simp) out' ho
              have keepG : ∀ (Hz : Hp) (xs' : List V) (s9 : Same (upd H7 d u) Hz), GrpsAt NN (fun a => H a = none ∧ a ≠ fl) (upd Hz fl (.lst xs')) xs out := by
                intro Hz xs' s9
                refine hgr.keep (fun b v e f => ?_) fun a vs ok e => ?_
                · have n1 : b ≠ fl := fun z => by rw [z, hfx] at e; cases e; exact f
                  have n2 : b ≠ d := fun z => by
                    obtain ⟨v', hv', nv⟩ := NN.loose hKi
                    rw [z, hv'] at e
                    cases e
                    exact nv f
                  rw [upd_ne n1]
                  refine s9 _ _ ?_
                  rw [upd_ne n2]
                  exact s57 _ _ e
                · have n2 : a ≠ d := fun z => NN.nolst hKi vs (by rw [← z]; exact e)
                  rw [upd_ne ok.2]
                  refine s9 _ _ ?_
                  rw [upd_ne n2]
                  exact s57 _ _ e
              have hxl : xs.length = out.length := Paired.len hgr
              have hil : i < cs.length := (List.getElem?_eq_some_iff.mp hc).1
              refine ⟨_, rfl, .inl ⟨rfl, _, SqL.of hfl8⟩, ?_⟩
              refine ⟨_, rfl, Nat.zero_le _, fun z hz => ⟨D, z, fvs, rfl, rfl, SqL.of (Same.new hz _ _ hD8), SqL.of upd_same, ?_⟩⟩
              have sz : Same (upd H7 d u) (upd (upd H7 d u) z (.lst [])) := Same.new hz
              by_cases h0 : fr = []
              · have : fvs = [] := List.length_eq_zero_iff.mp (by rw [hfvl, h0]; rfl)
                subst this
                refine ⟨false, rfl, iteF ⟨Nat.zero_le _, fun l hl => ⟨fl, l, xs, [], rfl, rfl, Same.new hl _ _ (sz _ _ hfl8), upd_same, ?_, ?_⟩⟩⟩
                · exact Nat.le_of_lt (lt_line (by rw [List.length_nil]; omega))
                · have sl := sz.trans (Same.new (o := .lst []) hl)
                  have q := fin _ out (xs ++ []) sl (by rw [if_pos h0]) (by omega) (by
                    have := keepG _ (xs ++ []) sl
                    rw [List.append_nil] at this ⊢
                    exact this)
                  exact ⟨q.1, q.2.1, q.2.2, _, _, _, _, rfl⟩
              · obtain ⟨v0, vs0, hv0⟩ : ∃ v0 vs0, fvs = v0 :: vs0 := by
                  cases fvs with
                  | nil => exact absurd (List.length_eq_zero_iff.mp hfvl.symm) h0
                  | cons a b => exact ⟨a, b, rfl⟩
                refine ⟨true, by rw [hv0]; rfl, iteT ?_⟩
                refine ⟨_, rfl, _, rfl, S wd, sg c, rfl, rfl, ?_, _, rfl, by show 2 ≤ sizeLine; decide, fun t ht => ?_⟩
                · rw [S_len]
                  show wd.length + 1 ≤ _
                  exact Nat.le_of_lt (lt_line (by omega))
                refine ⟨by show 1 ≤ sizeLine; decide, fun l hl => ⟨fl, l, xs, [.ref t], rfl, rfl, Same.new hl _ _ (Same.new ht _ _ (sz _ _ hfl8)), upd_same, ?_, ?_⟩⟩
                · exact Nat.le_of_lt (lt_line (by show xs.length + 1 < _; omega))
                · have st := sz.trans (Same.new (o := .tup [.str (S wd ++ sg c), .ref D]) ht)
                  have sl := st.trans (Same.new (o := .lst [.ref t]) hl)
                  have htl : t ≠ l := fun z => by rw [← z, upd_same] at hl; cases hl
                  have htf : t ≠ fl := fun z => by rw [z, sz _ _ hfl8] at ht; cases ht
                  have hnew : GrpsAt NN (fun a => H a = none ∧ a ≠ fl) (upd (upd (upd (upd (upd H7 d u) z (.lst [])) t (.tup [.str (S wd ++ sg c), .ref D])) l (.lst [.ref t])) fl (.lst (xs ++ [.ref t]))) [.ref t] [(wd ++ [c], fr)] := by
                    refine .cons ⟨t, D, fvs, rfl, ?_, ⟨?_, hDf⟩, ?_, ?_, by omega⟩ .nil
                    · rw [upd_ne htf, upd_ne htl, upd_same, ← S_one, S_app]
                    · exact (ButD.pre s1 k1).free (by obtain ⟨v, hv⟩ := hyd; rw [hv]; exact fun z => nomatch z) hD
                    · rw [upd_ne hDf]
                      exact sl _ _ hD8
                    · have f7 : Fx H5 H7 := Same.fx (s6.trans s7)
                      have f8 : Fx H7 (upd H7 d u) := by
                        obtain ⟨v, hv, nv⟩ := NN.loose hK7'
                        exact Fx.put hv nv
                      exact hfn.fx (((f7.trans f8).trans (Same.fx sl)).trans (Fx.put (sl _ _ hfl8) id))
                  have q := fin _ (out ++ [(wd ++ [c], fr)]) (xs ++ [.ref t]) sl (by rw [if_neg h0]) (by rw [List.length_append]; show _ + 1 ≤ _; omega) (Paired.app (keepG _ _ sl) hnew)
                  exact ⟨q.1, q.2.1, q.2.2, _, _, _, _, rfl⟩
      · obtain ⟨k1, hpx, ⟨Li, out, xs, hKi, hLi, hPt, hol, hfx, hgr⟩, u5, u6, u7, u9, rfl⟩ := hq
        rw [List.length_map, List.length_map] at hPt
        have kH := ButD.pre s1 k1
        refine ⟨_, rfl, k fl Hx Li out xs ?_ kH (F.fx _ _ (kH.fx hdl) hH) hKi hLi (hPt.later hE hall) hfx (hgr.imp fun a vs _ ok => ok.1)⟩
        exact Same.free s1 hfl
end
end K17
end TQ3
section TQ4
set_option Elab.async false
set_option linter.all false
set_option maxRecDepth 100000
set_option maxHeartbeats 4000000
/-! least_walk. -/
namespace K17
open PySem PySem.Spec PyProof.Rows L2
section
variable {P : Program} {w : World} {K : PySem.W.Frag} {mg : Str → Option Value} {base : Heap}
section
variable {ν : Type} {B U : List ν} {fo : ν → List (Nat × ν)}
theorem reach_U (hB : ∀ n ∈ B, n ∈ U) (hc : ∀ n ∈ U, ∀ e ∈ fo n, e.2 ∈ U) {w : Wd} {n : ν} (h : Reach B fo w n) : n ∈ U := by
  induction h with
  | nil h => exact hB _ h
  | snoc _ h ih => exact hc _ ih _ h
theorem groups_few [DecidableEq ν] (hB : ∀ n ∈ B, n ∈ U) (hc : ∀ n ∈ U, ∀ e ∈ fo n, e.2 ∈ U) {la : List (Wd × List ν)} (inc : la.Pairwise fun p q => p.1 < q.1) (ne : ∀ p ∈ la, p.2 ≠ []) (mem : ∀ p ∈ la, ∀ n, n ∈ p.2 ↔ Lw B fo p.1 n) : la.length ≤ U.length := by
  have h1 : (la.map fun p => p.2.head?).Nodup := by
    refine List.pairwise_map.mpr (inc.imp_of_mem fun {p q} hp hq lt e => ?_)
    obtain ⟨n, hn⟩ : ∃ n, p.2.head? = some n := by
      cases hh : p.2 with
      | nil => exact absurd hh (ne p hp)
      | cons a _ => exact ⟨a, rfl⟩
    have hq2 : q.2.head? = some n := e ▸ hn
    have m1 := (mem p hp n).mp (List.mem_of_head? hn)
    have m2 := (mem q hq n).mp (List.mem_of_head? hq2)
    have := Lw.eq m1 m2
    rw [this] at lt
    exact lex_irrefl _ lt
  have h2 : ∀ x ∈ la.map (fun p => p.2.head?), x ∈ U.map some := fun x hx => by
    obtain ⟨p, hp, rfl⟩ := List.mem_map.mp hx
    cases hh : p.2 with
    | nil => exact absurd hh (ne p hp)
    | cons a t =>
      exact List.mem_map_of_mem (reach_U hB hc ((mem p hp a).mp (by rw [hh]; exact List.mem_cons_self)).1)
  have := nodup_le h1 h2
  rw [List.length_map, List.length_map] at this
  exact this
end
/-- a function that tells whether a node is a goal -/
structure GoAt {ν : Type} [DecidableEq ν] (P : Program) (w : World) (K : PySem.W.Frag) (mg : Str → Option Value) (base : Heap) (NN : NK K ν) (U : List ν) (gd : ν → Bool) (f : Addr) (Held : Hp → Prop) (sp : Sp) : Prop where
  cal : Cal P w K mg base 6 f Held sp
  fx : ∀ H H', Fx H H' → Held H → Held H'
  run : ∀ (H : Hp) (v : V) (n : ν) (Q : VK), Held H → NN.At H v n → n ∈ U → (∀ H', Same H H' → Q (.bl (gd n)) H') → sp [v] H Q E0
theorem pcf {X : Cx} {i j k : Nat} {x : Str} {p pos : Pos} {e : Expr} {es : List Expr} {t : TA} (hr : Room j X.A) (ha : PA X (e :: es) t) (hN : X.N[i]? = some x := by rfl) (hv : Vis X.env.scope x := by first | exact .inl rfl | exact .inr (.inl rfl) | exact .inr (.inr rfl)) (hk : k ≤ j := by decide) (hd : (x == ("__debug__" : Str)) = false := by decide) (hcd : (x == ("__classdict__" : Str)) = false := by decide)
    (he : starEach (e :: es) X.env = (false, eval e X.env) :: starEach es X.env := by rfl) (hpl : (backTo pos (starEach es X.env)).any (·.1) = false := by rfl) :
    PE X (.Call (.Name x p) (e :: es) [] pos) (tCalF i t X.prog X.w X.K X.mg X.base k) := pe_calF hr hN hv ha hk hd hcd he hpl
def spWalk {ν : Type} [DecidableEq ν] (P : Program) (w : World) (K : PySem.W.Frag) (mg : Str → Option Value) (base : Heap) (NN : NK K ν) : Sp := fun vs H Q E => ∃ (bl ff gf : Addr) (bvs : List V) (B U : List ν) (SG : List Nat) (fo : ν → List (Nat × ν)) (gd : ν → Bool) (Held HeldG : Hp → Prop) (sp spG : Sp),
  vs = [.ref bl, .ref ff, .ref gf] ∧ H bl = some (.lst bvs) ∧ NodesAt NN H bvs B ∧ B ≠ [] ∧ (∀ n ∈ B, n ∈ U) ∧ B.length ≤ 600 ∧ FoAt P w K mg base NN U fo ff Held sp ∧ Held H ∧ GoAt P w K mg base NN U gd gf HeldG spG ∧ HeldG H ∧ Few U SG fo ∧
  (∀ wd H', Least (ToGoal B fo fun n => gd n = true) wd → Same H H' → Q (.str (S wd)) H') ∧ ((∀ u, ¬ ToGoal B fo (fun n => gd n = true) u) → ∀ H', Same H H' → Q .non H')
theorem scWalk : FnScope ["begin", "follow", "is_goal", "known", "groups", "node", "word", "nodes", "later"] ["begin", "follow", "is_goal"] (defScope (top 33)) := ⟨rfl, rfl, rfl, by decide +kernel, rfl, by decide +kernel, by decide +kernel⟩
theorem d_walk {ν : Type} [DecidableEq ν] (NN : NK K ν) (T : Tx K mg) : Def P w K mg base CX0 9 "least_walk" ["begin", "follow", "is_goal"] (spWalk P w K mg base NN) := by
  have La : Def P w K mg base CX0 8 "later_groups" ["word", "nodes", "follow", "known"] (spLater P w K mg base NN) := d_later NN T
  refine def_of T 16 33 ["begin", "follow", "is_goal", "known", "groups", "node", "word", "nodes", "later"] rfl scWalk (fun _ _ _ _ _ _ us hl => match us, hl with | [_, _, _], _ => rfl) (fun vs H Q E h => ?_) (fun f cdv A outer s H vs Q E hr h => ?_)
  · obtain ⟨bl, ff, gf, bvs, B, U, SG, fo, gd, Held, HeldG, sp, spG, rfl, _⟩ := h; rfl
  · obtain ⟨bl, ff, gf, bvs, B, U, SG, fo, gd, Held, HeldG, sp, spG, rfl, hbl, hB, hB0, hBU, hBl, F, hH, G, hHG, W, k1, k2⟩ := h
    have nd := scWalk.nd
    have hu := hu_of hr
    have hu16 := hu16_of hr
    refine ⟨_, PSs.nox (pss_cons (ps_par (i := 3) (j := 4) rfl nd rfl rfl (by decide) rfl rfl
        (pa_cons (pT T b_dict (r := fun xs H Q => rDictP K xs H Q ∨ rDictT K xs H Q) (CallR.or (cr_dictP rfl rfl) (cr_dictT rfl rfl hu16))
            (pa1 (pe_lc (own := [("node", 5)]) (g := gName 5) (tt := tYes) rfl nd (pi_list (pv 0)) (blkOk_by (own := [("node", 5)]) (N := ["begin", "follow", "is_goal", "known", "groups", "node", "word", "nodes", "later"]) (sc := defScope (top 33)) (by decide +kernel))
              (fun _ _ _ _ _ => pg_name (i := 5) nd rfl (Or.inl rfl)) (fun _ _ _ _ _ => pts_nil) (fun _ _ _ _ _ => pe_tup (pa_cons (pv 5) (pa1 pe_bl))))))
          (pa1 (pe_lst (pa1 (pe_tup (pa_cons pe_str (pa1 (pT T b_list call_list_of (pa1 (pv 0))))))))))
        (by rfl))
      (pss_cons (ps_while PassesOwn.never (pt_cmpR (op_neNil hu) (pv 4) (pe_lst pa_nil) (nomark _))
        (pss_cons (ps_for PassesOwn.never rfl (pi_list (pv 4)) (g := gTup K 2 (gCons (gName 6) (gCons (gName 7) gNil))) (pg_tup rfl (pgs_cons (pg_name (i := 6) nd rfl (Or.inl rfl)) (pgs_cons (pg_name (i := 7) nd rfl (Or.inl rfl)) pgs_nil)))
          (pss_one (ps_if (pt_val (pB T b_any (cr_any rfl) (pa1 (pe_lc (own := [("node", 5)]) (g := gName 5) (tt := tYes) (te := tCalF 2 (tCons (tVar 5) tNil) P w K mg base 6) rfl nd (pi_list (pv 7)) (blkOk_by (own := [("node", 5)]) (N := ["begin", "follow", "is_goal", "known", "groups", "node", "word", "nodes", "later"]) (sc := defScope (top 33)) (by decide +kernel))
              (fun _ _ _ _ _ => pg_name (i := 5) nd rfl (Or.inl rfl)) (fun _ _ _ _ _ => pts_nil) (fun _ _ _ _ _ => pcf (k := 6) (i := 2) hr (pa1 (pv 5))))))) (pss_one (ps_ret (pv 6))) pss_nil)))
        (pss_cons (ps_set (i := 8) nd rfl (Or.inl rfl) (pe_lst pa_nil))
        (pss_cons (ps_for PassesOwn.never rfl (pi_list (pv 4)) (g := gTup K 2 (gCons (gName 6) (gCons (gName 7) gNil))) (pg_tup rfl (pgs_cons (pg_name (i := 6) nd rfl (Or.inl rfl)) (pgs_cons (pg_name (i := 7) nd rfl (Or.inl rfl)) pgs_nil)))
          (pss_one (ps_expr (pe_bm PySem.F.plainAttrs_list PySem.F.slot_list_extend PySem.F.type_list_extend mt_extend (pv 8) (pa1 (pd0 La hr (pa_cons (pv 6) (pa_cons (pv 7) (pa_cons (pv 1) (pa1 (pv 3)))))))))))
        (pss_one (ps_set (i := 4) nd rfl (Or.inl rfl) (pv 8)))))))
      (pss_one (ps_ret pe_non)))), ?_⟩
    have hcU : ∀ n ∈ U, ∀ e ∈ fo n, e.2 ∈ U := fun n hn e he => (W.gl n hn e he).2
    have hBvl : bvs.length = B.length := Paired.len hB
    refine ⟨_, rfl, bl, rfl, ⟨bvs, SqL.of hbl⟩, fun D2 hD2 => ?_⟩
    refine lc_it (walk_list (xs := bvs)) (fun j H6 => Same H H6 ∧ ∃ ps : List Addr, H6 D2 = some (.lst (ps.map V.ref)) ∧ Paired (fun p n => ∃ v, H6 p = some (.tup [v, .bl true]) ∧ NN.At H6 v n) ps (B.take j))
      ⟨Same.new hD2, [], upd_same, .nil⟩ (fun j H6 _ hq => SqL.of (hq.1 _ _ hbl)) (fun j y H6 H7 hj hq hy => ?_) (fun H6 hq => ?_)
    · obtain ⟨s6, ps, hps, hpn⟩ := hq
      obtain ⟨rfl, hy⟩ := hy
      obtain ⟨g, hg, hv⟩ := Paired.get1 hB hy
      have hv6 := NN.fx (Same.fx s6) hv
      refine ⟨rfl, ?_⟩
      refine ⟨_, rfl, by show 2 ≤ sizeLine; decide, fun t ht => ?_⟩
      have s7 : Same H7 (upd H7 t (.tup [y, .bl true])) := Same.new ht
      have hpl : ps.length = _ := Paired.len hpn
      refine ⟨ps.map V.ref, s7 _ _ hps, ?_, Same.updN (s6.trans s7) hD2, ps ++ [t], ?_, ?_⟩
      · rw [List.length_take] at hpl
        rw [List.length_map]
        exact lt_line (by omega)
      · rw [upd_same, List.map_append]
        rfl
      · have f8 : Fx H7 (upd (upd H7 t (.tup [y, .bl true])) D2 (.lst (ps.map V.ref ++ [V.ref t]))) := (Same.fx s7).trans (Fx.put (s7 _ _ hps) id)
        rw [take_succ_of hg]
        refine Paired.app (Paired.mapP hpn fun _ _ ⟨v, a, b⟩ => ⟨v, f8 _ _ a trivial, NN.fx f8 b⟩) (.cons ⟨y, ?_, NN.fx f8 hv6⟩ .nil)
        have : t ≠ D2 := fun z => by
          rw [z, hps] at ht
          cases ht
        rw [upd_ne this, upd_same]
    · obtain ⟨s6, ps, hps, hpn⟩ := hq
      rw [hBvl, List.take_length] at hpn
      refine NN.make (SqL.of hps) hpn fun d H7 hd s7 _ hK7 => ?_
      have sH7 := s6.trans s7
      have hdH : H d = none := Same.free s6 hd
      refine ⟨_, rfl, bl, bvs, rfl, .inl (SqL.of (sH7 _ _ hbl)), fun l hl => ⟨by show 2 ≤ sizeLine; decide, fun t ht => ⟨by show 1 ≤ sizeLine; decide, fun gl hgl => ⟨_, _, rfl, ?_⟩⟩⟩⟩
      have sl : Same H7 (upd H7 l (.lst bvs)) := Same.new hl
      have st := sl.trans (Same.new (o := .tup [.str "", .ref l]) ht)
      have sg' := st.trans (Same.new (o := .lst [.ref t]) hgl)
      have htg : t ≠ gl := fun z => by rw [← z, upd_same] at hgl; cases hgl
      have sAll := sH7.trans sg'
      have hK8 : NN.Kn (upd (upd (upd H7 l (.lst bvs)) t (.tup [.str "", .ref l])) gl (.lst [.ref t])) d (mergeN [] B) := NN.kn (by
        obtain ⟨u, hu, _⟩ := NN.loose hK7
        rw [sg' _ _ hu, hu]) hK7
      have hmB : ∀ g, g ∈ mergeN [] B ↔ g ∈ B := fun g => by rw [mem_mergeN]; simp
      have hm0 : mergeN [] B ≠ [] := fun z => by
        obtain ⟨g, hg⟩ := List.exists_mem_of_ne_nil _ hB0
        have := (hmB g).mpr hg
        rw [z] at this
        exact nomatch this
      have lv0 : Lvl B fo 0 (mergeN [] B) [([], B)] := by
        have := Lvl.start (fo := fo) (B := B) (fun _ _ => trivial) hB0
        exact ⟨this.len, this.inc, this.ne, this.mem, this.all, fun g => (hmB g).trans (this.kn g)⟩
      have hg0 : GrpsAt NN (fun _ => True) (upd (upd (upd H7 l (.lst bvs)) t (.tup [.str "", .ref l])) gl (.lst [.ref t])) [.ref t] [([], B)] := by
        refine .cons ⟨t, l, bvs, rfl, ?_, trivial, ?_, hB.fx (Same.fx sAll), by omega⟩ .nil
        · rw [upd_ne htg, upd_same, S_nil]
        · have : (upd H7 l (.lst bvs)) l = some (.lst bvs) := upd_same
          exact (Same.new hgl) _ _ ((Same.new ht) _ _ this)
      have hgl8 : (upd (upd (upd H7 l (.lst bvs)) t (.tup [.str "", .ref l])) gl (.lst [.ref t])) gl = some (.lst [.ref t]) := upd_same
      generalize upd (upd (upd H7 l (.lst bvs)) t (.tup [.str "", .ref l])) gl (.lst [.ref t]) = H8 at sAll hK8 hg0 hgl8
      refine ⟨fun m σ Hx => Same H Hx ∧ ∃ (k : Nat) (gl : Addr) (L : List ν) (gs : List (Wd × List ν)) (xs : List V) (u5 u6 u7 u8 : Option V), m = 700 - k ∧ Hx gl = some (.lst xs) ∧ GrpsAt NN (fun _ => True) Hx xs gs ∧ NN.Kn Hx d L ∧ L.Nodup ∧ L ≠ [] ∧ (∀ n ∈ L, n ∈ U) ∧
          Lvl B fo k L gs ∧ NoGoal B fo (fun n => gd n = true) k ∧ (gs ≠ [] → k < L.length) ∧ σ = [some (.ref bl), some (.ref ff), some (.ref gf), some (.ref d), some (.ref gl), u5, u6, u7, u8],
        ⟨_, sAll, 0, gl, _, _, _, _, _, _, _, rfl, hgl8, hg0, hK8, mergeN_nd List.nodup_nil, hm0, fun n hn => hBU n ((hmB n).mp hn), lv0, NoGoal.zero, fun _ => List.length_pos_iff.mpr hm0, rfl⟩, ?_⟩
      clear hgl8 hg0 hK8 lv0 hm0 hmB sAll sg' st sl hgl ht hl sH7 hK7 s7 hd hpn hps s6 hD2
      rintro m σ Hx ⟨sX, k, gl, L, gs, xs, u5, u6, u7, u8, rfl, hgx, hgr, hKn, hLnd, hL0, hLU, lv, ng, hkL, rfl⟩
      have hxl : xs.length = gs.length := Paired.len hgr
      have hdx := NN.loose hKn
      refine ⟨_, rfl, Nat.zero_le _, fun z hz => ⟨gl, z, xs, rfl, rfl, SqL.of (Same.new hz _ _ hgx), SqL.of upd_same, ?_⟩⟩
      have sz : Same Hx (upd Hx z (.lst [])) := Same.new hz
      by_cases hgs : gs = []
      · subst hgs
        have : xs = [] := List.length_eq_zero_iff.mp hxl
        subst this
        exact ⟨false, rfl, iteF (k2 (fun u => no_word lv ng u) _ (sX.trans sz))⟩
      · have hxs : xs.isEmpty = false := by
          cases xs with
          | nil => exact absurd (List.length_eq_zero_iff.mp hxl.symm) hgs
          | cons _ _ => rfl
        refine ⟨true, by rw [hxs]; rfl, iteT ⟨fun σ Hx => Same H Hx ∧ ∃ (gl : Addr) (L : List ν) (gs : List (Wd × List ν)) (xs : List V) (u5 u6 u7 u8 : Option V), Hx gl = some (.lst xs) ∧ GrpsAt NN (fun _ => True) Hx xs gs ∧ NN.Kn Hx d L ∧ L.Nodup ∧ L ≠ [] ∧ (∀ n ∈ L, n ∈ U) ∧
          Lvl B fo (k + 1) L gs ∧ NoGoal B fo (fun n => gd n = true) (k + 1) ∧ (gs ≠ [] → k + 1 < L.length) ∧ σ = [some (.ref bl), some (.ref ff), some (.ref gf), some (.ref d), some (.ref gl), u5, u6, u7, u8], ?_, ?_⟩⟩
        · rintro σ' H' ⟨a, gl, L', gs', xs', u5, u6, u7, u8, b⟩
          have h1 := hkL hgs
          have h2 := nodup_le hLnd hLU
          have h3 := W.lu
          exact ⟨700 - (k + 1), by omega, a, k + 1, gl, L', gs', xs', u5, u6, u7, u8, rfl, b⟩
        have hk6 : k < 600 := by
          have h1 := hkL hgs
          have h2 := nodup_le hLnd hLU
          have h3 := W.lu
          omega
        have sXz := sX.trans sz
        have hgz := sz _ _ hgx
        have hgrz : GrpsAt NN (fun _ => True) (upd Hx z (.lst [])) xs gs := hgr.keep (Same.fx sz) fun a vs _ e => sz _ _ e
        have hKz : NN.Kn (upd Hx z (.lst [])) d L := NN.kn (by
          obtain ⟨u, hu, _⟩ := hdx
          rw [sz _ _ hu, hu]) hKn
        have hdz := NN.loose hKz
        generalize upd Hx z (.lst []) = Hz at sXz hgz hgrz hKz hdz
        clear hgr hKn hgx sX hdx sz hz
        -- a goal?
        refine ⟨_, rfl, gl, rfl, ⟨_, SqL.of hgz⟩, ?_⟩
        refine for_it (walk_list (xs := xs)) (fun i σ Hy => Same Hz Hy ∧ (∀ p ∈ gs.take i, ∀ n ∈ p.2, ¬ gd n = true) ∧ ∃ u5 u6 u7 u8, σ = [some (.ref bl), some (.ref ff), some (.ref gf), some (.ref d), some (.ref gl), u5, u6, u7, u8])
          ⟨fun _ _ e => e, fun _ h => (nomatch h), _, _, _, _, rfl⟩ (fun i σ Hy _ hp => SqL.of (hp.1 _ _ hgz)) (fun i x σ Hy Hy' hi hp hy => ?_) (fun σ Hy hp => ?_)
        · obtain ⟨sy, hno, v5, v6, v7, v8, rfl⟩ := hp
          obtain ⟨rfl, hx⟩ := hy
          obtain ⟨⟨wd, ns⟩, hgi, p, a, vs, rfl, hp1, _, hp2, hns, hvl⟩ := Paired.get1 hgrz hx
          have hp1 : Hz p = some (.tup [.str (S wd), .ref a]) := hp1
          have hns : NodesAt NN Hz vs ns := hns
          have hgm : (wd, ns) ∈ gs := List.mem_of_getElem? hgi
          refine ⟨p, _, rfl, SqT.of (sy _ _ hp1), rfl, _, _, rfl, _, _, rfl, rfl, ?_⟩
          refine ⟨_, rfl, a, rfl, ⟨vs, SqL.of (sy _ _ hp2)⟩, fun D hD => ?_⟩
          refine lc_it (walk_list (xs := vs)) (fun j H5 => Same Hy' H5 ∧ H5 D = some (.lst (((ns.take j).map gd).map V.bl)))
            ⟨Same.new hD, upd_same⟩ (fun j H5 _ hq => SqL.of (hq.1 _ _ (sy _ _ hp2))) (fun j y H5 H6 hj hq hy => ?_) (fun H5 hq => ?_)
          · obtain ⟨s5, hf⟩ := hq
            obtain ⟨rfl, hy⟩ := hy
            obtain ⟨n, hn, hv⟩ := Paired.get1 hns hy
            have sA := sXz.trans (sy.trans s5)
            have hHG' := G.fx _ _ (Same.fx sA) hHG
            have hnU : n ∈ U := reach_U hBU hcU ((lv.mem _ hgm n).mp (List.mem_of_getElem? hn)).1
            refine ⟨rfl, ?_⟩
            refine ⟨gf, HeldG, spG, rfl, G.cal, hHG', _, rfl, hHG', ?_⟩
            refine G.run H6 y n _ hHG' (NN.fx (Same.fx (sy.trans s5)) hv) hnU fun H7 s7 => ?_
            refine ⟨_, s7 _ _ hf, ?_, Same.updN (s5.trans s7) hD, ?_⟩
            · rw [List.length_map, List.length_map, List.length_take]
              exact lt_line (by omega)
            · rw [upd_same, take_succ_of hn, List.map_append, List.map_append]
              rfl
          · obtain ⟨s5, hf⟩ := hq
            have hl : vs.length = ns.length := Paired.len hns
            rw [hl, List.take_length] at hf
            refine ⟨D, ns.map gd, rfl, SqL.of hf, (ns.map gd).any id, rfl, ?_⟩
            by_cases hany : (ns.map gd).any id = true
            · rw [hany]
              refine iteT ?_
              obtain ⟨b, hb, hb2⟩ := List.any_eq_true.mp hany
              obtain ⟨n, hn, rfl⟩ := List.mem_map.mp hb
              have eg : gs = gs.take i ++ (wd, ns) :: gs.drop (i + 1) := by
                have hi' := (List.getElem?_eq_some_iff.mp hgi).1
                have h1 := (List.take_append_drop i gs).symm
                rw [List.drop_eq_getElem_cons hi', (List.getElem?_eq_some_iff.mp hgi).2] at h1
                exact h1
              exact ⟨_, rfl, k1 wd _ (found_least lv eg ng hno hn hb2) (sXz.trans (sy.trans s5))⟩
            · rw [Bool.not_eq_true] at hany
              rw [hany]
              refine iteF ⟨sy.trans s5, ?_, _, _, _, _, rfl⟩
              intro q hq n hn
              rw [take_succ_of hgi] at hq
              rcases List.mem_append.mp hq with y | y
              · exact hno q y n hn
              · rw [List.mem_singleton] at y
                subst y
                have := List.any_eq_false.mp hany (gd n) (List.mem_map_of_mem hn)
                exact this
        · obtain ⟨sy, hno, v5, v6, v7, v8, rfl⟩ := hp
          rw [hxl, List.take_length] at hno
          have hKy : NN.Kn Hy d L := NN.kn (by
            obtain ⟨u, hu, _⟩ := hdz
            rw [sy _ _ hu, hu]) hKz
          have hdy := NN.loose hKy
          have sXy := sXz.trans sy
          have hgy := sy _ _ hgz
          have hgry : GrpsAt NN (fun _ => True) Hy xs gs := hgrz.keep (Same.fx sy) fun a vs _ e => sy _ _ e
          clear hgrz hKz hdz sXz hgz sy
          refine ⟨Nat.zero_le _, fun ll hll => ?_⟩
          have s1 : Same Hy (upd Hy ll (.lst [])) := Same.new hll
          have hdll : d ≠ ll := fun z => by
            obtain ⟨u, hu, _⟩ := hdy
            rw [z, hll] at hu
            cases hu
          refine ⟨_, rfl, gl, rfl, ⟨_, SqL.of (s1 _ _ hgy)⟩, ?_⟩
          have hgld : gl ≠ d := fun z => NN.nolst hKy xs (by rw [← z]; exact hgy)
          refine for_it (walk_list (xs := xs)) (fun i σ Hv => ButD d Hy Hv ∧ (∃ L' la ys, NN.Kn Hv d L' ∧ L'.Nodup ∧ (∀ n ∈ L', n ∈ U) ∧ Mid B fo k (gs.take i) L' la ∧ Hv ll = some (.lst ys) ∧ GrpsAt NN (fun a => a ≠ ll) Hv ys la) ∧ ∃ u5 u6 u7, σ = [some (.ref bl), some (.ref ff), some (.ref gf), some (.ref d), some (.ref gl), u5, u6, u7, some (.ref ll)])
            ⟨fun b u _ e => s1 _ _ e, ⟨L, [], [], NN.kn (by rw [upd_ne hdll]) hKy, hLnd, hLU, Mid.start lv, upd_same, .nil⟩, _, _, _, rfl⟩ (fun i σ Hv _ hp => SqL.of (hp.1 _ _ hgld hgy)) (fun i x σ Hv Hv' hi hp hy => ?_) (fun σ Hv hp => ?_)
          · obtain ⟨kv, ⟨L', la, ys, hKv, hLv, hLUv, md, hlv, hgv⟩, w5, w6, w7, rfl⟩ := hp
            obtain ⟨rfl, hx⟩ := hy
            obtain ⟨⟨wd, ns⟩, hgi, p, a, vs, rfl, hp1, _, hp2, hns, hvl⟩ := Paired.get1 hgry hx
            have hp1 : Hy p = some (.tup [.str (S wd), .ref a]) := hp1
            have hns : NodesAt NN Hy vs ns := hns
            have hgm : (wd, ns) ∈ gs := List.mem_of_getElem? hgi
            have fxv := kv.fx hdy
            have hav : Hv' a = some (.lst vs) := kv _ _ (fun z => NN.nolst hKy vs (by rw [← z]; exact hp2)) hp2
            have sHv : Same H Hv' := fun b u e => kv b u (ne_of_none e hdH) (sXy _ _ e)
            have hL'0 : L' ≠ [] := fun z => by
              obtain ⟨g, hg⟩ := List.exists_mem_of_ne_nil _ hL0
              have := (md.kn g).mpr (.inl ((lv.kn g).mp hg))
              rw [z] at this
              exact nomatch this
            have hwl := lv.len _ hgm
            have hwl : wd.length = k := hwl
            have hHv := F.fx _ _ (Same.fx sHv) hH
            refine ⟨p, _, rfl, SqT.of (fxv _ _ hp1 trivial), rfl, _, _, rfl, _, _, rfl, rfl, ?_⟩
            refine ⟨_, rfl, .inl ⟨rfl, _, SqL.of hlv⟩, ?_⟩
            refine ⟨_, rfl, _, rfl, _, rfl, _, rfl, wd, a, ff, d, vs, ns, L', U, SG, fo, Held, sp, rfl, hav, hns.fx fxv, F, hHv, hKv, hL'0, hLv, hLUv, fun n hn => reach_U hBU hcU ((lv.mem _ hgm n).mp hn).1, by omega, W, ?_⟩
            intro l H5 L'' out zs hl kb hH5 hK5 hL5 hlat hl5 hg5
            have hdv := NN.loose hKv
            have hlld : ll ≠ d := fun z => NN.nolst hKv ys (by rw [← z]; exact hlv)
            have hll5 := kb ll _ hlld hlv
            have hlll : l ≠ ll := fun z => by rw [z, hlv] at hl; cases hl
            have eg : gs = gs.take i ++ (wd, ns) :: gs.drop (i + 1) := by
              have hi' := (List.getElem?_eq_some_iff.mp hgi).1
              have h1 := (List.take_append_drop i gs).symm
              rw [List.drop_eq_getElem_cons hi', (List.getElem?_eq_some_iff.mp hgi).2] at h1
              exact h1
            have md' := md.step lv eg hlat
            have hfew := groups_few hBU hcU md'.inc md'.ne md'.mem
            rw [List.length_append] at hfew
            have hlu := W.lu
            have e1 : ys.length = la.length := Paired.len hgv
            have e2 : zs.length = out.length := Paired.len hg5
            refine ⟨ll, l, ys, zs, rfl, rfl, hll5, hl5, by rw [sizeLine_eq]; omega, ?_⟩
            have fx5 : Fx H5 (upd H5 ll (.lst (ys ++ zs))) := Fx.put hll5 id
            have fxb := kb.fx hdv
            refine ⟨fun b u n e => ?_, ⟨L'', la ++ out, ys ++ zs, NN.kn (by rw [upd_ne hlld.symm]) hK5, hL5, fun n hn => ?_, ?_, upd_same, ?_⟩, _, _, _, rfl⟩
            · rw [upd_ne (ne_of_none e hll)]
              exact kb b u n (kv b u n e)
            · rcases (hlat.kn n).mp hn with z | ⟨m, hm, c, hc⟩
              · exact hLUv n z
              · exact hcU m (reach_U hBU hcU ((lv.mem _ hgm m).mp hm).1) (c, n) hc
            · rw [take_succ_of hgi]
              exact md'
            · refine Paired.app (hgv.keep (fxb.trans fx5) fun a' vs' ok e => ?_) ((hg5.imp fun a' vs' e ok => ?_).keep fx5 fun a' vs' ok e => ?_)
              · rw [upd_ne ok]
                exact kb a' _ (fun z => NN.nolst hKv vs' (by rw [← z]; exact e)) e
              · intro z
                rw [z, hlv] at ok
                cases ok
              · rw [upd_ne ok]
                exact e
          · obtain ⟨kv, ⟨L', la, ys, hKv, hLv, hLUv, md, hlv, hgv⟩, w5, w6, w7, rfl⟩ := hp
            rw [hxl, List.take_length] at md
            have lv' := md.done lv
            refine ⟨_, rfl, fun b u e => kv b u (ne_of_none e hdH) (sXy _ _ e), ll, L', la, ys, _, _, _, _, hlv, hgv.imp fun _ _ _ _ => trivial, hKv, hLv, ?_, hLUv, lv', ng.step lv hno, fun hla => ?_, rfl⟩
            · intro z
              obtain ⟨g, hg⟩ := List.exists_mem_of_ne_nil _ hL0
              have := (md.kn g).mpr (.inl ((lv.kn g).mp hg))
              rw [z] at this
              exact nomatch this
            · obtain ⟨q, hq⟩ := List.exists_mem_of_ne_nil _ hla
              obtain ⟨g, hg⟩ := List.exists_mem_of_ne_nil _ (lv'.ne q hq)
              have hlw := (lv'.mem q hq g).mp hg
              have hlen := lv'.len q hq
              have h1 : g ∈ L' := (lv'.kn g).mpr ⟨q.1, hlw.1, by omega⟩
              have h2 : g ∉ L := fun z => by
                obtain ⟨u, hu, hul⟩ := (lv.kn g).mp z
                exact hlw.2 u hu (.inl (by omega))
              have h3 := nodup_le (L := g :: L) (U := L') (List.nodup_cons.mpr ⟨h2, hLnd⟩) fun x hx => by
                rcases List.mem_cons.mp hx with y | y
                · rw [y]; exact h1
                · exact (md.kn x).mpr (.inl ((lv.kn x).mp y))
              rw [List.length_cons] at h3
              have := hkL hgs
              omega
end
end K17
end TQ4
section TT1
set_option Elab.async false
set_option linter.all false
set_option maxRecDepth 100000
set_option maxHeartbeats 4000000
/-! Defs that make functions: their code objects' tables. -/
namespace K17
open PySem PySem.Spec PyProof.Rows L2 NdefX LamX
section
variable {P : Program} {w : World} {K : PySem.W.Frag} {mg : Str → Option Value} {base : Heap}
theorem Cal.mono {j k : Nat} {f : Addr} {Held : Hp → Prop} {sp : Sp} (C : Cal P w K mg base j f Held sp) (h : j ≤ k) : Cal P w K mg base k f Held sp :=
  ⟨C.same, C.fn, fun A outer s H us vs Q hr => C.run A outer s H us vs Q (hr.mono h)⟩
theorem Cal.with {k : Nat} {f : Addr} {Held Ex : Hp → Prop} {sp : Sp} (C : Cal P w K mg base k f Held sp) (h : ∀ H H', Same H H' → Ex H → Ex H') : Cal P w K mg base k f (fun H => Held H ∧ Ex H) sp :=
  ⟨fun H H' s z => ⟨C.same H H' s z.1, h H H' s z.2⟩, fun H h x z => C.fn H h x z.1, fun A outer s H us vs Q hr e z => C.run A outer s H us vs Q hr e z.1⟩
/-- a def by its body, its code object known -/
theorem def_ofC {CX : CXT} {k : Nat} {x : Str} {ps : List Str} {sp : Sp} (T : Tx K mg) (i n : Nat) (N : List Str) (hi : defs[i]? = some (x, n)) (S : FnScope N ps (defScope (top n)))
    (hb : ∀ (kV doc pm : Value) (an : Option Addr) (cdv ct : Value) (us : List Value), us.length = ps.length → bindArgs (PySem.W.fnOf x x (defArgs (top n)) (defBody (top n)) (defScope (top n)) .none kV doc pm an cdv ct) ⟨us, []⟩ = pure (ps.zip us))
    (len : ∀ vs H Q E, sp vs H Q E → vs.length = ps.length)
    (hbody : ∀ (f : Addr) (A : Around) (outer : List Env) (s : Shared) (H : Hp) (vs : List V) (Q : VK) (E : XK), Room k (A.deeper (envOfC x (defScope (top n)) s.heap.objs.size f (.ref (He.cT K (x, none)).1))) → sp vs H Q E →
      ∃ t, PSs (cxOf CX P w K mg base N x (defScope (top n)) f (.ref (He.cT K (x, none)).1) A outer s H E) (defBody (top n)) t ∧ t { nx := fun _ H' => Q .non H', rt := Q } (start N vs) H) : Def P w K mg base CX (k + 1) x ps sp := by
  have hm : (x, n) ∈ defs := List.mem_of_getElem? hi
  obtain ⟨fd, F⟩ := T.def_ (x, n) hm
  refine ⟨He.ga K x, fd, ?_, T.glo (x, n) hm, F.kp, F.bindsN hb⟩
  obtain ⟨oc, od, dV, kV, doc, pm, an, cdv, ct, osl, rfl, lk, hcd, _, _⟩ := F.ex
  obtain ⟨c, rfl⟩ := He.codeIn_ref hcd
  have e : (He.cT K (x, none)).1 = c := He.codeOf_eq (p := (x, none)) lk rfl
  refine fn_of lk hcd S len fun A outer s H vs Q E hr hsp => ?_
  rw [← e] at hr ⊢
  exact hbody _ A outer s H vs Q E hr hsp
end
/-- the two that make functions -/
def tShort (K : PySem.W.Frag) : Addr := (He.cT K ("shortest_page", none)).2
def tLeast (K : PySem.W.Frag) : Addr := (He.cT K ("least_page", none)).2
def nShort : Nat → Nat → Str := fun l _ => if l = 195 then "shortest_page.<locals>.follow" else "shortest_page.<locals>.<lambda>"
def nLeast : Nat → Nat → Str := fun l _ => if l = 182 then "least_page.<locals>.follow" else "least_page.<locals>.<lambda>"
def TT (K : PySem.W.Frag) : List NTab := [(tShort K, nShort), (tLeast K, nLeast)]
structure Tt (K : PySem.W.Frag) (mg : Str → Option Value) (base : Heap) : Prop where
  ne : tShort K ≠ tLeast K
  short : TabB base mg (He.cT K ("shortest_page", none)).1 (tShort K)
  least : TabB base mg (He.cT K ("least_page", none)).1 (tLeast K)
theorem TT_short {K : PySem.W.Frag} {mg : Str → Option Value} {base : Heap} (t : Tt K mg base) : ∀ p ∈ TT K, p.1 = tShort K → p.2 = nShort := fun p hp e => by
  rcases List.mem_cons.mp hp with z | z
  · rw [z]
  · rw [List.mem_singleton] at z
    rw [z] at e
    exact absurd e.symm t.ne
theorem TT_least {K : PySem.W.Frag} {mg : Str → Option Value} {base : Heap} (t : Tt K mg base) : ∀ p ∈ TT K, p.1 = tLeast K → p.2 = nLeast := fun p hp e => by
  rcases List.mem_cons.mp hp with z | z
  · rw [z] at e
    exact absurd e t.ne
  · rw [List.mem_singleton] at z
    rw [z]
/-! ### all but the tables stands -/
theorem Same.xt {H H' : Hp} (s : Same H H') : ExtN H H' := fun b o e _ => s b o e
theorem xt_trans {H H' H2 : Hp} (a : ExtN H H') (b : ExtN H' H2) : ExtN H H2 := fun c o e n => b c o (a c o e n) n
theorem KRow.xt {H H' : Hp} (s : ExtN H H') {kvs : List (Key × V)} {r : Row Str} (k : KRow H kvs r) : KRow H' kvs r := Paired.mapP k fun _ _ ⟨a, m, b, c⟩ => ⟨a, m, b, s _ _ c fun _ z => nomatch z⟩
theorem RowAt.xt {H H' : Hp} (s : ExtN H H') {d : Addr} {r : Row Str} (k : RowAt H d r) : RowAt H' d r := by
  obtain ⟨o, kvs, a, b⟩ := k
  exact ⟨o, kvs, s _ _ a fun _ z => (nomatch z), b.xt s⟩
theorem RowsAt.xt {H H' : Hp} (s : ExtN H H') {ds : List Addr} {rs : List (Row Str)} (k : RowsAt H ds rs) : RowsAt H' ds rs := Paired.mapP k fun _ _ z => z.xt s
theorem ModelAt.xt {H H' : Hp} (s : ExtN H H') {m : Addr} {R : M} (k : ModelAt H m R) : ModelAt H' m R := by
  obtain ⟨rl, sl, ds, o1, o2, a, b, c, d⟩ := k.ex
  exact ⟨rl, sl, ds, o1, o2, s _ _ a fun _ z => (nomatch z), s _ _ b fun _ z => (nomatch z), s _ _ c fun _ z => (nomatch z), RowsAt.xt s d⟩
theorem ReaderAt.xt {C : Addr} {H H' : Hp} (s : ExtN H H') {r : Addr} {R : M} (k : ReaderAt C H r R) : ReaderAt C H' r R := by
  obtain ⟨dx, rt, et, ds, a, b, c, d⟩ := k.ex
  exact ⟨dx, rt, et, ds, s _ _ a fun _ z => (nomatch z), s _ _ b fun _ z => (nomatch z), s _ _ c fun _ z => (nomatch z), RowsAt.xt s d⟩
/-! ### cells apart -/
/-- what is no locked cell stands in minus -/
theorem minus_at {H : Hp} {L : List (Addr × Obj)} (t : Tracked H L) {b : Addr} {u : HO} (e : H b = some u) (n : ∀ o, u ≠ .frz o (.own 0)) : minus L H b = some u := by
  rw [minus_out (t.out e n)]
  exact e
theorem ReaderAt.minus {C : Addr} {H : Hp} {L : List (Addr × Obj)} (t : Tracked H L) {r : Addr} {R : M} (k : ReaderAt C H r R) : ReaderAt C (minus L H) r R := by
  obtain ⟨dx, rt, et, ds, a, b, c, d⟩ := k.ex
  refine ⟨dx, rt, et, ds, minus_at t a fun _ z => (nomatch z), minus_at t b fun _ z => (nomatch z), minus_at t c fun _ z => (nomatch z), Paired.mapP d fun _ _ ⟨o, kvs, e1, e2⟩ => ⟨o, kvs, minus_at t e1 fun _ z => (nomatch z), Paired.mapP e2 fun _ _ ⟨h1, m, h2, h3⟩ => ⟨h1, m, h2, minus_at t h3 fun _ z => nomatch z⟩⟩⟩
theorem same_plus_of {H H' : Hp} {L : List (Addr × Obj)} (t : Tracked H L) (s : Same (minus L H) H') : Same H (plus L H') := fun b u e => by
  cases hl : L.lookup b with
  | some o =>
    rw [plus_in hl]
    have := t b o hl
    rw [e] at this
    exact this.symm
  | none =>
    rw [plus_out hl]
    exact s b u (by rw [minus_out hl]; exact e)
theorem same_minus_of {H H' : Hp} {L : List (Addr × Obj)} (n : ∀ c o, L.lookup c = some o → H c = none) (s : Same (plus L H) H') : Same H (minus L H') := fun b u e => by
  have hl := out_none n e
  rw [minus_out hl]
  exact s b u (by rw [plus_out hl]; exact e)
theorem plus_at {H : Hp} {L : List (Addr × Obj)} (n : ∀ c o, L.lookup c = some o → H c = none) {b : Addr} {u : HO} (e : H b = some u) : plus L H b = some u := by
  rw [plus_out (out_none n e)]
  exact e
end K17
end TT1
section TT2
set_option Elab.async false
set_option linter.all false
set_option maxRecDepth 100000
set_option maxHeartbeats 4000000
/-! shortest_page. -/
namespace K17
open PySem PySem.Spec PyProof.Rows L2 NdefX LamX
theorem Tracked.fx {H H' : Hp} {L : List (Addr × Obj)} (s : Fx H H') (t : Tracked H L) : Tracked H' L := fun c o h => s _ _ (t c o h) True.intro
theorem fnO_fx {f : Addr} {F : NF} {H H' : Hp} {b : Addr} (s : Fx H H') (h : H b = some (FnO f F)) : H' b = some (FnO f F) := s _ _ h (show Fixd (FnO f F) from True.intro)
theorem lamO_fx {f : Addr} {F : LF} {H H' : Hp} {b : Addr} (s : Fx H H') (h : H b = some (LamO f F)) : H' b = some (LamO f F) := s _ _ h (show Fixd (LamO f F) from True.intro)
theorem codeO_fx {c : Addr} {q : Str} {H H' : Hp} {b : Addr} (s : Fx H H') (h : H b = some (CodeO c q)) : H' b = some (CodeO c q) := s _ _ h (show Fixd (CodeO c q) from True.intro)
theorem minus_new {H H' : Hp} {L : List (Addr × Obj)} {l : Addr} {u : HO} (nn : ∀ c o, L.lookup c = some o → H' c = none) (hl : minus L H l = none) (hx : H' l = some u) : H l = none := by
  rw [minus_out (out_none nn hx)] at hl
  exact hl
theorem fnO_nt {f : Addr} {F : NF} (ps : Array Value) : FnO f F ≠ .tbl ps := fun z => by
  unfold FnO at z
  cases z
theorem lamO_nt {f : Addr} {F : LF} (ps : Array Value) : LamO f F ≠ .tbl ps := fun z => by
  unfold LamO at z
  cases z
theorem codeO_nt {c : Addr} {q : Str} (ps : Array Value) : CodeO c q ≠ .tbl ps := fun z => by
  unfold CodeO at z
  cases z
/-- few rows and signs -/
structure Small (R : M) (SG : List Nat) : Prop where
  rows : R.rows.length ≤ 6
  row : ∀ r ∈ R.rows, r.length ≤ 60
  ls : SG.length < 64
  sg : ∀ r ∈ R.rows, ∀ e ∈ r, e.1 ∈ SG
  tx : ∀ r ∈ R.rows, ∀ e ∈ r, ∀ t, e.2.2 = some t → isNm t = true
section
variable {P : Program} {w : World} {K : PySem.W.Frag} {mg : Str → Option Value} {base : Heap}
theorem few_any {R : M} {SG : List Nat} (ok : R.Ok) (s : Small R SG) : Few (List.range R.rows.length) SG (foAny R) where
  lu := by have := s.rows; rw [List.length_range]; omega
  ls := s.ls
  ln := fun n hn => by
    unfold foAny
    rw [List.length_map]
    rw [List.mem_range] at hn
    unfold Rdr.row
    rw [List.getD_eq_getElem?_getD, List.getElem?_eq_getElem hn]
    have := s.row _ (List.getElem_mem hn)
    show (R.rows[n]).length ≤ 100
    omega
  gl := fun n hn e he => by
    unfold foAny at he
    obtain ⟨x, hx, rfl⟩ := List.mem_map.mp he
    have hr := (row_mem hx).2
    exact ⟨s.sg _ hr x hx, List.mem_range.mpr (ok.goal _ hr x hx)⟩
/-! follow -/
abbrev stS : Stmt := (defBody (top 36)).getD 0 (.Pass ⟨0, 0, 0, 0⟩)
def spFoS (K : PySem.W.Frag) (ws : List (Option V)) : Sp := fun vs H Q E => ∃ (r : Addr) (R : M) (q : Nat), ws = [some (.ref r)] ∧ vs = [.int (q : Int)] ∧ ReaderAt (RC K) H r R ∧ q < R.rows.length ∧ (∀ r ∈ R.rows, r.length ≤ 100) ∧
  ∀ l H' xs, H l = none → Same H H' → H' l = some (.lst xs) → PairsAt (nkI K).At H' xs (foAny R q) → Q (.ref l) H'
theorem nok_foS (T : Tx K mg) (X : Rx K mg) {f : Addr} {cl : List (Str × Addr)} {c : Addr} : NOk P w K mg base CX0 2 f (NF.of stS "follow" "shortest_page.<locals>.follow" cl c) ["state"] ["reader"] (spFoS K) := by
  have Go : Def P w K mg base CX0 1 "goals_of" ["reader", "state"] (spGoals K) := d_goals_of T X
  refine nok_of (N := ["state", "reader"]) (show NScope _ _ _ (C8.fnScope stS) from nscope_by (by decide +kernel)) (fun _ _ _ us hl => match us, hl with | [_], _ => rfl) (fun ws vs H Q E h => ?_) (fun A outer s H vs ws Q E hr hf hc hl h => ?_)
  · obtain ⟨r, R, q, _, rfl, _⟩ := h; rfl
  · obtain ⟨r, R, q, rfl, rfl, hR, hq, hrl, k⟩ := h
    refine ⟨_, pss_one (ps_ret (pd0 Go hr (pa_cons (pv 1) (pa1 (pv 0))))), ?_⟩
    exact ⟨_, rfl, _, rfl, r, R, q, rfl, hR, hq, hrl, k⟩
/-! the goal -/
def lamS : Expr := match (defBody (top 36)).getD 1 (.Pass ⟨0, 0, 0, 0⟩) with
  | .Return (some (.Call _ es _ _)) _ => es.getD 2 (.Name "x" ⟨0, 0, 0, 0⟩)
  | _ => .Name "x" ⟨0, 0, 0, 0⟩
def lArgs : Expr → Arguments
  | .Lambda a .. => a
  | _ => ⟨[], [], none, [], [], none, []⟩
def lBody : Expr → Expr
  | .Lambda _ b .. => b
  | e => e
def lScope : Expr → Scope
  | .Lambda _ _ s _ => s
  | _ => ⟨.function, [], false, false, []⟩
def LF.of (e : Expr) (qual : Str) (cl : List (Str × Addr)) (c : Addr) : LF := ⟨qual, lArgs e, lBody e, lScope e, cl, c⟩
def spGoS (K : PySem.W.Frag) (ws : List (Option V)) : Sp := fun vs H Q E => ∃ (r : Addr) (R : M) (q : Nat), ws = [some (.ref r)] ∧ vs = [.int (q : Int)] ∧ ReaderAt (RC K) H r R ∧ Q (.bl (decide (q ∈ R.ends))) H
theorem cal_goS (X : Rx K mg) {f : Addr} {L : List (Addr × Obj)} {cl : List (Str × Addr)} {c : Addr} {ws : List V} (C : CellL L cl ["reader"] ws) :
    Cal P w K mg base 1 f (fun H => H f = some (LamO f (LF.of lamS "shortest_page.<locals>.<lambda>" cl c)) ∧ H c = some (CodeO c "shortest_page.<locals>.<lambda>") ∧ Tracked H L) (fun vs H Q E => spGoS K (ws.map some) vs (minus L H) (fun v H2 => (∀ c o, L.lookup c = some o → H2 c = none) → Q v (plus L H2)) E0) := by
  refine cal_lam (F := LF.of lamS "shortest_page.<locals>.<lambda>" cl c) (N := ["state", "reader"]) (ps := ["state"]) (sp := spGoS K) (show NScope _ _ _ (lScope lamS) from nscope_by (by decide +kernel)) (fun _ _ us hl => match us, hl with | [_], _ => rfl) (fun ws vs H Q E h => ?_) (fun A outer s H vs ws Q hr hl h => ?_) C
  · obtain ⟨r, R, q, _, rfl, _⟩ := h; rfl
  · obtain ⟨r, R, q, rfl, rfl, hR, k⟩ := h
    refine ⟨_, pe_cmpR op_in_seq (pv 0) (pe_fld (pv 1) rfl) (by rfl), ?_⟩
    obtain ⟨dx, rt, et, ds, h1, h2, h3, h4⟩ := hR.ex
    refine ⟨_, rfl, _, rfl, r, RC K, dx, _, _, rfl, h1, X.cls, X.nE, rfl, et, _, rfl, .inr (SqT.of h3), rfl, flat_ints _, ?_⟩
    show Q (.bl (inV _ _)) H
    rw [inV_ints]
    exact k
def spShort (K : PySem.W.Frag) : Sp := fun vs H Q E => ∃ (r : Addr) (R : M) (SG : List Nat), vs = [.ref r] ∧ ReaderAt (RC K) H r R ∧ R.Ok ∧ Small R SG ∧ TabsN (TT K) H ∧
  (∀ wd H', Least (fun u => ∃ row, R.read u = some row) wd → ExtN H H' → TabsN (TT K) H' → Q (.str (S wd)) H') ∧ ((∀ u, R.read u = none) → ∀ H', ExtN H H' → TabsN (TT K) H' → Q .non H')
theorem scShort : FnScope ["reader", "follow"] ["reader"] (defScope (top 36)) := ⟨rfl, rfl, rfl, by decide +kernel, rfl, by decide +kernel, by decide +kernel⟩
theorem d_short (T : Tx K mg) (X : Rx K mg) (B : Tt K mg base) : Def P w K mg base CX0 10 "shortest_page" ["reader"] (spShort K) := by
  have Wk : Def P w K mg base CX0 9 "least_walk" ["begin", "follow", "is_goal"] (spWalk P w K mg base (nkI K)) := d_walk (nkI K) T
  refine def_ofC T 19 36 ["reader", "follow"] rfl scShort (fun _ _ _ _ _ _ us hl => match us, hl with | [_], _ => rfl) (fun vs H Q E h => ?_) (fun f A outer s H vs Q E hr h => ?_)
  · obtain ⟨r, R, SG, rfl, _⟩ := h; rfl
  · obtain ⟨r, R, SG, rfl, hR, ok, sm, hT, k1, k2⟩ := h
    have nd := scShort.nd
    have fS : ∀ y ∈ (C8.fnScope stS).names, y.2 = .free → (defScope (top 36)).names.lookup y.1 = some .cell ∨ (defScope (top 36)).names.lookup y.1 = some .free := by decide +kernel
    have fL : ∀ y ∈ (lScope lamS).names, y.2 = .free → (defScope (top 36)).names.lookup y.1 = some .cell ∨ (defScope (top 36)).names.lookup y.1 = some .free := by decide +kernel
    have cK : ∀ y ∈ [("reader" : Str)], (defScope (top 36)).names.lookup y = some .cell := by decide +kernel
    refine ⟨_, pss_cons (ps_ndefMS (st := stS) (T := TT K) (nm := nShort) (P := tShort K) (i := 1) rfl B.short rfl List.mem_cons_self rfl (TT_short B) fS rfl rfl rfl nd rfl (Or.inl rfl) (Or.inr rfl))
      (pss_one (ps_ret (pe_callC Wk hr (pa_cons (pe_lst (pa1 (pe_fld (pv 0) rfl))) (pa_cons (pv 1) (pa1 (pe_lamN (T := TT K) (nm := nShort) (P := tShort K) B.short rfl List.mem_cons_self rfl (TT_short B) fL))))))), ?_⟩
    refine ⟨hT, fun ff c1 H1 x1 n1 T1 hf1 hff hc1 => ?_⟩
    have hR1 := hR.xt x1
    obtain ⟨dx, rt, et, ds, h1, h2, h3, h4⟩ := hR1.ex
    refine ⟨_, rfl, r, RC K, dx, _, _, rfl, h1, X.cls, X.nS, rfl, by show 1 ≤ sizeLine; decide, fun bl hbl => ?_⟩
    have s2 : Same H1 (upd H1 bl (.lst [.int (R.start : Int)])) := Same.new hbl
    have hbl2 : (upd H1 bl (.lst [.int (R.start : Int)])) bl = some (.lst [.int (R.start : Int)]) := upd_same
    have hff2 := s2 _ _ hff
    have hc12 := s2 _ _ hc1
    have T2 := T1.ext s2
    have x2 := x1.trans (ExtN.of s2)
    generalize upd H1 bl (.lst [.int (R.start : Int)]) = H2 at hbl2 hff2 hc12 T2 x2
    refine ⟨_, rfl, T2, fun gf c2 H3 x3 n3 T3 hgf hgff hgc => ?_⟩
    have x03 := x2.trans x3
    have hR3 := hR.xt x03
    have hbl3 := x3 _ _ hbl2 fun _ z => (nomatch z)
    have hff3 := x3 _ _ hff2 fun ps z => fnO_nt ps z
    have hc13 := x3 _ _ hc12 fun ps z => codeO_nt ps z
    refine tNil_of fun L FL nL => ?_
    have C1 := FL.cell (ws := [.ref r]) (Caps.made (fr := ["reader"]) (js := [0]) FL.ok fS (by decide +kernel) rfl) rfl cK
    have C2 := FL.cell (ws := [.ref r]) (Caps.made (fr := ["reader"]) (js := [0]) FL.ok fL (by decide +kernel) rfl) rfl cK
    have sp3 : Same H3 (plus L H3) := same_plus nL
    have hexR : ∀ H H', Same H H' → ReaderAt (RC K) H r R → ReaderAt (RC K) H' r R := fun H H' s z => z.same s
    have Ca1 := ((cal_nok (f := ff) (nok_foS (P := P) (w := w) (base := base) T X (c := c1)) C1).mono (by decide : 2 ≤ 6)).with hexR
    have Ca2 := ((cal_goS (P := P) (w := w) (mg := mg) (base := base) X (f := gf) (c := c2) C2).mono (by decide : 1 ≤ 6)).with hexR
    have Fo : FoAt P w K mg base (nkI K) (List.range R.rows.length) (foAny R) ff _ _ := {
      cal := Ca1
      fx := fun H H' s z => ⟨⟨fnO_fx s z.1.1, codeO_fx s z.1.2.1, z.1.2.2.fx s⟩, z.2.fx s⟩
      run := fun H v n Q z hv hn k => by
        have hv : v = .int (n : Int) := hv
        refine ⟨r, R, n, rfl, by rw [hv], z.2.minus z.1.2.2, List.mem_range.mp hn, fun r hr => by have := sm.row r hr; omega, fun l H' xs hl s hx hp nn => ?_⟩
        exact k l (plus L H') xs (minus_new nn hl hx) (same_plus_of z.1.2.2 s) (plus_at nn hx) (PairsAt.fx (nkI K) (Same.fx (same_plus nn)) hp) }
    have Ga : GoAt P w K mg base (nkI K) (List.range R.rows.length) (fun q => decide (q ∈ R.ends)) gf _ _ := {
      cal := Ca2
      fx := fun H H' s z => ⟨⟨lamO_fx s z.1.1, codeO_fx s z.1.2.1, z.1.2.2.fx s⟩, z.2.fx s⟩
      run := fun H v n Q z hv hn k => by
        have hv : v = .int (n : Int) := hv
        refine ⟨r, R, n, rfl, by rw [hv], z.2.minus z.1.2.2, fun nn => ?_⟩
        exact k _ (same_plus_of z.1.2.2 fun _ _ e => e) }
    have eG : (fun n => decide (n ∈ R.ends) = true) = goalAny R := funext fun n => propext decide_eq_true_iff
    refine ⟨bl, ff, gf, [.int (R.start : Int)], [R.start], List.range R.rows.length, SG, foAny R, fun q => decide (q ∈ R.ends), _, _, _, _, rfl, sp3 _ _ hbl3, .cons rfl .nil, by simp, fun n hn => ?_, by simp, Fo,
      ⟨⟨sp3 _ _ hff3, sp3 _ _ hc13, tracked_plus⟩, hR3.same sp3⟩, Ga, ⟨⟨sp3 _ _ hgff, sp3 _ _ hgc, tracked_plus⟩, hR3.same sp3⟩, few_any ok sm, fun wd H' hl s => ?_, fun hno H' s => ?_⟩
    · rw [List.mem_singleton] at hn
      rw [hn]
      exact List.mem_range.mpr ok.start
    · have s' := same_minus_of nL s
      rw [eG] at hl
      exact k1 wd _ (hl.imp fun u => toGoal_any ok u) (x03.trans (ExtN.of s')) (T3.ext s')
    · have s' := same_minus_of nL s
      rw [eG] at hno
      refine k2 (fun u => ?_) _ (x03.trans (ExtN.of s')) (T3.ext s')
      cases e : R.read u with
      | none => rfl
      | some row => exact absurd ((toGoal_any ok u).mpr ⟨row, e⟩) (hno u)
end
end K17
end TT2
section TT3
set_option Elab.async false
set_option linter.all false
set_option maxRecDepth 100000
set_option maxHeartbeats 4000000
/-! least_page. -/
namespace K17
open PySem PySem.Spec PyProof.Rows L2 NdefX LamX
def phiP {τ : Type} [DecidableEq τ] (row : List τ) (j : Nat) (e : Nat × Nat × Option τ) : Option (Nat × Nat × Nat) := match e.2.2 with
  | none => some (e.1, e.2.1, j)
  | some x => if row[j]? = some x then some (e.1, e.2.1, j + 1) else none
theorem foPage_phi {τ : Type} [DecidableEq τ] (R : Rdr τ) (row : List τ) (n : Nat × Nat) : foPage R row n = (R.row n.1).filterMap (phiP row n.2) := by
  unfold foPage phiP
  rfl
theorem isNm_ok {z : Str} (h : isNm z = true) : PyData.strOk z = true := by
  have hw : isWd z = true := by
    unfold isNm isSg isMk at h
    cases e : isWd z with
    | true => rfl
    | false => rw [e] at h; cases h
  unfold PyData.strOk
  unfold isWd at hw
  rw [← Array.all_toList, List.all_eq_true]
  intro c hc
  have h1 := of_decide_eq_true (List.all_eq_true.mp hw c hc)
  have h2 : ∀ c ∈ abc.cps.toList, c < 0x110000 := by decide +kernel
  exact decide_eq_true (h2 c h1)
/-- one item of a tuple as a slice -/
theorem cut_one (xs : List V) (n : Nat) : cutV xs (some (n : Int)) (some ((n : Int) + 1)) = (xs[n]?).toList := by
  have e : ((n : Int) + 1) = ((n + 1 : Nat) : Int) := by omega
  unfold cutV
  rw [e, HT.sIx_nat, HT.sIx_nat]
  by_cases h : n < xs.length
  · have e1 : min n xs.length = n := by omega
    have e2 : min (n + 1) xs.length - n = 1 := by omega
    rw [e1, e2, List.getElem?_eq_getElem h, List.drop_eq_getElem_cons h]
    rfl
  · have e1 : min n xs.length = xs.length := by omega
    rw [e1, List.drop_length, List.getElem?_eq_none (by omega)]
    simp
theorem cut_whole (xs : List V) (lo hi : Option Int) (h : HT.sIx xs.length 0 lo = 0 ∧ HT.sIx xs.length xs.length hi = xs.length) : cutV xs lo hi = xs := by
  unfold cutV
  rw [h.1, h.2]
  simp
theorem eqv_one (o : Option Str) (t : Str) : PyData.eqv (.tuple (o.toList.map PyData.str)) (.tuple [.str t]) = decide (o = some t) := by
  cases o with
  | none => rfl
  | some x =>
    show ((x == t) && true) = decide (some x = some t)
    by_cases h : x = t
    · rw [h, decide_eq_true rfl]; simp
    · rw [decide_eq_false fun z => h (Option.some.inj z)]
      simpa using h
theorem rSlA_of {K : PySem.W.Frag} {x : V} {lo hi : Option Int} {H : Hp} {Q : VK} {a : Addr} {xs : List V} (hx : x = .ref a) (hq : H a = some (.tup xs)) (k : ∀ p H', Same H H' → H' p = some (.tup (cutV xs lo hi)) → Q (.ref p) H') : rSlA K x lo hi H Q :=
  ⟨a, xs, hx, SqT.of hq, fun hw => k a H (fun _ _ e => e) (by rw [cut_whole xs lo hi hw]; exact hq), fun _ p hp => k p _ (Same.new hp) upd_same⟩
theorem dpAll_strs {K : PySem.W.Frag} {H : Hp} : ∀ l : List Str, DpAll K H (l.map V.str) (l.map PyData.str)
  | [] => .nil
  | x :: l => .cons (.str x) (dpAll_strs l)
theorem shaped_strs {l : List Str} (h : ∀ x ∈ l, isNm x = true) : SeqAt.shaped (.tuple (l.map PyData.str)) = true := by
  have h1 : PyData.canLayAll0 (l.map PyData.str) = true := by
    induction l with
    | nil => rfl
    | cons x l ih =>
      rw [List.map_cons]
      unfold PyData.canLayAll0 PyData.canLay0
      rw [isNm_ok (h x List.mem_cons_self), ih fun y hy => h y (List.mem_cons_of_mem _ hy)]
      rfl
  have h2 : PyData.depthAll (l.map PyData.str) ≤ 3 := by
    clear h1 h
    induction l with
    | nil => simp [PyData.depthAll]
    | cons x l ih =>
      rw [List.map_cons]
      simp [PyData.depthAll, PyData.depth]
      omega
  unfold SeqAt.shaped PyData.canLay0
  rw [h1, Bool.true_and]
  refine decide_eq_true ?_
  simp [PyData.depth]
  omega
section
variable {P : Program} {w : World} {K : PySem.W.Frag} {mg : Str → Option Value} {base : Heap}
def UP (R : M) (row : List Str) : List (Nat × Nat) := (List.range R.rows.length).flatMap fun q => (List.range (row.length + 1)).map fun i => (q, i)
theorem mem_UP {R : M} {row : List Str} {n : Nat × Nat} : n ∈ UP R row ↔ n.1 < R.rows.length ∧ n.2 ≤ row.length := by
  unfold UP
  rw [List.mem_flatMap]
  constructor
  · rintro ⟨q, hq, h⟩
    obtain ⟨i, hi, rfl⟩ := List.mem_map.mp h
    rw [List.mem_range] at hq hi
    exact ⟨hq, by show i ≤ _; omega⟩
  · rintro ⟨h1, h2⟩
    exact ⟨n.1, List.mem_range.mpr h1, List.mem_map.mpr ⟨n.2, List.mem_range.mpr (by omega), rfl⟩⟩
theorem few_page {R : M} {SG : List Nat} (ok : R.Ok) (s : Small R SG) {row : List Str} (hl : row.length ≤ 48) : Few (UP R row) SG (foPage R row) where
  lu := by
    unfold UP
    have := flat_len (f := fun q => (List.range (row.length + 1)).map fun i => (q, i)) (k := 49) (l := List.range R.rows.length) fun q _ => by rw [List.length_map, List.length_range]; omega
    rw [List.length_range] at this
    have := s.rows
    omega
  ls := s.ls
  ln := fun n hn => by
    have h1 := (mem_UP.mp hn).1
    unfold foPage
    refine Nat.le_trans (List.length_filterMap_le _ _) ?_
    unfold Rdr.row
    rw [List.getD_eq_getElem?_getD, List.getElem?_eq_getElem h1]
    have := s.row _ (List.getElem_mem h1)
    show (R.rows[n.1]).length ≤ 100
    omega
  gl := fun n hn e he => by
    have h1 := mem_UP.mp hn
    obtain ⟨c, g, j⟩ := e
    obtain ⟨t, hm, h⟩ := (foPage_mem ok).mp he
    have hx := (mv_iff ok _ _ _).mp hm
    have hr := (row_mem hx).2
    refine ⟨s.sg _ hr _ hx, mem_UP.mpr ⟨ok.goal _ hr _ hx, ?_⟩⟩
    rcases h with ⟨_, rfl⟩ | ⟨x, _, h2, rfl⟩
    · exact h1.2
    · have := (List.getElem?_eq_some_iff.mp h2).1
      show n.2 + 1 ≤ _
      omega
abbrev stP : Stmt := (defBody (top 34)).getD 1 (.Pass ⟨0, 0, 0, 0⟩)
def spFoP (K : PySem.W.Frag) (ws : List (Option V)) : Sp := fun vs H Q E => ∃ (r ra p : Addr) (R : M) (row : List Str) (n : Nat × Nat), ws = [some (.ref r), some (.ref ra)] ∧ vs = [.ref p] ∧ ReaderAt (RC K) H r R ∧ H ra = some (.tup (row.map V.str)) ∧ H p = some (.tup [.int (n.1 : Int), .int (n.2 : Int)]) ∧
  n.1 < R.rows.length ∧ (∀ r ∈ R.rows, r.length ≤ 100) ∧ (∀ x ∈ row, isNm x = true) ∧ (∀ r ∈ R.rows, ∀ e ∈ r, ∀ t, e.2.2 = some t → isNm t = true) ∧
  ∀ l H' xs, H l = none → Same H H' → H' l = some (.lst xs) → PairsAt (nkP K).At H' xs (foPage R row n) → Q (.ref l) H'
theorem nok_foP (X : Rx K mg) {f : Addr} {cl : List (Str × Addr)} {c : Addr} : NOk P w K mg base CX0 2 f (NF.of stP "follow" "least_page.<locals>.follow" cl c) ["node"] ["reader", "row"] (spFoP K) := by
  refine nok_of (N := ["node", "reader", "row", "found", "sign", "goal", "told"]) (show NScope _ _ _ (C8.fnScope stP) from nscope_by (by decide +kernel)) (fun _ _ _ us hl => match us, hl with | [_], _ => rfl) (fun ws vs H Q E h => ?_) (fun A outer s H vs ws Q E hr hf hc hl h => ?_)
  · obtain ⟨r, ra, p, R, row, n, _, rfl, _⟩ := h; rfl
  · obtain ⟨r, ra, p, R, row, n, rfl, rfl, hR, hra, hp, hn, hrl, hrow, htx, k⟩ := h
    have nd : (["node", "reader", "row", "found", "sign", "goal", "told"] : List Str).Nodup := by decide +kernel
    have hu := hu_of hr
    have hu64 := hr.units
    refine ⟨_, PSs.nox (pss_cons (ps_set (i := 3) nd rfl (Or.inl rfl) (pe_lst pa_nil))
      (pss_cons (ps_for PassesOwn.never rfl (pi_items (pe_ix ix_tup (pe_fld (pv 1) rfl) (pe_ix ix_tup (pv 0) pe_int (fun _ _ => rfl)) (fun _ _ => rfl))) (g := gTup K 2 (gCons (gName 4) (gCons (gTup K 2 (gCons (gName 5) (gCons (gName 6) gNil))) gNil)))
          (pg_tup rfl (pgs_cons (pg_name (i := 4) nd rfl (Or.inl rfl)) (pgs_cons (pg_tup rfl (pgs_cons (pg_name (i := 5) nd rfl (Or.inl rfl)) (pgs_cons (pg_name (i := 6) nd rfl (Or.inl rfl)) pgs_nil))) pgs_nil)))
        (pss_one (ps_if (pt_cmpR op_isN (pv 6) pe_non (nomark _))
          (pss_one (ps_expr (pe_bm PySem.F.plainAttrs_list PySem.F.slot_list_append PySem.F.type_list_append mt_append (pv 3) (pa1 (pe_tup (pa_cons (pv 4) (pa1 (pe_tup (pa_cons (pv 5) (pa1 (pe_ix ix_tup (pv 0) pe_int (fun _ _ => rfl))))))))))))
          (pss_one (ps_if (pt_cmpR (op_eqD hu64) (pe_slice sl_tupA (pv 2) (po_some (pe_ix ix_tup (pv 0) pe_int (fun _ _ => rfl))) (po_some (pe_op op_add (pe_ix ix_tup (pv 0) pe_int (fun _ _ => rfl)) pe_int))) (pe_tup (pa1 (pv 6))) (nomark _))
            (pss_one (ps_expr (pe_bm PySem.F.plainAttrs_list PySem.F.slot_list_append PySem.F.type_list_append mt_append (pv 3) (pa1 (pe_tup (pa_cons (pv 4) (pa1 (pe_tup (pa_cons (pv 5) (pa1 (pe_op op_add (pe_ix ix_tup (pv 0) pe_int (fun _ _ => rfl)) pe_int)))))))))))
            pss_nil)))))
      (pss_one (ps_ret (pv 3))))), ?_⟩
    obtain ⟨dx, rt, et, ds, h1, h2, h3, h4⟩ := hR.ex
    obtain ⟨d, rw', hd1, hd2, o, kvs, hd3, hk⟩ := row_at h4 hn
    have hds : (ds.map V.ref)[n.1]? = some (.ref d) := by rw [List.getElem?_map, hd1]; rfl
    have hrow' : R.row n.1 = rw' := by
      unfold Rdr.row
      rw [List.getD_eq_getElem?_getD, hd2]
      rfl
    have hrm := List.mem_of_getElem? hd2
    refine ⟨Nat.zero_le _, fun fl hfl => ?_⟩
    have s0 : Same H (upd H fl (.lst [])) := Same.new hfl
    refine ⟨_, rfl, r, RC K, dx, _, _, rfl, s0 _ _ h1, X.cls, X.nR, rfl, _, rfl, p, _, (0 : Int), _, rfl, rfl, SqT.of (s0 _ _ hp), rfl, rt, _, (n.1 : Int), _, rfl, rfl, SqT.of (s0 _ _ h2), atI_nat hds, d, o, kvs, rfl, s0 _ _ hd3, ?_⟩
    have hφ : foPage R row n = rw'.filterMap (phiP row n.2) := by
      rw [foPage_phi, hrow']
    have hφ0 : ∀ c g, phiP row n.2 (c, g, none) = some (c, g, n.2) := fun _ _ => rfl
    have hφ1 : ∀ c g x, phiP row n.2 (c, g, some x) = if row[n.2]? = some x then some (c, g, n.2 + 1) else none := fun _ _ _ => rfl
    generalize phiP row n.2 = φ at hφ hφ0 hφ1
    rw [hφ] at k
    have hrl' := hrl rw' hrm
    -- one more pair
    have push : ∀ (i : Nat) (e : Nat × Nat × Option Str) (H1 H2 : Hp) (xs : List V) (j : Nat) (x : Nat × Nat × Nat), rw'[i]? = some e → φ e = some x → x = (e.1, e.2.1, j) → Same H H1 → H1 fl = some (.lst xs) → PairsAt (nkP K).At H1 xs ((rw'.take i).filterMap φ) → Same H1 H2 →
        2 ≤ sizeLine ∧ ∀ q, H2 q = none → 2 ≤ sizeLine ∧ ∀ t, (upd H2 q (.tup [.int (e.2.1 : Int), .int (j : Int)])) t = none →
          (upd (upd H2 q (.tup [.int (e.2.1 : Int), .int (j : Int)])) t (.tup [.str (sg e.1), .ref q])) fl = some (.lst xs) ∧ xs.length < sizeLine ∧
            (Same H (upd (upd (upd H2 q (.tup [.int (e.2.1 : Int), .int (j : Int)])) t (.tup [.str (sg e.1), .ref q])) fl (.lst (xs ++ [.ref t]))) ∧
              ∃ xs', (upd (upd (upd H2 q (.tup [.int (e.2.1 : Int), .int (j : Int)])) t (.tup [.str (sg e.1), .ref q])) fl (.lst (xs ++ [.ref t]))) fl = some (.lst xs') ∧ PairsAt (nkP K).At (upd (upd (upd H2 q (.tup [.int (e.2.1 : Int), .int (j : Int)])) t (.tup [.str (sg e.1), .ref q])) fl (.lst (xs ++ [.ref t]))) xs' ((rw'.take (i + 1)).filterMap φ)) := by
      intro i e H1 H2 xs j x he hx hxe s1 hfl1 hps s12
      refine ⟨by decide, fun q hq => ⟨by decide, fun t ht => ?_⟩⟩
      have sq : Same H2 (upd H2 q (.tup [.int (e.2.1 : Int), .int (j : Int)])) := Same.new hq
      have st : Same (upd H2 q (.tup [.int (e.2.1 : Int), .int (j : Int)])) (upd (upd H2 q (.tup [.int (e.2.1 : Int), .int (j : Int)])) t (.tup [.str (sg e.1), .ref q])) := Same.new ht
      have sA := s12.trans (sq.trans st)
      have hflA := sA _ _ hfl1
      have hxl : xs.length = _ := Paired.len hps
      have hfm := List.length_filterMap_le φ (rw'.take i)
      have hil := (List.getElem?_eq_some_iff.mp he).1
      rw [List.length_take] at hfm
      refine ⟨hflA, lt_line (by omega), Same.updN (s1.trans sA) hfl, xs ++ [.ref t], upd_same, ?_⟩
      have hqt : q ≠ t := fun z => by rw [← z, upd_same] at ht; cases ht
      have htf : t ≠ fl := fun z => by rw [z, sq _ _ (s12 _ _ hfl1)] at ht; cases ht
      have hqf : q ≠ fl := fun z => by rw [z, s12 _ _ hfl1] at hq; cases hq
      rw [take_succ_of he, List.filterMap_append]
      have e1 : [e].filterMap φ = [x] := by rw [List.filterMap_cons, hx]; rfl
      rw [e1, hxe]
      refine Paired.app (PairsAt.fx (nkP K) ((Same.fx sA).trans (Fx.put hflA id)) hps) (.cons ⟨t, .ref q, rfl, ?_, q, rfl, ?_⟩ .nil)
      · rw [upd_ne htf, upd_same]
      · rw [upd_ne hqf, upd_ne hqt, upd_same]
    refine for_it (row_items hk) (fun i σ H1 => Same H H1 ∧ (∃ xs, H1 fl = some (.lst xs) ∧ PairsAt (nkP K).At H1 xs ((rw'.take i).filterMap φ)) ∧ ∃ u4 u5 u6, σ = [some (.ref p), some (.ref r), some (.ref ra), some (.ref fl), u4, u5, u6])
      ⟨s0, ⟨[], upd_same, .nil⟩, none, none, none, rfl⟩ (fun i σ H1 _ hp => hp.1 _ _ hd3) (fun i x σ H1 H2 hi hp hy => ?_) (fun σ H1 hp => ?_)
    · obtain ⟨s1, ⟨xs, hfl1, hps⟩, u4, u5, u6, rfl⟩ := hp
      obtain ⟨T1, e, m, he, rfl, hT1, rfl, hm⟩ := hy
      have s2 : Same H1 (upd H1 T1 (.tup [.str (sg e.1), .ref m])) := Same.new hT1
      have hm2 := s2 _ _ (s1 _ _ hm)
      refine ⟨T1, _, rfl, SqT.of upd_same, rfl, _, _, rfl, _, _, rfl, m, _, rfl, SqT.of hm2, rfl, _, _, rfl, _, _, rfl, rfl, rfl, ?_⟩
      obtain ⟨c, g, t⟩ := e
      have hp2 := s2 _ _ (s1 _ _ hp)
      have hra2 := s2 _ _ (s1 _ _ hra)
      have hfl2 := s2 _ _ hfl1
      have hem := List.mem_of_getElem? he
      cases t with
      | none =>
        refine ⟨_, rfl, rfl, true, rfl, iteT ?_⟩
        obtain ⟨q1, q2⟩ := push i _ H1 _ xs n.2 _ he (hφ0 c g) rfl s1 hfl1 hps s2
        refine ⟨_, rfl, .inl ⟨rfl, _, SqL.of hfl2⟩, _, rfl, _, rfl, _, rfl, p, _, (1 : Int), _, rfl, rfl, SqT.of hp2, rfl, q1, fun q hq => ?_⟩
        obtain ⟨q3, q4⟩ := q2 q hq
        refine ⟨q3, fun t ht => ?_⟩
        obtain ⟨a1, a2, a3, a4⟩ := q4 t ht
        exact ⟨fl, xs, .ref t, rfl, rfl, a1, a2, a3, a4, _, _, _, rfl⟩
      | some z =>
        refine ⟨_, rfl, rfl, false, rfl, iteF ?_⟩
        have hzn := htx rw' hrm _ hem z rfl
        refine ⟨_, rfl, _, rfl, p, _, (1 : Int), _, rfl, rfl, SqT.of hp2, rfl, _, rfl, _, rfl, p, _, (1 : Int), _, rfl, rfl, SqT.of hp2, rfl, _, _, rfl, rfl, _, rfl, rSlA_of rfl hra2 fun p' H3 s3 h3 => ?_⟩
        rw [cut_one, List.getElem?_map] at h3
        have h3 : H3 p' = some (.tup ((row[n.2]?).toList.map V.str)) := by
          rw [h3]
          cases row[n.2]? <;> rfl
        refine ⟨_, rfl, by show 1 ≤ sizeLine; decide, fun t4 ht4 => ?_⟩
        have s4 : Same H3 (upd H3 t4 (.tup [.str z])) := Same.new ht4
        have s24 := s3.trans s4
        refine ⟨_, _, .tup (SqT.of (s4 _ _ h3)) (dpAll_strs _), .tup (SqT.of upd_same) (.cons (.str z) .nil), shaped_strs fun x hx => ?_, shaped_strs (l := [z]) fun x hx => ?_, ?_⟩
        · cases hq : row[n.2]? with
          | none => rw [hq] at hx; exact nomatch hx
          | some y =>
            rw [hq] at hx
            have : x = y := by simpa using hx
            rw [this]
            exact hrow y (List.mem_of_getElem? hq)
        · rw [List.mem_singleton] at hx
          rw [hx]
          exact hzn
        rw [eqv_one]
        by_cases hq : row[n.2]? = some z
        · rw [decide_eq_true hq]
          refine ⟨true, rfl, iteT ?_⟩
          have hp4 := s24 _ _ hp2
          obtain ⟨q1, q2⟩ := push i _ H1 _ xs (n.2 + 1) _ he (by rw [hφ1, if_pos hq]) rfl s1 hfl1 hps (s2.trans s24)
          refine ⟨_, rfl, .inl ⟨rfl, _, SqL.of (s24 _ _ hfl2)⟩, _, rfl, _, rfl, _, rfl, p, _, (1 : Int), _, rfl, rfl, SqT.of hp4, rfl, _, _, rfl, rfl, q1, fun q hq => ?_⟩
          obtain ⟨q3, q4⟩ := q2 q hq
          refine ⟨q3, fun t ht => ?_⟩
          obtain ⟨a1, a2, a3, a4⟩ := q4 t ht
          exact ⟨fl, xs, .ref t, rfl, rfl, a1, a2, a3, a4, _, _, _, rfl⟩
        · rw [decide_eq_false hq]
          refine ⟨false, rfl, iteF ⟨s1.trans (s2.trans s24), ⟨xs, s24 _ _ hfl2, ?_⟩, _, _, _, rfl⟩⟩
          rw [take_succ_of he, List.filterMap_append]
          have : [(c, g, some z)].filterMap φ = [] := by rw [List.filterMap_cons, hφ1, if_neg hq]; rfl
          rw [this, List.append_nil]
          exact PairsAt.fx (nkP K) (Same.fx (s2.trans s24)) hps
    · obtain ⟨s1, ⟨xs, hfl1, hps⟩, u4, u5, u6, rfl⟩ := hp
      rw [List.take_length] at hps
      exact ⟨_, rfl, k fl H1 xs hfl s1 hfl1 hps⟩
/-! the goal -/
def lamP : Expr := match (defBody (top 34)).getD 2 (.Pass ⟨0, 0, 0, 0⟩) with
  | .Return (some (.Call _ es _ _)) _ => es.getD 2 (.Name "x" ⟨0, 0, 0, 0⟩)
  | _ => .Name "x" ⟨0, 0, 0, 0⟩
def gdP (R : M) (row : List Str) (n : Nat × Nat) : Bool := decide (n.2 = row.length) && decide (n.1 ∈ R.ends)
def spGoP (K : PySem.W.Frag) (ws : List (Option V)) : Sp := fun vs H Q E => ∃ (r ra p : Addr) (R : M) (row : List Str) (n : Nat × Nat), ws = [some (.ref r), some (.ref ra)] ∧ vs = [.ref p] ∧ ReaderAt (RC K) H r R ∧ H ra = some (.tup (row.map V.str)) ∧ H p = some (.tup [.int (n.1 : Int), .int (n.2 : Int)]) ∧ Q (.bl (gdP R row n)) H
theorem cal_goP (T : Tx K mg) (X : Rx K mg) {f : Addr} {L : List (Addr × Obj)} {cl : List (Str × Addr)} {c : Addr} {ws : List V} (C : CellL L cl ["reader", "row"] ws) :
    Cal P w K mg base 1 f (fun H => H f = some (LamO f (LF.of lamP "least_page.<locals>.<lambda>" cl c)) ∧ H c = some (CodeO c "least_page.<locals>.<lambda>") ∧ Tracked H L) (fun vs H Q E => spGoP K (ws.map some) vs (minus L H) (fun v H2 => (∀ c o, L.lookup c = some o → H2 c = none) → Q v (plus L H2)) E0) := by
  refine cal_lam (F := LF.of lamP "least_page.<locals>.<lambda>" cl c) (N := ["node", "reader", "row"]) (ps := ["node"]) (sp := spGoP K) (show NScope _ _ _ (lScope lamP) from nscope_by (by decide +kernel)) (fun _ _ us hl => match us, hl with | [_], _ => rfl) (fun ws vs H Q E h => ?_) (fun A outer s H vs ws Q hr hl h => ?_) C
  · obtain ⟨r, ra, p, R, row, n, _, rfl, _⟩ := h; rfl
  · obtain ⟨r, ra, p, R, row, n, rfl, rfl, hR, hra, hp, k⟩ := h
    refine ⟨_, pe_and (pe_cmpR op_eq (pe_ix ix_tup (pv 0) pe_int (fun _ _ => rfl)) (pB T b_len call_len_seq (pa1 (pv 2))) (nomark _)) (pe_one (pe_cmpR op_in_seq (pe_ix ix_tup (pv 0) pe_int (fun _ _ => rfl)) (pe_fld (pv 1) rfl) (by rfl))), ?_⟩
    obtain ⟨dx, rt, et, ds, h1, h2, h3, h4⟩ := hR.ex
    refine ⟨_, rfl, p, _, (1 : Int), _, rfl, rfl, SqT.of hp, rfl, _, rfl, ra, _, rfl, .inr (SqT.of hra), rfl, ?_⟩
    rw [List.length_map]
    by_cases hn : n.2 = row.length
    · refine ⟨true, congrArg V.bl (decide_eq_true (by rw [hn])), iteT ?_⟩
      refine ⟨_, rfl, p, _, (0 : Int), _, rfl, rfl, SqT.of hp, rfl, _, rfl, r, RC K, dx, _, _, rfl, h1, X.cls, X.nE, rfl, et, _, rfl, .inr (SqT.of h3), rfl, flat_ints _, ?_⟩
      show Q (.bl (inV _ _)) H
      rw [inV_ints]
      have e : gdP R row n = decide (n.1 ∈ R.ends) := by unfold gdP; rw [decide_eq_true hn, Bool.true_and]
      rw [← e]
      exact k
    · refine ⟨false, congrArg V.bl (decide_eq_false fun z => hn ?_), iteF ?_⟩
      · have := V.int.inj z
        omega
      · have e : gdP R row n = false := by unfold gdP; rw [decide_eq_false hn, Bool.false_and]
        rw [← e]
        exact k
def spLeast (K : PySem.W.Frag) : Sp := fun vs H Q E => ∃ (r ra : Addr) (R : M) (row : List Str) (SG : List Nat), vs = [.ref r, .ref ra] ∧ ReaderAt (RC K) H r R ∧ H ra = some (.tup (row.map V.str)) ∧ R.Ok ∧ Small R SG ∧ (∀ x ∈ row, isNm x = true) ∧ row.length ≤ 48 ∧ TabsN (TT K) H ∧
  (∀ wd H', Least (fun u => R.read u = some row) wd → ExtN H H' → TabsN (TT K) H' → Q (.str (S wd)) H') ∧ ((∀ u, R.read u ≠ some row) → ∀ H', ExtN H H' → TabsN (TT K) H' → Q .non H')
theorem scLeast : FnScope ["reader", "row", "follow"] ["reader", "row"] (defScope (top 34)) := ⟨rfl, rfl, rfl, by decide +kernel, rfl, by decide +kernel, by decide +kernel⟩
theorem d_least (T : Tx K mg) (X : Rx K mg) (B : Tt K mg base) : Def P w K mg base CX0 10 "least_page" ["reader", "row"] (spLeast K) := by
  have Wk : Def P w K mg base CX0 9 "least_walk" ["begin", "follow", "is_goal"] (spWalk P w K mg base (nkP K)) := d_walk (nkP K) T
  have Ir : Def P w K mg base CX0 4 "is_row" ["value"] spRow := d_is_row T
  refine def_ofC T 17 34 ["reader", "row", "follow"] rfl scLeast (fun _ _ _ _ _ _ us hl => match us, hl with | [_, _], _ => rfl) (fun vs H Q E h => ?_) (fun f A outer s H vs Q E hr h => ?_)
  · obtain ⟨r, ra, R, row, SG, rfl, _⟩ := h; rfl
  · obtain ⟨r, ra, R, row, SG, rfl, hR, hra, ok, sm, hrow, hrl, hT, k1, k2⟩ := h
    have nd := scLeast.nd
    have fS : ∀ y ∈ (C8.fnScope stP).names, y.2 = .free → (defScope (top 34)).names.lookup y.1 = some .cell ∨ (defScope (top 34)).names.lookup y.1 = some .free := by decide +kernel
    have fL : ∀ y ∈ (lScope lamP).names, y.2 = .free → (defScope (top 34)).names.lookup y.1 = some .cell ∨ (defScope (top 34)).names.lookup y.1 = some .free := by decide +kernel
    have cK : ∀ y ∈ [("reader" : Str), "row"], (defScope (top 34)).names.lookup y = some .cell := by decide +kernel
    refine ⟨_, pss_cons (ps_if (pt_not (pt_val (pd0 Ir hr (pa1 (pv 1))))) (pss_one ps_never) pss_nil)
      (pss_cons (ps_ndefMS (st := stP) (T := TT K) (nm := nLeast) (P := tLeast K) (i := 2) rfl B.least rfl (List.mem_cons_of_mem _ List.mem_cons_self) rfl (TT_least B) fS rfl rfl rfl nd rfl (Or.inl rfl) (Or.inr rfl))
      (pss_one (ps_ret (pe_callC Wk hr (pa_cons (pe_lst (pa1 (pe_tup (pa_cons (pe_fld (pv 0) rfl) (pa1 pe_int))))) (pa_cons (pv 2) (pa1 (pe_lamN (T := TT K) (nm := nLeast) (P := tLeast K) B.least rfl (List.mem_cons_of_mem _ List.mem_cons_self) rfl (TT_least B) fL)))))))), ?_⟩
    refine ⟨_, rfl, ra, row, rfl, hra, hrow, by omega, fun H0 s0 => ?_⟩
    refine ⟨true, rfl, iteF ?_⟩
    have hR0 := hR.same s0
    have hra0 := s0 _ _ hra
    refine ⟨hT.ext s0, fun ff c1 H1 x1 n1 T1 hf1 hff hc1 => ?_⟩
    have hR1 := hR0.xt x1
    have hra1 := x1 _ _ hra0 fun _ z => (nomatch z)
    obtain ⟨dx, rt, et, ds, h1, h2, h3, h4⟩ := hR1.ex
    refine ⟨_, rfl, r, RC K, dx, _, _, rfl, h1, X.cls, X.nS, rfl, by show 2 ≤ sizeLine; decide, fun p hp => ⟨by show 1 ≤ sizeLine; decide, fun bl hbl => ?_⟩⟩
    have s1 : Same H1 (upd H1 p (.tup [.int (R.start : Int), .int 0])) := Same.new hp
    have s2 := s1.trans (Same.new (o := .lst [.ref p]) hbl)
    have hpb : p ≠ bl := fun z => by rw [← z, upd_same] at hbl; cases hbl
    have hbl2 : (upd (upd H1 p (.tup [.int (R.start : Int), .int 0])) bl (.lst [.ref p])) bl = some (.lst [.ref p]) := upd_same
    have hp2 : (upd (upd H1 p (.tup [.int (R.start : Int), .int 0])) bl (.lst [.ref p])) p = some (.tup [.int (R.start : Int), .int ((0 : Nat) : Int)]) := by rw [upd_ne hpb, upd_same]; rfl
    have hff2 := s2 _ _ hff
    have hc12 := s2 _ _ hc1
    have hra2 := s2 _ _ hra1
    have T2 := T1.ext s2
    have x2 := (ExtN.of s0).trans (x1.trans (ExtN.of s2))
    generalize upd (upd H1 p (.tup [.int (R.start : Int), .int 0])) bl (.lst [.ref p]) = H2 at hbl2 hp2 hff2 hc12 hra2 T2 x2
    refine ⟨_, rfl, T2, fun gf c2 H3 x3 n3 T3 hgf hgff hgc => ?_⟩
    have x03 := x2.trans x3
    have hR3 := hR.xt x03
    have hbl3 := x3 _ _ hbl2 fun _ z => (nomatch z)
    have hp3 := x3 _ _ hp2 fun _ z => (nomatch z)
    have hra3 := x3 _ _ hra2 fun _ z => (nomatch z)
    have hff3 := x3 _ _ hff2 fun ps z => fnO_nt ps z
    have hc13 := x3 _ _ hc12 fun ps z => codeO_nt ps z
    refine tNil_of fun L FL nL => ?_
    have C1 := FL.cell (ws := [.ref r, .ref ra]) (Caps.made (fr := ["reader", "row"]) (js := [0, 1]) FL.ok fS (by decide +kernel) rfl) rfl cK
    have C2 := FL.cell (ws := [.ref r, .ref ra]) (Caps.made (fr := ["reader", "row"]) (js := [0, 1]) FL.ok fL (by decide +kernel) rfl) rfl cK
    have sp3 : Same H3 (plus L H3) := same_plus nL
    have hexR : ∀ H H', Same H H' → (ReaderAt (RC K) H r R ∧ H ra = some (.tup (row.map V.str))) → (ReaderAt (RC K) H' r R ∧ H' ra = some (.tup (row.map V.str))) := fun H H' s z => ⟨z.1.same s, s _ _ z.2⟩
    have Ca1 := ((cal_nok (f := ff) (nok_foP (P := P) (w := w) (base := base) X (c := c1)) C1).mono (by decide : 2 ≤ 6)).with hexR
    have Ca2 := ((cal_goP (P := P) (w := w) (base := base) T X (f := gf) (c := c2) C2).mono (by decide : 1 ≤ 6)).with hexR
    have Fo : FoAt P w K mg base (nkP K) (UP R row) (foPage R row) ff _ _ := {
      cal := Ca1
      fx := fun H H' s z => ⟨⟨fnO_fx s z.1.1, codeO_fx s z.1.2.1, z.1.2.2.fx s⟩, z.2.1.fx s, s _ _ z.2.2 True.intro⟩
      run := fun H v n Q z hv hn k => by
        obtain ⟨q, rfl, hq⟩ := hv
        have t := z.1.2.2
        refine ⟨r, ra, q, R, row, n, rfl, rfl, z.2.1.minus t, minus_at t z.2.2 fun _ y => (nomatch y), minus_at t hq fun _ y => (nomatch y), (mem_UP.mp hn).1, fun r hr => by have := sm.row r hr; omega, hrow, sm.tx, fun l H' xs hl s hx hp nn => ?_⟩
        exact k l (plus L H') xs (minus_new nn hl hx) (same_plus_of t s) (plus_at nn hx) (PairsAt.fx (nkP K) (Same.fx (same_plus nn)) hp) }
    have Ga : GoAt P w K mg base (nkP K) (UP R row) (gdP R row) gf _ _ := {
      cal := Ca2
      fx := fun H H' s z => ⟨⟨lamO_fx s z.1.1, codeO_fx s z.1.2.1, z.1.2.2.fx s⟩, z.2.1.fx s, s _ _ z.2.2 True.intro⟩
      run := fun H v n Q z hv hn k => by
        obtain ⟨q, rfl, hq⟩ := hv
        have t := z.1.2.2
        refine ⟨r, ra, q, R, row, n, rfl, rfl, z.2.1.minus t, minus_at t z.2.2 fun _ y => (nomatch y), minus_at t hq fun _ y => (nomatch y), fun nn => ?_⟩
        exact k _ (same_plus_of t fun _ _ e => e) }
    have eG : (fun n => gdP R row n = true) = goalPage R row := funext fun n => propext (by
      unfold gdP goalPage
      rw [Bool.and_eq_true, decide_eq_true_iff, decide_eq_true_iff])
    refine ⟨bl, ff, gf, [.ref p], [(R.start, 0)], UP R row, SG, foPage R row, gdP R row, _, _, _, _, rfl, sp3 _ _ hbl3, .cons ⟨p, rfl, sp3 _ _ hp3⟩ .nil, by simp, fun n hn => ?_, by simp, Fo,
      ⟨⟨sp3 _ _ hff3, sp3 _ _ hc13, tracked_plus⟩, hR3.same sp3, sp3 _ _ hra3⟩, Ga, ⟨⟨sp3 _ _ hgff, sp3 _ _ hgc, tracked_plus⟩, hR3.same sp3, sp3 _ _ hra3⟩, few_page ok sm hrl, fun wd H' hl s => ?_, fun hno H' s => ?_⟩
    · rw [List.mem_singleton] at hn
      rw [hn]
      exact mem_UP.mpr ⟨ok.start, Nat.zero_le _⟩
    · have s' := same_minus_of nL s
      rw [eG] at hl
      exact k1 wd _ (hl.imp fun u => toGoal_page ok row u) (x03.trans (ExtN.of s')) (T3.ext s')
    · have s' := same_minus_of nL s
      rw [eG] at hno
      exact k2 (fun u e => hno u ((toGoal_page ok row u).mpr e)) _ (x03.trans (ExtN.of s')) (T3.ext s')
end
end K17
end TT3
section TV1
set_option Elab.async false
set_option linter.all false
set_option maxRecDepth 100000
set_option maxHeartbeats 4000000
/-! reached_states. -/
namespace K17
open PySem PySem.Spec PyProof.Rows L2
abbrev natsV (qs : List Nat) : List V := qs.map fun n : Nat => V.int (n : Int)
theorem natsV_app (a b : List Nat) : natsV (a ++ b) = natsV a ++ natsV b := List.map_append
theorem nats_of (ns : List Int) (h : ∀ i ∈ ns, ∃ n : Nat, i = (n : Int)) : ∃ qs : List Nat, ns = qs.map (fun n : Nat => (n : Int)) := by
  induction ns with
  | nil => exact ⟨[], rfl⟩
  | cons i ns ih =>
    obtain ⟨n, e⟩ := h i List.mem_cons_self
    obtain ⟨qs, e2⟩ := ih fun j hj => h j (List.mem_cons_of_mem _ hj)
    exact ⟨n :: qs, by rw [e, e2]; rfl⟩
theorem natsV_int (qs : List Nat) : (qs.map (fun n : Nat => (n : Int))).map V.int = natsV qs := by rw [List.map_map]; rfl
/-- sorted of different ones -/
theorem sorted_nats {ns' : List Int} {qs : List Nat} (h : ns'.Perm (qs.map fun n : Nat => (n : Int))) (hs : ns'.Pairwise (· ≤ ·)) (nd : qs.Nodup) : ∃ rs : List Nat, ns' = rs.map (fun n : Nat => (n : Int)) ∧ rs.Pairwise (· < ·) ∧ ∀ q, q ∈ rs ↔ q ∈ qs := by
  obtain ⟨rs, rfl⟩ := nats_of ns' fun i hi => let ⟨n, _, e⟩ := List.mem_map.mp (h.mem_iff.mp hi); ⟨n, e.symm⟩
  have inj : ∀ a b : Nat, (a : Int) = (b : Int) → a = b := natInt_inj
  have ndr : (rs.map fun n : Nat => (n : Int)).Nodup := h.nodup_iff.mpr (List.pairwise_map.mpr (nd.imp fun h e => h (inj _ _ e)))
  refine ⟨rs, rfl, ?_, fun q => ?_⟩
  · have p := (List.pairwise_and_iff.mpr ⟨hs, ndr⟩)
    rw [List.pairwise_map] at p
    exact p.imp fun {a b} ⟨x, y⟩ => by
      have : a ≠ b := fun z => y (by rw [z])
      omega
  · have := h.mem_iff (a := (q : Int))
    constructor
    · intro hq
      obtain ⟨n, hn, e⟩ := List.mem_map.mp (this.mp (List.mem_map_of_mem hq))
      exact inj _ _ e ▸ hn
    · intro hq
      obtain ⟨n, hn, e⟩ := List.mem_map.mp (this.mpr (List.mem_map_of_mem hq))
      exact inj _ _ e ▸ hn
def spReached (K : PySem.W.Frag) : Sp := fun vs H Q E => ∃ (r : Addr) (R : M) (SG : List Nat), vs = [.ref r] ∧ ReaderAt (RC K) H r R ∧ R.Ok ∧ Small R SG ∧
  ∀ p H' qs, H p = none → Same H H' → H' p = some (.tup (natsV qs)) → qs.Pairwise (· < ·) → (∀ q, q ∈ qs ↔ Reached R q) → Q (.ref p) H'
theorem scReached : FnScope ["reader", "found", "at", "goals", "sign", "goal"] ["reader"] (defScope (top 37)) := ⟨rfl, rfl, rfl, by decide +kernel, rfl, by decide +kernel, by decide +kernel⟩
section
variable {P : Program} {w : World} {K : PySem.W.Frag} {mg : Str → Option Value} {base : Heap}
theorem d_reached (T : Tx K mg) (X : Rx K mg) : Def P w K mg base CX0 2 "reached_states" ["reader"] (spReached K) := by
  have Go : Def P w K mg base CX0 1 "goals_of" ["reader", "state"] (spGoals K) := d_goals_of T X
  refine def_of T 20 37 ["reader", "found", "at", "goals", "sign", "goal"] rfl scReached (fun _ _ _ _ _ _ us hl => match us, hl with | [_], _ => rfl) (fun vs H Q E h => ?_) (fun f cdv A outer s H vs Q E hr h => ?_)
  · obtain ⟨r, R, SG, rfl, _⟩ := h; rfl
  · obtain ⟨r, R, SG, rfl, hR, ok, sm, k⟩ := h
    have nd := scReached.nd
    have hu := hu_of hr
    refine ⟨_, PSs.nox (pss_cons (ps_asg (pe_tup (pa_cons (pe_lst (pa1 (pe_fld (pv 0) rfl))) (pa1 pe_int))) (g := gTup K 2 (gCons (gName 1) (gCons (gName 2) gNil))) (pg_tup rfl (pgs_cons (pg_name (i := 1) nd rfl (Or.inr rfl)) (pgs_cons (pg_name (i := 2) nd rfl (Or.inl rfl)) pgs_nil))))
      (pss_cons (ps_while PassesOwn.never (pt_cmpR op_lt (pv 2) (pB T b_len call_len_seq (pa1 (pv 1))) (nomark _))
        (pss_cons (ps_set (i := 3) nd rfl (Or.inl rfl) (pB T b_sorted (cr_sortKI rfl) (pa1 (pT T b_set (cr_setL rfl) (pa1 (pe_lc (own := [("sign", 4), ("goal", 5)]) (g := gTup K 2 (gCons (gName 4) (gCons (gName 5) gNil))) (tt := tYes) rfl nd
            (pi_list (pd0 Go hr (pa_cons (pv 0) (pa1 (pe_ix ix_list (pv 1) (pv 2) (fun _ _ => rfl)))))) (blkOk_by (own := [("sign", 4), ("goal", 5)]) (N := ["reader", "found", "at", "goals", "sign", "goal"]) (sc := defScope (top 37)) (by decide +kernel))
            (fun _ _ _ _ _ => pg_tup rfl (pgs_cons (pg_name (i := 4) nd rfl (Or.inl rfl)) (pgs_cons (pg_name (i := 5) nd rfl (Or.inl rfl)) pgs_nil))) (fun _ _ _ _ _ => pts_nil) (fun _ _ _ _ _ => pv 5)))))))
        (pss_cons (ps_expr (pe_bm PySem.F.plainAttrs_list PySem.F.slot_list_extend PySem.F.type_list_extend mt_extend (pv 1) (pa1 (pe_lc (own := [("goal", 5)]) (g := gName 5) rfl nd (pi_list (pv 3)) (blkOk_by (own := [("goal", 5)]) (N := ["reader", "found", "at", "goals", "sign", "goal"]) (sc := defScope (top 37)) (by decide +kernel))
            (fun _ _ _ _ _ => pg_name (i := 5) nd rfl (Or.inl rfl)) (fun _ _ _ _ _ => pts_one (pt_cmpR (r := rIn K true) op_notIn_seq (pv 5) (pv 1) (by rfl))) (fun _ _ _ _ _ => pv 5)))))
        (pss_one (ps_aug (i := 2) nd rfl (Or.inl rfl) pe_int ip_add)))))
      (pss_one (ps_ret (pT T b_tuple call_tuple_of (pa1 (pB T b_sorted cr_sorted (pa1 (pv 1))))))))), ?_⟩
    obtain ⟨dx, rt, et, ds, h1, h2, h3, h4⟩ := hR.ex
    refine ⟨_, rfl, r, RC K, dx, _, _, rfl, h1, X.cls, X.nS, rfl, by show 1 ≤ sizeLine; decide, fun fl hfl => ⟨by show 2 ≤ sizeLine; decide, fun tp htp => ?_⟩⟩
    have s1 : Same H (upd H fl (.lst [.int (R.start : Int)])) := Same.new hfl
    have s2 := Same.new (o := .tup [.ref fl, .int 0]) htp
    refine ⟨tp, _, rfl, SqT.of upd_same, rfl, _, _, rfl, _, _, rfl, rfl, ?_⟩
    have hfl2 := s2 fl _ (show (upd H fl (.lst [.int (R.start : Int)])) fl = some (.lst (natsV [R.start])) from upd_same)
    have s02 := s1.trans s2
    generalize upd (upd H fl (.lst [.int (R.start : Int)])) tp (.tup [.ref fl, .int 0]) = H2 at hfl2 s02
    clear s2 htp s1
    have hlen := sm.rows
    have lenF : ∀ F : List Nat, F.Nodup → (∀ q ∈ F, Reached R q) → F.length ≤ R.rows.length := fun F nd h => by
      have := nodup_le nd (U := List.range R.rows.length) fun q hq => List.mem_range.mpr ((h q hq).lt ok)
      rw [List.length_range] at this
      exact this
    refine ⟨fun m σ Hx => ∃ (a : Nat) (F : List Nat) (u3 u4 u5 : Option V), m = R.rows.length + 1 - a ∧ Same H Hx ∧ Hx fl = some (.lst (natsV F)) ∧ F.Nodup ∧ (∀ q ∈ F, Reached R q) ∧ R.start ∈ F ∧ (∀ q ∈ F.take a, ∀ c g t, R.mv q c = some (g, t) → g ∈ F) ∧ a ≤ F.length ∧
        σ = [some (.ref r), some (.ref fl), some (.int (a : Int)), u3, u4, u5], ⟨_, 0, [R.start], none, none, none, rfl, s02, hfl2, by simp, fun q hq => by rw [List.mem_singleton] at hq; rw [hq]; exact reached_start R, by simp, fun q hq => by simp at hq, by simp, rfl⟩, ?_⟩
    rintro m σ Hx ⟨a, F, u3, u4, u5, rfl, sx, hfx, hF, hFr, hst, hcl, haF, rfl⟩
    have hFl := lenF F hF hFr
    refine ⟨_, rfl, _, rfl, fl, _, rfl, .inl (SqL.of hfx), _, _, rfl, rfl, ?_⟩
    rw [List.length_map]
    by_cases ha : a < F.length
    · obtain ⟨q, hq⟩ : ∃ q, F[a]? = some q := ⟨F[a], List.getElem?_eq_getElem ha⟩
      have hqr := hFr q (List.mem_of_getElem? hq)
      have hql := hqr.lt ok
      have hqv : (natsV F)[a]? = some (.int (q : Int)) := by rw [List.getElem?_map, hq]; rfl
      refine ⟨true, congrArg V.bl (decide_eq_true (by omega)), iteT ⟨fun σ Hx => ∃ (F : List Nat) (u3 u4 u5 : Option V), Same H Hx ∧ Hx fl = some (.lst (natsV F)) ∧ F.Nodup ∧ (∀ q ∈ F, Reached R q) ∧ R.start ∈ F ∧ (∀ q ∈ F.take (a + 1), ∀ c g t, R.mv q c = some (g, t) → g ∈ F) ∧ a + 1 ≤ F.length ∧
        σ = [some (.ref r), some (.ref fl), some (.int ((a + 1 : Nat) : Int)), u3, u4, u5], fun σ' H' ⟨F', v3, v4, v5, z⟩ => ⟨R.rows.length + 1 - (a + 1), by omega, a + 1, F', v3, v4, v5, rfl, z⟩, ?_⟩⟩
      -- goals
      have hRx := hR.same sx
      refine ⟨_, rfl, _, rfl, _, rfl, fl, _, (a : Int), _, rfl, rfl, SqL.of hfx, atI_nat hqv, r, R, q, rfl, hRx, hql, fun r hr => by have := sm.row r hr; omega, fun l H3 xs hl s3 hxs hps => ?_⟩
      refine ⟨l, rfl, ⟨xs, SqL.of hxs⟩, fun D hD => ?_⟩
      have hgl : (foAny R q).length ≤ 60 := by
        unfold foAny
        rw [List.length_map]
        unfold Rdr.row
        rw [List.getD_eq_getElem?_getD, List.getElem?_eq_getElem hql]
        exact sm.row _ (List.getElem_mem hql)
      have hxl : xs.length = (foAny R q).length := Paired.len hps
      refine lc_it (walk_list (xs := xs)) (fun j H4 => Same H3 H4 ∧ H4 D = some (.lst (natsV (((foAny R q).take j).map (·.2)))))
        ⟨Same.new hD, upd_same⟩ (fun j H4 _ hp => SqL.of (hp.1 _ _ hxs)) (fun j x H4 H5 hj hp hy => ?_) (fun H4 hp => ?_)
      · obtain ⟨s4, hd4⟩ := hp
        obtain ⟨rfl, hx⟩ := hy
        obtain ⟨⟨c, g⟩, hcg, p, v, rfl, hp, hv⟩ := Paired.get1 hps hx
        have hv : v = .int (g : Int) := hv
        subst hv
        refine ⟨p, _, rfl, SqT.of (s4 _ _ hp), rfl, _, _, rfl, _, _, rfl, rfl, rfl, ?_⟩
        refine ⟨_, rfl, _, hd4, ?_, Same.updN s4 hD, ?_⟩
        · rw [List.length_map, List.length_map, List.length_take]
          exact lt_line (by omega)
        · rw [upd_same, take_succ_of hcg, List.map_append, natsV_app]
          rfl
      · obtain ⟨s4, hd4⟩ := hp
        rw [hxl, List.take_length] at hd4
        have s34 := s3.trans s4
        refine ⟨D, ((foAny R q).map fun e => ((e.2 : Nat) : Int)).map Sum.inl, rfl, SqL.of ?_, ?_, fun sp c hc hsp => ?_⟩
        · rw [kV_ints, hd4, List.map_map]
          unfold natsV
          rw [List.map_map]
          rfl
        · rw [List.length_map, List.length_map]
          exact Nat.lt_of_le_of_lt (Nat.succ_le_succ hgl) (by decide)
        · rw [List.length_map, List.length_map] at hc
          refine ⟨sp, _, c, rfl, upd_same, by omega, fun k hk => ?_, fun ns gp hns hmem hnl hgp => ?_⟩
          · obtain ⟨i, _, e⟩ := List.mem_map.mp (of_decide_eq_true hk)
            exact ⟨i, e.symm⟩
          · have hmem2 : ∀ i : Int, i ∈ ns ↔ ∃ g : Nat, i = (g : Int) ∧ ∃ c t, R.mv q c = some (g, t) := fun i => by
              rw [hmem i, inl_mem, decide_eq_true_iff, List.mem_map]
              constructor
              · rintro ⟨⟨c, g⟩, he, rfl⟩
                obtain ⟨t, ht⟩ := (foAny_mem ok).mp he
                exact ⟨g, rfl, c, t, ht⟩
              · rintro ⟨g, rfl, c, t, ht⟩
                exact ⟨(c, g), (foAny_mem ok).mpr ⟨t, ht⟩, rfl⟩
            obtain ⟨gs, rfl⟩ := nats_of ns fun i hi => let ⟨g, e, _⟩ := (hmem2 i).mp hi; ⟨g, e⟩
            have hgs : ∀ g, g ∈ gs ↔ ∃ c t, R.mv q c = some (g, t) := fun g => by
              constructor
              · intro hg
                obtain ⟨g', e, z⟩ := (hmem2 (g : Int)).mp (List.mem_map_of_mem hg)
                rw [natInt_inj _ _ e]
                exact z
              · rintro ⟨c, t, z⟩
                obtain ⟨g', hg', e⟩ := List.mem_map.mp ((hmem2 (g : Int)).mpr ⟨g, rfl, c, t, z⟩)
                exact natInt_inj _ _ e ▸ hg'
            have hgsn : gs.Nodup := by
              rw [List.pairwise_map] at hns
              exact hns.imp fun {a b} h e => by rw [e] at h; exact Int.lt_irrefl _ h
            rw [List.length_map] at hnl
            obtain ⟨H5, e5⟩ : ∃ H5, H5 = (upd (upd H4 sp (SetK w sp (fun k => decide (k ∈ ((foAny R q).map fun e => ((e.2 : Nat) : Int)).map Sum.inl)) c)) gp (.lst ((gs.map fun n : Nat => (n : Int)).map V.int))) := ⟨_, rfl⟩
            have s5 : Same Hx H5 := by
              rw [e5]
              exact (s34.trans (Same.new hsp)).trans (Same.new hgp)
            have hgp5 : H5 gp = some (.lst (natsV gs)) := by rw [e5, upd_same, natsV_int]
            have hfx5 : H5 fl = some (.lst (natsV F)) := s5 _ _ hfx
            have goalE : ∀ {Pr : Hp → Prop}, Pr H5 → Pr (upd (upd H4 sp (SetK w sp (fun k => decide (k ∈ ((foAny R q).map fun e => ((e.2 : Nat) : Int)).map Sum.inl)) c)) gp (.lst ((gs.map fun n : Nat => (n : Int)).map V.int))) := fun {Pr} h => by rw [← e5]; exact h
            refine goalE (Pr := fun H5 => _) ?_
            refine ⟨_, rfl, .inl ⟨rfl, _, SqL.of hfx5⟩, _, rfl, gp, rfl, ⟨_, SqL.of hgp5⟩, fun D2 hD2 => ?_⟩
            refine lc_it (walk_list (xs := natsV gs)) (fun j H6 => Same H5 H6 ∧ H6 D2 = some (.lst (natsV ((gs.take j).filter fun g => decide (g ∉ F)))))
              ⟨Same.new hD2, upd_same⟩ (fun j H6 _ hp => SqL.of (hp.1 _ _ hgp5)) (fun j x H6 H7 hj hp hy => ?_) (fun H6 hp => ?_)
            · obtain ⟨s6, hd6⟩ := hp
              obtain ⟨rfl, hx⟩ := hy
              rw [List.getElem?_map] at hx
              cases hg : gs[j]? with
              | none => rw [hg] at hx; cases hx
              | some g =>
                rw [hg] at hx
                obtain rfl : V.int (g : Int) = x := Option.some.inj hx
                refine ⟨rfl, _, rfl, _, rfl, fl, _, rfl, .inl (SqL.of (s6 _ _ hfx5)), rfl, flat_ints F, ?_⟩
                rw [if_pos rfl, inV_ints, take_succ_of hg, List.filter_append]
                by_cases hgF : g ∈ F
                · rw [decide_eq_true hgF]
                  refine ⟨false, rfl, iteF ⟨s6, ?_⟩⟩
                  have : [g].filter (fun g => decide (g ∉ F)) = [] := by simp [hgF]
                  rw [this, List.append_nil]
                  exact hd6
                · rw [decide_eq_false hgF]
                  refine ⟨true, rfl, iteT ⟨_, rfl, _, hd6, ?_, Same.updN s6 hD2, ?_⟩⟩
                  · have h2 := List.length_filter_le (fun g => decide (g ∉ F)) (gs.take j)
                    rw [List.length_take] at h2
                    rw [List.length_map]
                    exact lt_line (by omega)
                  · have : [g].filter (fun g => decide (g ∉ F)) = [g] := by simp [hgF]
                    rw [this, upd_same, natsV_app]
                    rfl
            · obtain ⟨s6, hd6⟩ := hp
              rw [List.length_map, List.take_length] at hd6
              have hmem' : ∀ g, g ∈ F ++ gs.filter (fun g => decide (g ∉ F)) ↔ g ∈ F ∨ g ∈ gs := fun g => by
                rw [List.mem_append, List.mem_filter, decide_eq_true_iff]
                constructor
                · rintro (z | z)
                  · exact .inl z
                  · exact .inr z.1
                · rintro (z | z)
                  · exact .inl z
                  · by_cases y : g ∈ F
                    · exact .inl y
                    · exact .inr ⟨z, y⟩
              have hF'n : (F ++ gs.filter (fun g => decide (g ∉ F))).Nodup := by
                rw [List.nodup_append]
                refine ⟨hF, hgsn.filter _, fun x hx y hy e => ?_⟩
                rw [List.mem_filter, decide_eq_true_iff] at hy
                exact hy.2 (e ▸ hx)
              have hF'r : ∀ g ∈ F ++ gs.filter (fun g => decide (g ∉ F)), Reached R g := fun g hg => by
                rcases (hmem' g).mp hg with z | z
                · exact hFr g z
                · obtain ⟨c, t, ht⟩ := (hgs g).mp z
                  exact hqr.next ht
              have hF'l := lenF _ hF'n hF'r
              rw [List.length_append] at hF'l
              refine ⟨fl, D2, natsV F, _, rfl, rfl, s6 _ _ hfx5, hd6, ?_, _, rfl, _, _, rfl, rfl, F ++ gs.filter (fun g => decide (g ∉ F)), _, _, _, Same.updN (sx.trans (s5.trans s6)) hfl, ?_, hF'n, hF'r, (hmem' _).mpr (.inl hst), fun x hx => ?_, ?_, rfl⟩
              · rw [List.length_map, List.length_map]
                exact Nat.le_of_lt (lt_line (by omega))
              · rw [upd_same, natsV_app]
              · rw [List.take_append_of_le_length ha] at hx
                rw [take_succ_of hq] at hx
                intro c g t ht
                rcases List.mem_append.mp hx with z | z
                · exact (hmem' g).mpr (.inl (hcl x z c g t ht))
                · rw [List.mem_singleton] at z
                  subst z
                  exact (hmem' g).mpr (.inr ((hgs g).mpr ⟨c, t, ht⟩))
              · rw [List.length_append]
                omega
    · have haE : a = F.length := by omega
      subst haE
      rw [List.take_length] at hcl
      refine ⟨false, congrArg V.bl (decide_eq_false (by omega)), iteF ?_⟩
      refine ⟨_, rfl, fl, F.map (fun n : Nat => (n : Int)), rfl, SqL.of (by rw [natsV_int]; exact hfx), by rw [List.length_map]; omega, fun ns' gp hperm hsort hgp => ?_⟩
      obtain ⟨rs, rfl, hrs, hrm⟩ := sorted_nats hperm hsort hF
      have s5 : Same Hx (upd Hx gp (.lst ((rs.map fun n : Nat => (n : Int)).map V.int))) := Same.new hgp
      refine ⟨gp, _, rfl, .inl ⟨SqL.of upd_same, fun p hp => ?_⟩⟩
      refine k p _ rs (Same.free (sx.trans s5) hp) ((sx.trans s5).trans (Same.new hp)) (by rw [upd_same, natsV_int]) hrs fun q => ?_
      rw [hrm]
      exact ⟨hFr q, fun h => reached_all F hst hcl h⟩
end
end K17
end TV1
section TV2
set_option Elab.async false
set_option linter.all false
set_option maxRecDepth 100000
set_option maxHeartbeats 4000000
/-! ending_states. -/
namespace K17
open PySem PySem.Spec PyProof.Rows L2
/-- closed backwards -/
def ClosedB (R : M) (F : List Nat) : Prop := ∀ q c g t, R.mv q c = some (g, t) → g ∈ F → q ∈ F
def spEnding (K : PySem.W.Frag) : Sp := fun vs H Q E => ∃ (r : Addr) (R : M) (SG : List Nat), vs = [.ref r] ∧ ReaderAt (RC K) H r R ∧ R.Ok ∧ Small R SG ∧
  ∀ p H' qs, H p = none → Same H H' → H' p = some (.tup (natsV qs)) → qs.Pairwise (· < ·) → (∀ q, q ∈ qs ↔ CanEnd R q) → Q (.ref p) H'
theorem scEnding : FnScope ["reader", "found", "turn", "state", "sign", "goal"] ["reader"] (defScope (top 38)) := ⟨rfl, rfl, rfl, by decide +kernel, rfl, by decide +kernel, by decide +kernel⟩
section
variable {P : Program} {w : World} {K : PySem.W.Frag} {mg : Str → Option Value} {base : Heap}
theorem d_ending (T : Tx K mg) (X : Rx K mg) : Def P w K mg base CX0 3 "ending_states" ["reader"] (spEnding K) := by
  have Go : Def P w K mg base CX0 1 "goals_of" ["reader", "state"] (spGoals K) := d_goals_of T X
  refine def_of T 21 38 ["reader", "found", "turn", "state", "sign", "goal"] rfl scEnding (fun _ _ _ _ _ _ us hl => match us, hl with | [_], _ => rfl) (fun vs H Q E h => ?_) (fun f cdv A outer s H vs Q E hr h => ?_)
  · obtain ⟨r, R, SG, rfl, _⟩ := h; rfl
  · obtain ⟨r, R, SG, rfl, hR, ok, sm, k⟩ := h
    have nd := scEnding.nd
    have hu := hu_of hr
    refine ⟨_, PSs.nox (pss_cons (ps_set (i := 1) nd rfl (Or.inr rfl) (pT T b_list call_list_of (pa1 (pe_fld (pv 0) rfl))))
      (pss_cons (ps_for PassesOwn.never rfl (pi_range1 rfl (T.f "range") (pa1 (pB T b_len (cr_lenR rfl T X hr) (pa1 (pv 0))))) (g := gName 2) (pg_name (i := 2) nd rfl (Or.inl rfl))
        (pss_one (ps_for PassesOwn.never rfl (pi_range1 rfl (T.f "range") (pa1 (pB T b_len (cr_lenR rfl T X hr) (pa1 (pv 0))))) (g := gName 3) (pg_name (i := 3) nd rfl (Or.inl rfl))
          (pss_one (ps_if (PW.pt (pw_and (pt_cmpR op_notIn_seq (pv 3) (pv 1) (by rfl)) (pw_and1 (pt_val (pB T b_any (cr_any rfl) (pa1 (pe_lc (own := [("sign", 4), ("goal", 5)]) (g := gTup K 2 (gCons (gName 4) (gCons (gName 5) gNil))) (tt := tYes) rfl nd
              (pi_list (pd0 Go hr (pa_cons (pv 0) (pa1 (pv 3))))) (blkOk_by (own := [("sign", 4), ("goal", 5)]) (N := ["reader", "found", "turn", "state", "sign", "goal"]) (sc := defScope (top 38)) (by decide +kernel))
              (fun _ _ _ _ _ => pg_tup rfl (pgs_cons (pg_name (i := 4) nd rfl (Or.inl rfl)) (pgs_cons (pg_name (i := 5) nd rfl (Or.inl rfl)) pgs_nil))) (fun _ _ _ _ _ => pts_nil)
              (te := tOp (rIn K false) (tVar 5) (tVar 1)) (fun _ _ _ _ _ => pe_cmpR op_in_seq (pv 5) (pv 1) (by rfl)))))))))
            (pss_one (ps_expr (pe_bm PySem.F.plainAttrs_list PySem.F.slot_list_append PySem.F.type_list_append mt_append (pv 1) (pa1 (pv 3))))) pss_nil)))))
      (pss_one (ps_ret (pT T b_tuple call_tuple_of (pa1 (pB T b_sorted cr_sorted (pa1 (pv 1))))))))), ?_⟩
    obtain ⟨dx, rt, et, ds, h1, h2, h3, h4⟩ := hR.ex
    have h6 := sm.rows
    have lenF : ∀ F : List Nat, F.Nodup → (∀ q ∈ F, CanEnd R q ∧ q < R.rows.length) → F.length ≤ R.rows.length := fun F nd h => by
      have := nodup_le nd (U := List.range R.rows.length) fun q hq => List.mem_range.mpr (h q hq).2
      rw [List.length_range] at this
      exact this
    refine ⟨_, rfl, r, RC K, dx, _, _, rfl, h1, X.cls, X.nE, rfl, et, _, rfl, .inr (SqT.of h3), fun fl hfl => ?_⟩
    have s1 : Same H (upd H fl (.lst (natsV R.ends))) := Same.new hfl
    have hfl1 : (upd H fl (.lst (natsV R.ends))) fl = some (.lst (natsV R.ends)) := upd_same
    generalize upd H fl (.lst (natsV R.ends)) = H1 at s1 hfl1
    have small : ∀ n : Nat, n ≤ 6 → -(2 ^ 62 : Int) ≤ (n : Int) ∧ (n : Int) < 2 ^ 62 := fun n h => by omega
    refine ⟨_, rfl, r, R, rfl, hR.same s1, h6, (R.rows.length : Nat), rfl, (small _ h6).1, (small _ h6).2, ?_⟩
    refine for_it (walk_range (n := R.rows.length)) (fun i σ Hx => Same H Hx ∧ (∃ F, Hx fl = some (.lst (natsV F)) ∧ F.Nodup ∧ (∀ q ∈ F, CanEnd R q ∧ q < R.rows.length) ∧ (∀ e ∈ R.ends, e ∈ F) ∧ (ClosedB R F ∨ i ≤ F.length)) ∧
        ∃ u2 u3 u4 u5, σ = [some (.ref r), some (.ref fl), u2, u3, u4, u5])
      ⟨s1, ⟨R.ends, hfl1, ok.nd, fun q hq => ⟨canEnd_end hq, ok.ends q hq⟩, fun _ h => h, .inr (Nat.zero_le _)⟩, none, none, none, none, rfl⟩ (fun _ _ _ _ _ => trivial) (fun i x σ Hx Hx' hi hp hy => ?_) (fun σ Hx hp => ?_)
    · obtain ⟨sx, ⟨F0, hf0, n0, r0, e0, c0⟩, u2, u3, u4, u5, rfl⟩ := hp
      obtain ⟨rfl, rfl⟩ := hy
      refine ⟨_, rfl, r, R, rfl, hR.same sx, h6, (R.rows.length : Nat), rfl, (small _ h6).1, (small _ h6).2, ?_⟩
      refine for_it (walk_range (n := R.rows.length)) (fun j σ Hy => Same H Hy ∧ (∃ F, Hy fl = some (.lst (natsV F)) ∧ F.Nodup ∧ (∀ q ∈ F, CanEnd R q ∧ q < R.rows.length) ∧ (∀ e ∈ R.ends, e ∈ F) ∧
            ((F = F0 ∧ ∀ s, s < j → s ∈ F0 ∨ ∀ c g t, R.mv s c = some (g, t) → g ∉ F0) ∨ (F0.length < F.length ∧ ¬ ClosedB R F0))) ∧
          ∃ u2 u3 u4 u5, σ = [some (.ref r), some (.ref fl), u2, u3, u4, u5])
        ⟨sx, ⟨F0, hf0, n0, r0, e0, .inl ⟨rfl, fun s hs => absurd hs (Nat.not_lt_zero _)⟩⟩, _, _, _, _, rfl⟩ (fun _ _ _ _ _ => trivial) (fun j x σ Hy Hy' hj hp hy => ?_) (fun σ Hy hp => ?_)
      · obtain ⟨sy, ⟨F, hf, nF, rF, eF, cF⟩, v2, v3, v4, v5, rfl⟩ := hp
        obtain ⟨rfl, hx⟩ := hy
        obtain rfl : x = .int ((j : Nat) : Int) := by
          rw [hx]
          show V.int (0 + (j : Int)) = _
          rw [Int.zero_add]
        have hFl := lenF F nF rF
        refine ⟨_, rfl, _, rfl, fl, _, rfl, .inl (SqL.of hf), rfl, flat_ints F, ?_⟩
        rw [if_pos rfl, inV_ints]
        by_cases hjF : j ∈ F
        · rw [decide_eq_true hjF]
          refine ⟨false, rfl, iteF (iteF ⟨sy, ⟨F, hf, nF, rF, eF, ?_⟩, _, _, _, _, rfl⟩)⟩
          rcases cF with ⟨rfl, h⟩ | h
          · refine .inl ⟨rfl, fun s hs => ?_⟩
            by_cases e : s = j
            · exact .inl (e ▸ hjF)
            · exact h s (by omega)
          · exact .inr h
        · rw [decide_eq_false hjF]
          refine ⟨true, rfl, iteT ?_⟩
          refine ⟨_, rfl, _, rfl, r, R, j, rfl, hR.same sy, hj, fun r hr => by have := sm.row r hr; omega, fun l H3 xs hl s3 hxs hps => ?_⟩
          refine ⟨l, rfl, ⟨xs, SqL.of hxs⟩, fun D hD => ?_⟩
          have hgl : (foAny R j).length ≤ 60 := by
            unfold foAny
            rw [List.length_map]
            unfold Rdr.row
            rw [List.getD_eq_getElem?_getD, List.getElem?_eq_getElem hj]
            exact sm.row _ (List.getElem_mem hj)
          have hxl : xs.length = (foAny R j).length := Paired.len hps
          refine lc_it (walk_list (xs := xs)) (fun m H4 => Same H3 H4 ∧ H4 D = some (.lst ((((foAny R j).take m).map fun e => decide (e.2 ∈ F)).map V.bl)))
            ⟨Same.new hD, upd_same⟩ (fun m H4 _ hp => SqL.of (hp.1 _ _ hxs)) (fun m x H4 H5 hm hp hy => ?_) (fun H4 hp => ?_)
          · obtain ⟨s4, hd4⟩ := hp
            obtain ⟨rfl, hx⟩ := hy
            obtain ⟨⟨c, g⟩, hcg, p, v, rfl, hp, hv⟩ := Paired.get1 hps hx
            have hv : v = .int (g : Int) := hv
            subst hv
            refine ⟨p, _, rfl, SqT.of (s4 _ _ hp), rfl, _, _, rfl, _, _, rfl, rfl, rfl, ?_⟩
            refine ⟨_, rfl, _, rfl, fl, _, rfl, .inl (SqL.of (s4 _ _ (s3 _ _ hf))), rfl, flat_ints F, ?_⟩
            refine ⟨_, hd4, ?_, Same.updN s4 hD, ?_⟩
            · rw [List.length_map, List.length_map, List.length_take]
              exact lt_line (by omega)
            · rw [upd_same, take_succ_of hcg, List.map_append, List.map_append]
              congr 2
              show _ ++ [V.bl (inV _ _)] = _
              rw [inV_ints]
              rfl
          · obtain ⟨s4, hd4⟩ := hp
            rw [hxl, List.take_length] at hd4
            have sA := s3.trans s4
            have hf4 := sA _ _ hf
            refine ⟨D, (foAny R j).map fun e => decide (e.2 ∈ F), rfl, SqL.of hd4, ((foAny R j).map fun e => decide (e.2 ∈ F)).any id, rfl, ?_⟩
            by_cases hany : ((foAny R j).map fun e => decide (e.2 ∈ F)).any id = true
            · rw [hany]
              obtain ⟨b, hb, hb2⟩ := List.any_eq_true.mp hany
              obtain ⟨⟨c, g⟩, he, rfl⟩ := List.mem_map.mp hb
              have hgF : g ∈ F := of_decide_eq_true hb2
              obtain ⟨t, ht⟩ := (foAny_mem ok).mp he
              have hnd : (F ++ [j]).Nodup := by
                rw [List.nodup_append]
                exact ⟨nF, by simp, fun x hx y hy e => hjF (by rw [List.mem_singleton] at hy; rw [← hy, ← e]; exact hx)⟩
              refine iteT ⟨_, rfl, .inl ⟨rfl, _, SqL.of hf4⟩, _, rfl, fl, natsV F, _, rfl, rfl, hf4, by rw [List.length_map]; exact lt_line (by omega), Same.updN (sy.trans sA) hfl, ⟨F ++ [j], by rw [upd_same, natsV_app]; rfl, hnd, fun q hq => ?_, fun e he => List.mem_append_left _ (eF e he), ?_⟩, _, _, _, _, rfl⟩
              · rcases List.mem_append.mp hq with z | z
                · exact rF q z
                · rw [List.mem_singleton] at z
                  subst z
                  exact ⟨(rF g hgF).1.back ht, hj⟩
              · refine .inr ?_
                rw [List.length_append]
                rcases cF with ⟨rfl, h⟩ | h
                · exact ⟨Nat.lt_succ_self _, fun z => hjF (z j c g t ht hgF)⟩
                · exact ⟨Nat.lt_succ_of_lt h.1, h.2⟩
            · rw [Bool.not_eq_true] at hany
              rw [hany]
              refine iteF ⟨sy.trans sA, ⟨F, hf4, nF, rF, eF, ?_⟩, _, _, _, _, rfl⟩
              rcases cF with ⟨rfl, h⟩ | h
              · refine .inl ⟨rfl, fun s hs => ?_⟩
                by_cases e : s = j
                · subst e
                  refine .inr fun c g t ht hg => ?_
                  have := List.any_eq_false.mp hany (decide (g ∈ F)) (List.mem_map.mpr ⟨(c, g), (foAny_mem ok).mpr ⟨t, ht⟩, rfl⟩)
                  rw [decide_eq_true hg] at this
                  exact this rfl
                · exact h s (by omega)
              · exact .inr h
      · obtain ⟨sy, ⟨F, hf, nF, rF, eF, cF⟩, v2, v3, v4, v5, rfl⟩ := hp
        refine ⟨sy, ⟨F, hf, nF, rF, eF, ?_⟩, _, _, _, _, rfl⟩
        rcases cF with ⟨rfl, h⟩ | ⟨h1, h2⟩
        · refine .inl fun q c g t hm hg => ?_
          have hq : q < R.rows.length := (row_mem ((mv_iff ok _ _ _).mp hm)).1
          rcases h q hq with z | z
          · exact z
          · exact absurd hg (z c g t hm)
        · rcases c0 with z | z
          · exact absurd z h2
          · exact .inr (by omega)
    · obtain ⟨sx, ⟨F, hf, nF, rF, eF, cF⟩, v2, v3, v4, v5, rfl⟩ := hp
      have hFl := lenF F nF rF
      have hcl : ClosedB R F := by
        rcases cF with z | z
        · exact z
        · intro q c g t hm hg
          have hq : q < R.rows.length := (row_mem ((mv_iff ok _ _ _).mp hm)).1
          by_cases hqF : q ∈ F
          · exact hqF
          · have := nodup_le (L := q :: F) (U := List.range R.rows.length) (List.nodup_cons.mpr ⟨hqF, nF⟩) fun x hx => by
              rcases List.mem_cons.mp hx with y | y
              · rw [y]; exact List.mem_range.mpr hq
              · exact List.mem_range.mpr (rF x y).2
            rw [List.length_cons, List.length_range] at this
            omega
      refine ⟨_, rfl, fl, F.map (fun n : Nat => (n : Int)), rfl, SqL.of (by rw [natsV_int]; exact hf), by rw [List.length_map]; omega, fun ns' gp hperm hsort hgp => ?_⟩
      obtain ⟨rs, rfl, hrs, hrm⟩ := sorted_nats hperm hsort nF
      have s5 : Same Hx (upd Hx gp (.lst ((rs.map fun n : Nat => (n : Int)).map V.int))) := Same.new hgp
      refine ⟨gp, _, rfl, .inl ⟨SqL.of upd_same, fun p hp => ?_⟩⟩
      refine k p _ rs (Same.free (sx.trans s5) hp) ((sx.trans s5).trans (Same.new hp)) (by rw [upd_same, natsV_int]) hrs fun q => ?_
      rw [hrm]
      exact ⟨fun h => (rF q h).1, fun h => canEnd_all F eF hcl h⟩
end
end K17
end TV2
section TV3
set_option Elab.async false
set_option linter.all false
set_option maxRecDepth 100000
set_option maxHeartbeats 4000000
/-! useful_states; a tuple's index. -/
namespace K17
open PySem PySem.Spec PyProof.Rows L2 LamX
/-- a tuple made here, whole -/
def TupZ (H : Hp) (a : Addr) (ys : List V) : Prop := ∃ o, H a = some (.frz o (.tup ys)) ∧ o.dict = none ∧ o.cls = .type "tuple"
theorem TupZ.sq {K : PySem.W.Frag} {H : Hp} {a : Addr} {ys : List V} (h : TupZ H a ys) : SqT K H a ys := let ⟨o, e, _⟩ := h; .inl (.inr ⟨o, e⟩)
theorem TupZ.same {H H' : Hp} (s : Same H H') {a : Addr} {ys : List V} (h : TupZ H a ys) : TupZ H' a ys := let ⟨o, e, z⟩ := h; ⟨o, s _ _ e, z⟩
theorem TupZ.xt {H H' : Hp} (s : ExtN H H') {a : Addr} {ys : List V} (h : TupZ H a ys) : TupZ H' a ys := let ⟨o, e, z⟩ := h; ⟨o, s _ _ e fun _ z => (nomatch z), z⟩
def rTupZ (K : PySem.W.Frag) : List V → Hp → VK → Prop := fun xs H Q => ∃ (p : Addr) (ys : List V), xs = [.ref p] ∧ SqL K H p ys ∧ ∀ l H', H l = none → Same H H' → TupZ H' l ys → Q (.ref l) H'
section
variable {X : Cx}
theorem cr_tupZ : CallR X (.type "tuple") (rTupZ X.K) := by
  intro pins s σ H xs us Q I r h
  obtain ⟨p, ys, rfl, hq, q⟩ := h
  obtain ⟨u, rfl, rx⟩ := vals1 r
  cases rx
  obtain ⟨its, r', pl, hz⟩ := I.list hq
  have hlen := r'.length
  refine call_tuple_list pl.isList (fun h' kp => ?_) (by simp only [List.size_toArray] <;> omega)
  have I1 : Inv X pins σ H { s with heap := h' } := I.kept (t' := s.toks) kp
  have I2 : Inv X pins σ (upd H h'.objs.size (.frz ({ cls := .type "tuple", data := .seq its.toArray } : Obj) (.tup ys))) { s with heap := h'.push { cls := .type "tuple", data := .seq its.toArray } } :=
    I1.laid (t' := s.toks) (fun b o e => Heap.get?_push_of_some _ e) (Nat.le_refl _) ⟨Heap.get?_push_size _ rfl, (show ObjOk X.prog X.w _ _ _ (.tup ys) from ⟨hz, its, r', IsTup.new _ _⟩)⟩
  have hn := I1.hok.fresh (Nat.le_refl _)
  exact ⟨.ref h'.objs.size, _, I2, rfl, q _ _ hn (Same.new hn) ⟨_, upd_same, rfl, rfl⟩⟩
/-- a method of such a tuple -/
def tBMZ (r : V → List V → Hp → VK → Prop) (to : TE) (t : TA) : TE := fun σ H Q => to σ H fun x H1 => (∃ a ys, x = .ref a ∧ TupZ H1 a ys) ∧ t σ H1 fun xs H2 => r x xs H2 Q
theorem pe_bmZ {o e : Expr} {es : List Expr} {to : TE} {t : TA} {name : Str} {apos cpos : Pos} {id : String} {r : V → List V → Hp → VK → Prop} (slot : Slot "tuple" name id) (hty : typeOf (.builtin id) = pure (.type "method_descriptor")) (hm : MtR X id r) (ho : PE X o to) (ha : PA X (e :: es) t)
    (hbase : attributeBase o name X.env (eval o X.env) = eval o X.env := by rfl)
    (hfew : ((backTo cpos (starEach (e :: es) X.env)).all (fun x => !x.1) && (backToKw cpos (keywordEach [] X.env)).all (fun x => x.1.isSome)
      && decide ((e :: es).length + ([] : List Keyword).length + (if ([] : List Keyword).isEmpty then 0 else 1) < 30)) = true := by rfl)
    (hline : (apos.endLine == cpos.line) = true := by rfl) (hs : starEach (e :: es) X.env = (false, eval e X.env) :: starEach es X.env := by rfl) (hplain : (backTo cpos (starEach es X.env)).any (·.1) = false := by rfl) :
    PE X (.Call (.Attribute o name apos) (e :: es) [] cpos) (tBMZ r to t) := by
  refine ⟨fun pins s σ H Q I h => ?_⟩
  refine wpAny_Call_method_late hbase hfew hline rfl (thn (ho.run pins s σ H _ I h) fun v s1 ⟨x, H1, I1, r1, ty, q1⟩ => ?_)
  obtain ⟨a, ys, rfl, ob, hob, h1, h2⟩ := ty
  obtain rfl : v = Value.ref a := r1
  have ho : s1.heap.get? a = some ob := (I1.hok a _ hob).1
  refine ⟨"tuple", id, PySem.F.plainAttrs_tuple, slot, hty, ⟨ob, ho, h2⟩, fun a' e => by cases e; exact ⟨ob, ho, h1⟩, ?_⟩
  have hA := ha.run cpos pins s1 σ H1 _ I1 q1
  rw [hs] at hA ⊢
  refine Calls.callWith_builtin (by show (false || (backTo cpos (starEach es X.env)).any (·.1)) = false; rw [hplain] <;> rfl) (Calls.evalArgs_plain ?_)
  exact thn hA fun us s2 ⟨vs, H2, I2, r2, q2⟩ => hm pins s2 σ H2 (.ref a) vs _ us Q I2 rfl r2 q2
def rTupIdx (K : PySem.W.Frag) : V → List V → Hp → VK → Prop := fun x xs H Q => ∃ (p : Addr) (qs : List Nat) (q : Nat), x = .ref p ∧ xs = [.int (q : Int)] ∧ SqT K H p (natsV qs) ∧ q ∈ qs ∧ Q (.int ((qs.idxOf q : Nat) : Int)) H
theorem idx_cast (q : Nat) : ∀ qs : List Nat, (qs.map fun n : Nat => (n : Int)).idxOf (q : Int) = qs.idxOf q
  | [] => rfl
  | x :: qs => by
    rw [List.map_cons, List.idxOf_cons, List.idxOf_cons, idx_cast q qs]
    by_cases h : x = q
    · subst h
      simp
    · have h1 : (x == q) = false := by simpa using h
      have h2 : ((x : Int) == (q : Int)) = false := by simpa using fun z => h (natInt_inj _ _ z)
      rw [h1, h2]
theorem ints_are : ∀ {ns : List Int} {us : List Value}, Vals (ns.map V.int) us → IntsAre us ns
  | [], _, .nil => .nil
  | n :: ns, _, .cons r t => by
    obtain ⟨k, rfl⟩ := r
    exact .cons n k (ints_are t)
theorem mt_tupIdx : MtR X "tuple.index" (rTupIdx X.K) := by
  intro pins s σ H x xs v us Q I rx rs h
  obtain ⟨p, qs, q, rfl, rfl, hq, hy, k⟩ := h
  cases rx
  obtain ⟨u, rfl, t, rfl⟩ := vals1 rs
  obtain ⟨its, r, pl, hz⟩ := I.tuple hq
  rw [← natsV_int] at r
  refine SeqAt.tuple_index_ints (ns := qs.map fun n : Nat => (n : Int)) pl (ints_are r) (List.mem_map_of_mem hy) ?_
  rw [idx_cast]
  exact ⟨.int (qs.idxOf q : Nat), H, I.tok _, ⟨_, rfl⟩, k⟩
end
def spUseful (K : PySem.W.Frag) : Sp := fun vs H Q E => ∃ (r : Addr) (R : M) (SG : List Nat), vs = [.ref r] ∧ ReaderAt (RC K) H r R ∧ R.Ok ∧ Small R SG ∧
  ∀ p H' qs, H p = none → Same H H' → TupZ H' p (natsV qs) → qs.Pairwise (· < ·) → (∀ q, q ∈ qs ↔ Useful R q) → Q (.ref p) H'
theorem scUseful : FnScope ["reader", "can_end", "state"] ["reader"] (defScope (top 39)) := ⟨rfl, rfl, rfl, by decide +kernel, rfl, by decide +kernel, by decide +kernel⟩
section
variable {P : Program} {w : World} {K : PySem.W.Frag} {mg : Str → Option Value} {base : Heap}
theorem d_useful (T : Tx K mg) (X : Rx K mg) : Def P w K mg base CX0 4 "useful_states" ["reader"] (spUseful K) := by
  have En : Def P w K mg base CX0 3 "ending_states" ["reader"] (spEnding K) := d_ending T X
  have Re : Def P w K mg base CX0 2 "reached_states" ["reader"] (spReached K) := d_reached T X
  refine def_of T 22 39 ["reader", "can_end", "state"] rfl scUseful (fun _ _ _ _ _ _ us hl => match us, hl with | [_], _ => rfl) (fun vs H Q E h => ?_) (fun f cdv A outer s H vs Q E hr h => ?_)
  · obtain ⟨r, R, SG, rfl, _⟩ := h; rfl
  · obtain ⟨r, R, SG, rfl, hR, ok, sm, k⟩ := h
    have nd := scUseful.nd
    have hu := hu_of hr
    refine ⟨_, pss_cons (ps_set (i := 1) nd rfl (Or.inr rfl) (pd0 En hr (pa1 (pv 0))))
      (pss_one (ps_ret (pT T b_tuple cr_tupZ (pa1 (pe_lc (own := [("state", 2)]) (g := gName 2) (tt := tOr (tTest (tOp (rIn K false) (tVar 2) (tVar 1))) (tTest (tOp rEq (tVar 2) (tFld K (tVar 0) "own_start")))) rfl nd (pi_tup (pd0 Re hr (pa1 (pv 0)))) (blkOk_by (own := [("state", 2)]) (N := ["reader", "can_end", "state"]) (sc := defScope (top 39)) (by decide +kernel))
          (fun _ _ _ _ _ => pg_name (i := 2) nd rfl (Or.inl rfl)) (fun _ _ _ _ _ => pts_one (PW.pt (pw_or (pt_cmpR op_in_seq (pv 2) (pv 1) (by rfl)) (pw_or1 (pt_cmpR op_eq (pv 2) (pe_fld (pv 0) rfl) (by rfl)))))) (fun _ _ _ _ _ => pv 2)))))), ?_⟩
    refine ⟨_, rfl, r, R, SG, rfl, hR, ok, sm, fun p H1 es hp s1 hes hinc hmem => ?_⟩
    have hR1 := hR.same s1
    refine ⟨_, rfl, r, R, SG, rfl, hR1, ok, sm, fun p2 H2 qs hp2 s2 hqs hqinc hqmem => ?_⟩
    have hR2 := hR1.same s2
    obtain ⟨dx, rt, et, ds, h1, h2, h3, h4⟩ := hR2.ex
    have hes2 := s2 _ _ hes
    have hql : qs.length ≤ 6 := by
      have := nodup_le (hqinc.imp fun h => Nat.ne_of_lt h) (U := List.range R.rows.length) fun q hq => List.mem_range.mpr (((hqmem q).mp hq).lt ok)
      rw [List.length_range] at this
      have := sm.rows
      omega
    refine ⟨p2, rfl, ⟨_, SqT.of hqs⟩, fun D hD => ?_⟩
    refine lc_it (walk_tup (xs := natsV qs)) (fun j H3 => Same H2 H3 ∧ H3 D = some (.lst (natsV ((qs.take j).filter fun q => decide (q ∈ es) || decide (q = R.start)))))
      ⟨Same.new hD, upd_same⟩ (fun j H3 _ hp => SqT.of (hp.1 _ _ hqs)) (fun j x H3 H4 hj hp hy => ?_) (fun H3 hp => ?_)
    · obtain ⟨s3, hd3⟩ := hp
      obtain ⟨rfl, hx⟩ := hy
      rw [List.getElem?_map] at hx
      cases hq : qs[j]? with
      | none => rw [hq] at hx; cases hx
      | some q =>
        rw [hq] at hx
        obtain rfl : V.int (q : Int) = x := Option.some.inj hx
        have app : Same H2 (upd H4 D (.lst (natsV ((qs.take j).filter fun q => decide (q ∈ es) || decide (q = R.start)) ++ [V.int (q : Int)]))) := Same.updN s3 hD
        have ln : (natsV ((qs.take j).filter fun q => decide (q ∈ es) || decide (q = R.start))).length < sizeLine := by
          rw [List.length_map]
          have := List.length_filter_le (fun q => decide (q ∈ es) || decide (q = R.start)) (qs.take j)
          rw [List.length_take] at this
          exact lt_line (by omega)
        rw [take_succ_of hq, List.filter_append]
        have yes : (decide (q ∈ es) || decide (q = R.start)) = true → [q].filter (fun q => decide (q ∈ es) || decide (q = R.start)) = [q] := fun h => by rw [List.filter_cons, if_pos h]; rfl
        have no : (decide (q ∈ es) || decide (q = R.start)) = false → [q].filter (fun q => decide (q ∈ es) || decide (q = R.start)) = [] := fun h => by rw [List.filter_cons, h]; rfl
        refine ⟨rfl, _, rfl, _, rfl, p, _, rfl, .inr (SqT.of (s3 _ _ hes2)), rfl, flat_ints es, ?_⟩
        rw [if_neg Bool.false_ne_true, inV_ints]
        by_cases h1 : q ∈ es
        · rw [decide_eq_true h1]
          refine ⟨true, rfl, iteT (iteT ⟨_, rfl, _, hd3, ln, app, ?_⟩)⟩
          rw [yes (by rw [decide_eq_true h1]; rfl), upd_same, natsV_app]
          rfl
        · rw [decide_eq_false h1]
          refine ⟨false, rfl, iteF ?_⟩
          refine ⟨_, rfl, _, rfl, r, RC K, dx, _, _, rfl, s3 _ _ (by assumption), X.cls, X.nS, rfl, rfl, ?_⟩
          by_cases h2 : q = R.start
          · refine ⟨true, congrArg V.bl (decide_eq_true (by rw [h2])), iteT ⟨_, rfl, _, hd3, ln, app, ?_⟩⟩
            rw [yes (by rw [decide_eq_true h2, Bool.or_true]), upd_same, natsV_app]
            rfl
          · refine ⟨false, congrArg V.bl (decide_eq_false fun z => h2 (natInt_inj _ _ (V.int.inj z))), iteF ⟨s3, ?_⟩⟩
            rw [no (by rw [decide_eq_false h1, decide_eq_false h2]; rfl), List.append_nil]
            exact hd3
    · obtain ⟨s3, hd3⟩ := hp
      rw [List.length_map, List.take_length] at hd3
      refine ⟨D, _, rfl, SqL.of hd3, fun l H' hl s' hz => ?_⟩
      have sA := s1.trans (s2.trans s3)
      refine k l H' _ (Same.free sA hl) (sA.trans s') hz (hqinc.filter _) fun q => ?_
      rw [List.mem_filter, hqmem q, Bool.or_eq_true, decide_eq_true_iff, decide_eq_true_iff, hmem q]
      exact Iff.rfl
end
end K17
end TV3
section TV4
set_option Elab.async false
set_option linter.all false
set_option maxRecDepth 100000
set_option maxHeartbeats 4000000
/-! trimmed. -/
namespace K17
open PySem PySem.Spec PyProof.Rows L2 LamX
theorem krow_keys {H : Hp} : ∀ {nk : List (Key × V)} {r : Row Str}, KRow H nk r → nk.map (·.1) = r.map fun e => (Sum.inr (sg e.1) : Key)
  | _, _, .nil => rfl
  | _, _, .cons h t => by rw [List.map_cons, List.map_cons, krow_keys t, h.1]
theorem trim_mem {R : M} {kept : List Nat} {r : Row Str} (h : r ∈ (trim R kept).rows) : ∃ q ∈ kept, r = trimRow kept (R.row q) := by
  obtain ⟨q, hq, e⟩ := List.mem_map.mp h
  exact ⟨q, hq, e.symm⟩
theorem trim_ent {R : M} {kept : List Nat} {r : Row Str} (h : r ∈ (trim R kept).rows) {e : Nat × Nat × Option Str} (he : e ∈ r) : ∃ r0 ∈ R.rows, ∃ g, (e.1, g, e.2.2) ∈ r0 ∧ g ∈ kept ∧ e.2.1 = kept.idxOf g := by
  obtain ⟨q, hq, rfl⟩ := trim_mem h
  obtain ⟨c, j, t⟩ := e
  obtain ⟨g, h1, h2, h3⟩ := trimRow_mem.mp he
  exact ⟨R.row q, (row_mem h1).2, g, h1, h2, h3⟩
theorem kept_len {R : M} {kept : List Nat} (ok : R.Ok) (k : Kept R kept) : kept.length ≤ R.rows.length := by
  have := nodup_le k.nd (U := List.range R.rows.length) fun q hq => List.mem_range.mpr (((k.mem q).mp hq).1.lt ok)
  rw [List.length_range] at this
  exact this
theorem Fit.trim {R : M} (F : Fit R) {kept : List Nat} (k : Kept R kept) : Fit (trim R kept) where
  ok := trim_ok F.ok k
  six := by
    have := kept_len F.ok k
    have := F.six
    show (kept.map _).length ≤ 6
    rw [List.length_map]
    omega
  row := fun r hr e he => by
    obtain ⟨r0, h0, g, h1, h2, h3⟩ := trim_ent hr he
    obtain ⟨a, _, c⟩ := F.row r0 h0 _ h1
    refine ⟨a, ?_, c⟩
    rw [h3]
    show _ < (kept.map _).length
    rw [List.length_map]
    exact idx_lt h2
  sg := by
    obtain ⟨A, h1, h2⟩ := F.sg
    refine ⟨A, h1, fun c hc => ?_⟩
    obtain ⟨r, hr, hc⟩ := List.mem_flatMap.mp hc
    obtain ⟨e, he, rfl⟩ := List.mem_map.mp hc
    obtain ⟨r0, h0, g, h3, _⟩ := trim_ent hr he
    exact h2 _ (List.mem_flatMap.mpr ⟨r0, h0, List.mem_map.mpr ⟨_, h3, rfl⟩⟩)
  tx := by
    obtain ⟨A, h1, h2⟩ := F.tx
    refine ⟨A, h1, fun t ht => ?_⟩
    obtain ⟨r, hr, hc⟩ := List.mem_flatMap.mp ht
    obtain ⟨e, he, hte⟩ := List.mem_filterMap.mp hc
    obtain ⟨r0, h0, g, h3, _⟩ := trim_ent hr he
    exact h2 _ (List.mem_flatMap.mpr ⟨r0, h0, List.mem_filterMap.mpr ⟨_, h3, hte⟩⟩)
  mks := by
    obtain ⟨A, h1, h2⟩ := F.mks
    refine ⟨A, h1, fun t ht => ?_⟩
    obtain ⟨r, hr, hc⟩ := List.mem_flatMap.mp ht
    obtain ⟨e, he, hte⟩ := List.mem_filterMap.mp hc
    obtain ⟨r0, h0, g, h3, _⟩ := trim_ent hr he
    exact h2 _ (List.mem_flatMap.mpr ⟨r0, h0, List.mem_filterMap.mpr ⟨_, h3, hte⟩⟩)
theorem Fit.small {R : M} (F : Fit R) : ∃ SG, Small R SG := by
  obtain ⟨A, h1, h2⟩ := F.sg
  exact ⟨A, F.six, fun r hr => by have := F.rlen hr; omega, by omega, fun r hr e he => h2 _ (List.mem_flatMap.mpr ⟨r, hr, List.mem_map.mpr ⟨e, he, rfl⟩⟩), fun r hr e he t ht => (F.row r hr e he).2.2 t ht⟩
def spTrim (K : PySem.W.Frag) : Sp := fun vs H Q E => ∃ (r : Addr) (R : M), vs = [.ref r] ∧ ReaderAt (RC K) H r R ∧ Fit R ∧
  ∀ p x kp H' kept R', Same H H' → H' p = some (.tup [.ref x, .ref kp]) → ReaderAt (RC K) H' x R' → PermR (trim R kept) R' → TupZ H' kp (natsV kept) → kept.Pairwise (· < ·) → Kept R kept → Q (.ref p) H'
theorem scTrim : FnScope ["reader", "kept", "rows", "state", "row", "sign", "goal", "told", "ends"] ["reader"] (defScope (top 40)) := ⟨rfl, rfl, rfl, by decide +kernel, rfl, by decide +kernel, by decide +kernel⟩
section
variable {P : Program} {w : World} {K : PySem.W.Frag} {mg : Str → Option Value} {base : Heap}
theorem d_trimmed (T : Tx K mg) (X : Rx K mg) : Def P w K mg base CX0 9 "trimmed" ["reader"] (spTrim K) := by
  have Us : Def P w K mg base CX0 4 "useful_states" ["reader"] (spUseful K) := d_useful T X
  refine def_of T 23 40 ["reader", "kept", "rows", "state", "row", "sign", "goal", "told", "ends"] rfl scTrim (fun _ _ _ _ _ _ us hl => match us, hl with | [_], _ => rfl) (fun vs H Q E h => ?_) (fun f cdv A outer s H vs Q E hr h => ?_)
  · obtain ⟨r, R, rfl, _⟩ := h; rfl
  · obtain ⟨r, R, rfl, hR, F, k⟩ := h
    have nd := scTrim.nd
    have hu := hu_of hr
    refine ⟨_, PSs.nox (pss_cons (ps_set (i := 1) nd rfl (Or.inr rfl) (pd0 Us hr (pa1 (pv 0))))
      (pss_cons (ps_set (i := 2) nd rfl (Or.inl rfl) (pe_lst pa_nil))
      (pss_cons (ps_for PassesOwn.never rfl (pi_tup (pv 1)) (g := gName 3) (pg_name (i := 3) nd rfl (Or.inl rfl))
        (pss_cons (ps_set (i := 4) nd rfl (Or.inl rfl) (pe_ix ix_tup (pe_fld (pv 0) rfl) (pv 3) (fun _ _ => rfl)))
        (pss_one (ps_frz (ps_expr (pe_bm PySem.F.plainAttrs_list PySem.F.slot_list_append PySem.F.type_list_append mt_append (pv 2) (pa1 (pT T b_dict (r := rDictP K) (cr_dictP rfl rfl)
            (pa1 (pe_lc (own := [("sign", 5), ("goal", 6), ("told", 7)]) (g := gTup K 2 (gCons (gName 5) (gCons (gTup K 2 (gCons (gName 6) (gCons (gName 7) gNil))) gNil))) (tt := tTest (tOp (rIn K false) (tVar 6) (tVar 1)))
              (te := tTup (tCons (tVar 5) (tCons (tTup (tCons (tBMZ (rTupIdx K) (tVar 1) (tCons (tVar 6) tNil)) (tCons (tVar 7) tNil))) tNil))) rfl nd (pi_items (pv 4)) (blkOk_by (own := [("sign", 5), ("goal", 6), ("told", 7)]) (N := ["reader", "kept", "rows", "state", "row", "sign", "goal", "told", "ends"]) (sc := defScope (top 40)) (by decide +kernel))
              (fun _ _ _ _ _ => pg_tup rfl (pgs_cons (pg_name (i := 5) nd rfl (Or.inl rfl)) (pgs_cons (pg_tup rfl (pgs_cons (pg_name (i := 6) nd rfl (Or.inl rfl)) (pgs_cons (pg_name (i := 7) nd rfl (Or.inl rfl)) pgs_nil))) pgs_nil)))
              (fun _ _ _ _ _ => pts_one (pt_cmpR op_in_seq (pv 6) (pv 1) (by rfl)))
              (fun _ _ _ _ _ => pe_tup (pa_cons (pv 5) (pa1 (pe_tup (pa_cons (pe_bmZ PySem.F.slot_tuple_index PySem.F.type_tuple_index mt_tupIdx (pv 1) (pa1 (pv 6))) (pa1 (pv 7)))))))))))))))))
      (pss_cons (ps_setLc (i := 8) (own := [("state", 3)]) (g := gName 3) (tt := tTest (tOp (rIn K false) (tVar 3) (tVar 1))) (te := tBMZ (rTupIdx K) (tVar 1) (tCons (tVar 3) tNil)) rfl nd rfl rfl (sw_true rfl rfl rfl (by decide +kernel)) (pi_tup (pe_fld (pv 0) rfl)) (blkOk_by (own := [("state", 3)]) (N := ["reader", "kept", "rows", "state", "row", "sign", "goal", "told", "ends"]) (sc := defScope (top 40)) (by decide +kernel))
          (fun _ _ _ _ _ => pg_name (i := 3) nd rfl (Or.inl rfl)) (fun _ _ _ _ _ => pts_one (pt_cmpR op_in_seq (pv 3) (pv 1) (by rfl))) (fun _ _ _ _ _ => pe_bmZ PySem.F.slot_tuple_index PySem.F.type_tuple_index mt_tupIdx (pv 1) (pa1 (pv 3))))
      (pss_one (ps_ret (pe_tup (pa_cons (pe_reader T X hr (pa_cons (pv 2) (pa1 (pv 8))) (pk_cons (pe_bmZ PySem.F.slot_tuple_index PySem.F.type_tuple_index mt_tupIdx (pv 1) (pa1 (pe_fld (pv 0) rfl))) pk_nil)) (pa1 (pv 1)))))))))), ?_⟩
    obtain ⟨SG, sm⟩ := F.small
    have ok := F.ok
    refine ⟨_, rfl, r, R, SG, rfl, hR, ok, sm, fun kp H1 kept hkp s1 hkz hinc hmem => ?_⟩
    have kk : Kept R kept := ⟨hmem, hinc.imp fun h => Nat.ne_of_lt h⟩
    have hkl := kept_len ok kk
    have h6 := F.six
    refine ⟨Nat.zero_le _, fun rl hrl => ?_⟩
    have s2 : Same H1 (upd H1 rl (.lst [])) := Same.new hrl
    have hR1 := hR.same s1
    obtain ⟨dx, rt, et, ds0, h1, h2, h3, h4⟩ := hR1.ex
    refine ⟨_, rfl, kp, rfl, ⟨_, (hkz.same s2).sq⟩, ?_⟩
    refine for_it (walk_tup (xs := natsV kept)) (fun i σ Hx => Same H1 Hx ∧ (∃ ds : List Addr, Hx rl = some (.lst (ds.map V.ref)) ∧ RowsAt Hx ds ((kept.take i).map fun q => trimRow kept (R.row q))) ∧
        ∃ u3 u4 u5 u6 u7, σ = [some (.ref r), some (.ref kp), some (.ref rl), u3, u4, u5, u6, u7, none])
      ⟨s2, ⟨[], upd_same, .nil⟩, none, none, none, none, none, rfl⟩ (fun i σ Hx _ hp => (hkz.same hp.1).sq) (fun i x σ Hx Hx' hi hp hy => ?_) (fun σ Hx hp => ?_)
    · obtain ⟨sx, ⟨ds, hds, hrows⟩, u3, u4, u5, u6, u7, rfl⟩ := hp
      obtain ⟨rfl, hx⟩ := hy
      rw [List.getElem?_map] at hx
      cases hq : kept[i]? with
      | none => rw [hq] at hx; cases hx
      | some q =>
        rw [hq] at hx
        obtain rfl : V.int (q : Int) = x := Option.some.inj hx
        have hqk := List.mem_of_getElem? hq
        have hql := ((kk.mem q).mp hqk).1.lt ok
        obtain ⟨d, row, hd1, hd2, o, kvs, hd3, hk⟩ := row_at (RowsAt.same sx h4) hql
        have hdv : (ds0.map V.ref)[q]? = some (.ref d) := by rw [List.getElem?_map, hd1]; rfl
        have hrow : R.row q = row := by
          unfold Rdr.row
          rw [List.getD_eq_getElem?_getD, hd2]
          rfl
        have hrm := List.mem_of_getElem? hd2
        have hrl6 := F.rlen hrm
        have hkzx := hkz.same sx
        refine ⟨_, rfl, r, RC K, dx, _, _, rfl, sx _ _ h1, X.cls, X.nR, rfl, _, rfl, rt, _, (q : Int), _, rfl, rfl, SqT.of (sx _ _ h2), atI_nat hdv, ?_⟩
        refine ⟨_, rfl, .inl ⟨rfl, _, SqL.of hds⟩, ?_⟩
        refine ⟨_, rfl, d, o, kvs, rfl, hd3, fun D hD => ?_⟩
        refine lc_it (row_items hk) (fun j H3 => Same Hx' H3 ∧ ∃ (ps : List Addr) (nk : List (Key × V)), H3 D = some (.lst (ps.map V.ref)) ∧ Paired (fun p (kv : Key × V) => H3 p = some (.tup [kV kv.1, kv.2])) ps nk ∧ KRow H3 nk (trimRow kept (row.take j)))
          ⟨Same.new hD, [], [], upd_same, .nil, .nil⟩ (fun j H3 _ hp => hp.1 _ _ hd3) (fun j x H3 H4 hj hp hy => ?_) (fun H3 hp => ?_)
        · obtain ⟨s3, ps, nk, hps, hpn, hnk⟩ := hp
          obtain ⟨T1, e, m, he, rfl, hT1, rfl, hm⟩ := hy
          obtain ⟨c, g, t⟩ := e
          have s4 : Same H3 (upd H3 T1 (.tup [.str (sg c), .ref m])) := Same.new hT1
          have s34 := s3.trans s4
          refine ⟨T1, _, rfl, SqT.of upd_same, rfl, _, _, rfl, _, _, rfl, m, _, rfl, SqT.of (s34 _ _ hm), rfl, _, _, rfl, _, _, rfl, rfl, rfl, rfl, ?_⟩
          have hkz4 := hkzx.same s34
          have tk : trimRow kept (row.take (j + 1)) = trimRow kept (row.take j) ++ (if g ∈ kept then [(c, kept.idxOf g, t)] else []) := by
            unfold trimRow
            rw [take_succ_of he, List.filterMap_append]
            congr 1
            by_cases hg : g ∈ kept
            · rw [if_pos hg]
              simp [hg]
            · rw [if_neg hg]
              simp [hg]
          refine ⟨_, rfl, _, rfl, kp, _, rfl, .inr hkz4.sq, rfl, flat_ints kept, ?_⟩
          rw [if_neg Bool.false_ne_true, inV_ints]
          by_cases hg : g ∈ kept
          · rw [decide_eq_true hg]
            refine ⟨true, rfl, iteT ?_⟩
            refine ⟨_, rfl, _, rfl, ⟨kp, _, rfl, hkz4⟩, _, rfl, kp, kept, g, rfl, rfl, hkz4.sq, hg, _, rfl, by show 2 ≤ sizeLine; decide, fun m' hm' => ⟨by show 2 ≤ sizeLine; decide, fun p hp => ?_⟩⟩
            have s5 := Same.new (o := .tup [.int ((kept.idxOf g : Nat) : Int), toldV t]) hm'
            have s6 := Same.new (o := .tup [.str (sg c), .ref m']) hp
            have sA := s4.trans (s5.trans s6)
            have hmp : m' ≠ p := fun z => by rw [← z, upd_same] at hp; cases hp
            have hpD : p ≠ D := fun z => by
              rw [z, s5 _ _ (s4 _ _ hps)] at hp
              cases hp
            have hmD : m' ≠ D := fun z => by
              rw [z, s4 _ _ hps] at hm'
              cases hm'
            have hpl : ps.length ≤ 60 := by
              have e1 : ps.length = nk.length := Paired.len hpn
              have e2 : nk.length = (trimRow kept (row.take j)).length := Paired.len hnk
              have e3 : (trimRow kept (row.take j)).length ≤ (row.take j).length := List.length_filterMap_le _ _
              rw [List.length_take] at e3
              omega
            refine ⟨_, sA _ _ hps, by rw [List.length_map]; exact lt_line (by omega), Same.updN (s3.trans sA) hD, ps ++ [p], nk ++ [(Sum.inr (sg c), .ref m')], by rw [upd_same, List.map_append]; rfl, ?_, ?_⟩
            · have fx := (Same.fx sA).trans (Fx.put (o := .lst (ps.map V.ref ++ [V.ref p])) (sA _ _ hps) id)
              refine Paired.app (Paired.mapP hpn fun _ _ z => fx _ _ z trivial) (.cons ?_ .nil)
              rw [upd_ne hpD, upd_same]
              rfl
            · have fx := (Same.fx sA).trans (Fx.put (o := .lst (ps.map V.ref ++ [V.ref p])) (sA _ _ hps) id)
              rw [tk, if_pos hg]
              refine Paired.app (KRow.fx fx hnk) (.cons ⟨rfl, m', rfl, ?_⟩ .nil)
              show (upd _ _ _) m' = _
              rw [upd_ne hmD, upd_ne hmp, upd_same]
          · rw [decide_eq_false hg]
            refine ⟨false, rfl, iteF ⟨s34, ps, nk, s4 _ _ hps, Paired.mapP hpn fun _ _ z => s4 _ _ z, ?_⟩⟩
            rw [tk, if_neg hg, List.append_nil]
            exact hnk.same s4
        · obtain ⟨s3, ps, nk, hps, hpn, hnk⟩ := hp
          rw [List.take_length] at hnk
          have hm : mergeK [] nk = nk := by
            rw [merge_nd]
            · rfl
            · rw [List.nil_append]
              have e1 := krow_keys hnk
              rw [e1]
              have n1 := trimRow_keys (kept := kept) (ok.keys row hrm)
              rw [List.nodup_iff_pairwise_ne, List.pairwise_map] at n1
              rw [List.nodup_iff_pairwise_ne, List.pairwise_map]
              exact n1.imp fun h z => h (sg_inj (Sum.inr.inj z))
          refine ⟨D, ps, nk, rfl, SqL.of hps, Paired.mapP hpn fun _ _ z => SqT.of z, fun e he => ?_⟩
          rw [hm]
          have s4 : Same H3 (upd H3 e (.dK nk)) := Same.new he
          have hdl : ds.length = ((kept.take i).map fun q => trimRow kept (R.row q)).length := Paired.len hrows
          rw [List.length_map, List.length_take] at hdl
          have hds4 := s4 _ _ (s3 _ _ hds)
          have her : e ≠ rl := fun z => by
            rw [z, s3 _ _ hds] at he
            cases he
          refine ⟨rl, ds.map V.ref, .ref e, rfl, rfl, hds4, by rw [List.length_map]; exact lt_line (by omega), [e], .dK nk, by rw [upd_ne her, upd_same], trivial, fun od => ?_⟩
          have hxe : Hx' e = none := Same.free s3 he
          have kz : ∀ b u, b ≠ rl → Hx' b = some u → (upd (upd (upd H3 e (.dK nk)) rl (.lst (ds.map V.ref ++ [V.ref e]))) e (.frz od (.dK nk))) b = some u := fun b u n hb => by
            rw [upd_ne (ne_of_none hb hxe), upd_ne n, upd_ne (ne_of_none hb hxe)]
            exact s3 _ _ hb
          have fx : Fx Hx' (upd (upd (upd H3 e (.dK nk)) rl (.lst (ds.map V.ref ++ [V.ref e]))) e (.frz od (.dK nk))) := fun b u hb f => kz b u (fun z => by
            rw [z, hds] at hb
            cases hb
            exact f) hb
          have fx3 : ∀ b u, H3 b = some u → Fixd u → (upd (upd (upd H3 e (.dK nk)) rl (.lst (ds.map V.ref ++ [V.ref e]))) e (.frz od (.dK nk))) b = some u := fun b u hb f => by
            have hbe := ne_of_none hb he
            have hbr : b ≠ rl := fun z => by
              rw [z, s3 _ _ hds] at hb
              cases hb
              exact f
            rw [upd_ne hbe, upd_ne hbr, upd_ne hbe]
            exact hb
          refine ⟨fun b u hb => kz b u (ne_of_none hb hrl) (sx b u hb), ⟨ds ++ [e], ?_, ?_⟩, _, _, _, _, _, rfl⟩
          · rw [upd_ne her.symm, upd_same, List.map_append]
            rfl
          · rw [take_succ_of hq, List.map_append]
            refine Paired.app (RowsAt.fx fx hrows) (.cons ⟨od, nk, upd_same, ?_⟩ .nil)
            show KRow _ nk (trimRow kept (R.row q))
            rw [hrow]
            exact KRow.fx fx3 hnk
    · obtain ⟨sx, ⟨ds, hds, hrows⟩, u3, u4, u5, u6, u7, rfl⟩ := hp
      rw [List.length_map, List.take_length] at hrows
      refine ⟨_, rfl, r, RC K, dx, _, _, rfl, sx _ _ h1, X.cls, X.nE, rfl, et, rfl, ⟨_, SqT.of (sx _ _ h3)⟩, fun D hD => ?_⟩
      have hel : R.ends.length ≤ 6 := by
        have := nodup_le ok.nd (U := List.range R.rows.length) fun q hq => List.mem_range.mpr (ok.ends q hq)
        rw [List.length_range] at this
        omega
      refine lc_it (walk_tup (xs := natsV R.ends)) (fun j H5 => Same Hx H5 ∧ H5 D = some (.lst (natsV (((R.ends.take j).filter fun e => decide (e ∈ kept)).map fun e => kept.idxOf e))))
        ⟨Same.new hD, upd_same⟩ (fun j H5 _ hp => SqT.of (hp.1 _ _ (sx _ _ h3))) (fun j x H5 H6 hj hp hy => ?_) (fun H5 hp => ?_)
      · obtain ⟨s5, hd5⟩ := hp
        obtain ⟨rfl, hx⟩ := hy
        rw [List.getElem?_map] at hx
        cases hq : R.ends[j]? with
        | none => rw [hq] at hx; cases hx
        | some q =>
          rw [hq] at hx
          obtain rfl : V.int (q : Int) = x := Option.some.inj hx
          have hkz6 := hkz.same (sx.trans s5)
          refine ⟨rfl, _, rfl, _, rfl, kp, _, rfl, .inr hkz6.sq, rfl, flat_ints kept, ?_⟩
          rw [if_neg Bool.false_ne_true, inV_ints, take_succ_of hq, List.filter_append]
          by_cases hqk : q ∈ kept
          · rw [decide_eq_true hqk]
            have : [q].filter (fun e => decide (e ∈ kept)) = [q] := by simp [hqk]
            rw [this]
            refine ⟨true, rfl, iteT ⟨_, rfl, ⟨kp, _, rfl, hkz6⟩, _, rfl, kp, kept, q, rfl, rfl, hkz6.sq, hqk, _, hd5, ?_, Same.updN s5 hD, ?_⟩⟩
            · have := List.length_filter_le (fun e => decide (e ∈ kept)) (R.ends.take j)
              rw [List.length_take] at this
              rw [List.length_map, List.length_map]
              exact lt_line (by omega)
            · rw [upd_same, List.map_append, natsV_app]
              rfl
          · rw [decide_eq_false hqk]
            have : [q].filter (fun e => decide (e ∈ kept)) = [] := by simp [hqk]
            rw [this, List.append_nil]
            exact ⟨false, rfl, iteF ⟨s5, hd5⟩⟩
      · obtain ⟨s5, hd5⟩ := hp
        rw [List.length_map, List.take_length] at hd5
        have sA := sx.trans s5
        have hkz5 := hkz.same sA
        refine ⟨_, rfl, _, rfl, _, rfl, ⟨kp, _, rfl, hkz5⟩, _, rfl, r, RC K, dx, _, _, rfl, sA _ _ h1, X.cls, X.nS, rfl, kp, kept, R.start, rfl, rfl, hkz5.sq, kk.start, ?_⟩
        refine tNil_of (H := H5) ?_
        refine ⟨rfl, rfl, fun x dx' hx hdx hne => ?_⟩
        have sn : Same H5 (upd (upd H5 dx' (.own x)) x (.ins (RC K) dx' [])) := Same.updN (Same.new hdx) hx
        refine ⟨x, dx', rl, D, ds, trim R kept, rfl, upd_same, .inl (sn _ _ (s5 _ _ hds)), RowsAt.same (s5.trans sn) hrows, .inl (sn _ _ hd5), F.trim kk, fun H' R' ho hR' hp' => ⟨rfl, ?_⟩⟩
        have s' : Same H5 H' := fun q o e => ho q o (ne_of_none e hx) (sn q o e)
        refine ⟨_, rfl, by show 2 ≤ sizeLine; decide, fun p hp => ?_⟩
        have sp : Same H' (upd H' p (.tup [.ref x, .ref kp])) := Same.new hp
        exact k p x kp _ kept R' ((s1.trans sA).trans (s'.trans sp)) upd_same (hR'.same sp) hp' (hkz5.same (s'.trans sp)) hinc kk
end
end K17
end TV4
section TW1
set_option Elab.async false
set_option linter.all false
set_option maxRecDepth 100000
set_option maxHeartbeats 4000000
/-! The law's draws. -/
namespace K17
open PySem PySem.Spec PyProof.Rows L2 LamX
def RngAt (H : Hp) (g : Addr) : Prop := ∃ a b : Int, H g = some (.lst [.int a, .int b])
/-- what one draw leaves -/
structure Dr (g : Addr) (H H' : Hp) : Prop where
  but : ButD g H H'
  rng : RngAt H' g
theorem RngAt.same {H H' : Hp} {g : Addr} (h : RngAt H g) (s : Same H H') : RngAt H' g := let ⟨a, b, e⟩ := h; ⟨a, b, s _ _ e⟩
theorem Dr.refl {H : Hp} {g : Addr} (h : RngAt H g) : Dr g H H := ⟨fun _ _ _ e => e, h⟩
theorem Dr.of {H H' : Hp} {g : Addr} (h : RngAt H g) (s : Same H H') : Dr g H H' := ⟨fun b u _ e => s b u e, h.same s⟩
theorem Dr.trans {H H' H2 : Hp} {g : Addr} (a : Dr g H H') (b : Dr g H' H2) : Dr g H H2 := ⟨fun c u n e => b.but c u n (a.but c u n e), b.rng⟩
theorem Dr.fx {H H' : Hp} {g : Addr} (d : Dr g H H') (h : RngAt H g) : Fx H H' := d.but.fx (let ⟨_, _, e⟩ := h; ⟨_, e, id⟩)
theorem Dr.free {H H' : Hp} {g b : Addr} (d : Dr g H H') (h : H' b = none) : H b = none := d.but.free (by obtain ⟨x, y, e⟩ := d.rng; rw [e]; exact fun z => nomatch z) h
theorem Dr.keep {H H' : Hp} {g b : Addr} {u : HO} (d : Dr g H H') (n : b ≠ g) (e : H b = some u) : H' b = some u := d.but b u n e
/-- .. and a new thing -/
theorem Dr.new {H H' : Hp} {g p : Addr} {o : HO} (d : Dr g H H') (h : H' p = none) : Dr g H (upd H' p o) := d.trans (Dr.of d.rng (Same.new h))
/-- .. a thing that wasn't there at first is changed -/
theorem Dr.upd {H H' : Hp} {g p : Addr} {o : HO} (d : Dr g H H') (h : H p = none) (hp : p ≠ g) : Dr g H (L2.upd H' p o) := ⟨fun b u n e => by
  rw [upd_ne (ne_of_none e h)]
  exact d.but b u n e, let ⟨x, y, e⟩ := d.rng; ⟨x, y, by rw [upd_ne hp.symm]; exact e⟩⟩
section
variable {P : Program} {w : World} {K : PySem.W.Frag} {mg : Str → Option Value} {base : Heap}
def spDraw : Sp := fun vs H Q E => ∃ (g : Addr) (many : Nat), vs = [.ref g, .int (many : Int)] ∧ RngAt H g ∧ 0 < many ∧ many < 1000 ∧ ∀ d H', d < many → Dr g H H' → Q (.int ((d : Nat) : Int)) H'
theorem scDraw : FnScope ["_law_rng_here", "_law_many", "_law_digit"] ["_law_rng_here", "_law_many"] (defScope (top 43)) := ⟨rfl, rfl, rfl, by decide +kernel, rfl, by decide +kernel, by decide +kernel⟩
theorem d_draw (T : Tx K mg) : Def P w K mg base CX0 1 "_law_draw" ["_law_rng_here", "_law_many"] spDraw := by
  refine def_of T 25 43 ["_law_rng_here", "_law_many", "_law_digit"] rfl scDraw (fun _ _ _ _ _ _ us hl => match us, hl with | [_, _], _ => rfl) (fun vs H Q E h => ?_) (fun f cdv A outer s H vs Q E hr h => ?_)
  · obtain ⟨g, many, rfl, _⟩ := h; rfl
  · obtain ⟨g, many, rfl, ⟨a, b, hg⟩, hm0, hm1, k⟩ := h
    have nd := scDraw.nd
    refine ⟨_, pss_cons (ps_if (pt_cmpR op_gt (pe_ix ix_list (pv 0) pe_int (fun _ _ => rfl)) pe_int (nomark _))
        (pss_cons (ps_asg (pB T b_divmod call_divmod (pa_cons (pe_ix ix_list (pv 0) pe_int (fun _ _ => rfl)) (pa1 (pv 1)))) (g := gTup K 2 (gCons (gSub (tVar 0) (tC (.int 0)) L2.rSetL) (gCons (gName 2) gNil))) (pg_tup rfl (pgs_cons (pg_sub (pv 0) pe_int set_list) (pgs_cons (pg_name (i := 2) nd rfl (Or.inl rfl)) pgs_nil))))
        (pss_one (ps_ret (pv 2)))) pss_nil)
      (pss_cons (ps_asg (pe_op op_mod (pT T b_int call_int1 (pa1 (pe_op op_add (pe_op op_mul (pe_ix ix_list (pv 0) pe_int (fun _ _ => rfl)) pe_int) pe_int))) pe_int) (pg_sub (pv 0) pe_int set_list))
      (pss_one (ps_ret (pe_op op_mod (pe_op op_fdiv (pe_op op_mod (pT T b_int call_int1 (pa1 (pe_op op_mul (pe_ix ix_list (pv 0) pe_int (fun _ _ => rfl)) (pe_ix ix_list (pv 0) pe_int (fun _ _ => rfl))))) pe_int) pe_int) (pv 1))))), ?_⟩
    have i0 : ∀ x y : Int, atI [V.int x, V.int y] 0 = some (.int x) := fun _ _ => rfl
    have i1 : ∀ x y : Int, atI [V.int x, V.int y] 1 = some (.int y) := fun _ _ => rfl
    refine ⟨_, rfl, g, _, (0 : Int), _, rfl, rfl, SqL.of hg, i0 a b, _, _, rfl, rfl, ?_⟩
    by_cases ha : a > 0
    · refine ⟨true, congrArg V.bl (decide_eq_true ha), iteT ?_⟩
      refine ⟨_, rfl, g, _, (0 : Int), _, rfl, rfl, SqL.of hg, i0 a b, _, rfl, a, (many : Int), rfl, ⟨by omega, by omega⟩, fun p hp => ?_⟩
      have s1 : Same H (upd H p (.tup [.int (a / (many : Int)), .int (a % (many : Int))])) := Same.new hp
      refine ⟨p, _, rfl, SqT.of upd_same, rfl, _, _, rfl, _, rfl, g, _, (0 : Int), 0, rfl, rfl, s1 _ _ hg, rfl, _, _, rfl, rfl, ?_⟩
      obtain ⟨d, hd⟩ : ∃ d : Nat, a % (many : Int) = (d : Int) := ⟨(a % (many : Int)).toNat, (Int.toNat_of_nonneg (Int.emod_nonneg _ (by omega))).symm⟩
      have hdl : d < many := by
        have := Int.emod_lt_of_pos a (show (0 : Int) < many by omega)
        omega
      refine ⟨_, rfl, ?_⟩
      rw [hd]
      refine k d _ hdl ⟨fun c u n e => ?_, _, _, upd_same⟩
      rw [upd_ne n]
      exact Same.new hp _ _ e
    · refine ⟨false, congrArg V.bl (decide_eq_false ha), iteF ?_⟩
      refine ⟨_, rfl, g, _, (1 : Int), _, rfl, rfl, SqL.of hg, i1 a b, _, _, rfl, rfl, .inr ⟨by decide, by decide⟩, _, _, rfl, rfl, .inl ⟨_, rfl, _, _, rfl, rfl, (by decide : (0 : Int) < 2147483563), _, rfl, g, _, (1 : Int), 1, rfl, rfl, hg, rfl, ?_⟩⟩
      dsimp only
      have hb0 := Int.emod_nonneg (b * 39373 + 30011) (show (2147483563 : Int) ≠ 0 by decide)
      have hb1 := Int.emod_lt_of_pos (b * 39373 + 30011) (show (0 : Int) < 2147483563 by decide)
      generalize (b * 39373 + 30011) % 2147483563 = c at hb0 hb1
      have hg2 : (upd H g (.lst ([V.int a, V.int b].set 1 (.int c)))) g = some (.lst [V.int a, V.int c]) := upd_same
      have hd : Dr g H (upd H g (.lst ([V.int a, V.int b].set 1 (.int c)))) := ⟨fun e u n h => by rw [upd_ne n]; exact h, a, c, hg2⟩
      refine ⟨_, rfl, g, _, (1 : Int), _, rfl, rfl, SqL.of hg2, i1 a c, _, rfl, g, _, (1 : Int), _, rfl, rfl, SqL.of hg2, i1 a c, _, _, rfl, rfl, .inl ⟨by omega, by omega⟩, .inl ⟨_, rfl, _, _, rfl, rfl, (by decide : (0 : Int) < 2147483497), _, _, rfl, rfl, ⟨by decide, by decide⟩, _, rfl, _, _, rfl, rfl, (by omega : (0 : Int) < (many : Int)), ?_⟩⟩
      obtain ⟨d, hd2⟩ : ∃ d : Nat, (c * c % 2147483497 / 17) % (many : Int) = (d : Int) := ⟨((c * c % 2147483497 / 17) % (many : Int)).toNat, (Int.toNat_of_nonneg (Int.emod_nonneg _ (by omega))).symm⟩
      have hdl : d < many := by
        have := Int.emod_lt_of_pos (c * c % 2147483497 / 17) (show (0 : Int) < many by omega)
        omega
      show Q (V.int (c * c % 2147483497 / 17 % (many : Int))) _
      rw [hd2]
      exact k d _ hdl hd
/-- one of a list's things -/
def spChoice : Sp := fun vs H Q E => ∃ (g l : Addr) (xs : List V), vs = [.ref g, .ref l] ∧ RngAt H g ∧ H l = some (.lst xs) ∧ l ≠ g ∧ 0 < xs.length ∧ xs.length < 1000 ∧ ∀ x H', x ∈ xs → Dr g H H' → Q x H'
theorem scChoice : FnScope ["_law_rng_here", "_law_some"] ["_law_rng_here", "_law_some"] (defScope (top 44)) := ⟨rfl, rfl, rfl, by decide +kernel, rfl, by decide +kernel, by decide +kernel⟩
theorem d_choice (T : Tx K mg) : Def P w K mg base CX0 2 "_law_choice" ["_law_rng_here", "_law_some"] spChoice := by
  have Dw : Def P w K mg base CX0 1 "_law_draw" ["_law_rng_here", "_law_many"] spDraw := d_draw T
  refine def_of T 26 44 ["_law_rng_here", "_law_some"] rfl scChoice (fun _ _ _ _ _ _ us hl => match us, hl with | [_, _], _ => rfl) (fun vs H Q E h => ?_) (fun f cdv A outer s H vs Q E hr h => ?_)
  · obtain ⟨g, l, xs, rfl, _⟩ := h; rfl
  · obtain ⟨g, l, xs, rfl, hg, hl, hlg, h0, h1, k⟩ := h
    refine ⟨_, pss_one (ps_ret (pe_ix ix_list (pv 1) (pd0 Dw hr (pa_cons (pv 0) (pa1 (pB T b_len call_len_seq (pa1 (pv 1)))))) (fun _ _ => rfl))), ?_⟩
    refine ⟨_, rfl, _, rfl, _, rfl, l, xs, rfl, .inl (SqL.of hl), g, xs.length, rfl, hg, h0, h1, fun d H' hd dr => ?_⟩
    have hx : xs[d]? = some xs[d] := List.getElem?_eq_getElem hd
    exact ⟨l, xs, (d : Int), _, rfl, rfl, SqL.of (dr.keep hlg hl), atI_nat hx, k _ H' (List.mem_of_getElem? hx) dr⟩
end
end K17
end TW1
section TW2
set_option Elab.async false
set_option linter.all false
set_option maxRecDepth 100000
set_option maxHeartbeats 4000000
/-! _law_letters. -/
namespace K17
open PySem PySem.Spec PyProof.Rows L2 LamX
theorem erase_map {α β : Type} (f : α → β) : ∀ (l : List α) (d : Nat), (l.map f).eraseIdx d = (l.eraseIdx d).map f
  | [], _ => rfl
  | _ :: _, 0 => rfl
  | a :: l, d + 1 => by
    show f a :: (l.map f).eraseIdx d = f a :: (l.eraseIdx d).map f
    rw [erase_map f l d]
abbrev sgsV (cs : List Nat) : List V := cs.map fun c => V.str (sg c)
theorem sgsV_app (a b : List Nat) : sgsV (a ++ b) = sgsV a ++ sgsV b := List.map_append
def rListStr : List V → Hp → VK → Prop := fun xs H Q => ∃ z : Str, xs = [.str z] ∧ z.length ≤ sizeLine ∧ ∀ l, H l = none → Q (.ref l) (upd H l (.lst (sgsV z.cps.toList)))
theorem cr_listStr {X : Cx} (hc : X.calm = true) : CallR X (.type "list") rListStr := by
  intro pins s σ H xs us Q I r h
  obtain ⟨z, rfl, hz, q⟩ := h
  obtain ⟨u, rfl, t, rfl⟩ := vals1 r
  refine PySem.call_list_str (I.ok.hd hc) z t (hn := hz) fun h' tk acc' c' kp hS hacc => ?_
  have n0 : H s.heap.objs.size = none := I.hok.fresh (Nat.le_refl _)
  have hv : Vals (sgsV z.cps.toList) acc'.toList := by
    obtain ⟨h1, h2⟩ := hacc
    have hl : acc'.toList.length = z.cps.toList.length := by simp [h1]
    have : ∀ (n : Nat) (cs : List Nat) (vs : List Value), cs.length = n → vs.length = cs.length → (∀ (j : Nat) (v : Value), vs[j]? = some v → ∃ (c : Nat) (u : Tok), cs[j]? = some c ∧ v = Value.str ⟨#[c]⟩ u) → Vals (sgsV cs) vs := by
      intro n
      induction n with
      | zero =>
        intro cs vs e1 e2 _
        have a : cs = [] := List.length_eq_zero_iff.mp e1
        subst a
        have b : vs = [] := List.length_eq_zero_iff.mp e2
        subst b
        exact .nil
      | succ n ih =>
        intro cs vs e1 e2 h
        cases cs with
        | nil => cases e1
        | cons c cs =>
          cases vs with
          | nil => cases e2
          | cons v vs =>
            obtain ⟨c', u, h3, h4⟩ := h 0 v rfl
            have h3 : c = c' := Option.some.inj h3
            subst h3 h4
            refine .cons ⟨u, rfl⟩ (ih cs vs (by simpa using e1) (by simpa using e2) fun j w hw => ?_)
            obtain ⟨c2, u2, h5, h6⟩ := h (j + 1) w (by simpa using hw)
            exact ⟨c2, u2, by simpa using h5, h6⟩
    refine this _ _ _ rfl hl fun j v hv => ?_
    obtain ⟨c, u, hc, e⟩ := h2 j v (by simpa using hv)
    exact ⟨c, u, by simpa using hc, e⟩
  have hlen : (sgsV z.cps.toList).length ≤ sizeLine := by
    rw [List.length_map, Array.length_toList]
    exact hz
  exact ⟨.ref s.heap.objs.size, _, I.laid (o := .lst (sgsV z.cps.toList)) (t' := tk) kp (Nat.le_refl _) ⟨hlen, acc'.toList, c', hv, by simpa using hS⟩, rfl, q _ n0⟩
def rLenS (K : PySem.W.Frag) : List V → Hp → VK → Prop := fun xs H Q => ∃ p ys, xs = [V.ref p] ∧ (SqL K H p ys ∨ SqT K H p ys) ∧ Q (.int (ys.length : Nat)) H
theorem cr_lenS {X : Cx} : CallR X (.builtin "len") (rLenS X.K) := call_len_seq
/-- the letters' codes -/
def az : List Nat := abc.cps.toList
theorem az_nd : az.Nodup := by decide +kernel
theorem az_len : az.length = 26 := by decide +kernel
section
variable {P : Program} {w : World} {K : PySem.W.Frag} {mg : Str → Option Value} {base : Heap}
def spLetters : Sp := fun vs H Q E => ∃ (g : Addr) (many : Nat), vs = [.ref g, .int (many : Int)] ∧ RngAt H g ∧ many ≤ 20 ∧ ∀ l H' cs, H l = none → Dr g H H' → H' l = some (.lst (sgsV cs)) → cs.length = many → cs.Nodup → (∀ c ∈ cs, c ∈ az) → Q (.ref l) H'
theorem scLetters : FnScope ["_law_rng_here", "_law_many", "_law_left", "_law_k"] ["_law_rng_here", "_law_many"] (defScope (top 45)) := ⟨rfl, rfl, rfl, by decide +kernel, rfl, by decide +kernel, by decide +kernel⟩
theorem d_letters (T : Tx K mg) : Def P w K mg base CX0 2 "_law_letters" ["_law_rng_here", "_law_many"] spLetters := by
  have Dw : Def P w K mg base CX0 1 "_law_draw" ["_law_rng_here", "_law_many"] spDraw := d_draw T
  refine def_of T 27 45 ["_law_rng_here", "_law_many", "_law_left", "_law_k"] rfl scLetters (fun _ _ _ _ _ _ us hl => match us, hl with | [_, _], _ => rfl) (fun vs H Q E h => ?_) (fun f cdv A outer s H vs Q E hr h => ?_)
  · obtain ⟨g, many, rfl, _⟩ := h; rfl
  · obtain ⟨g, many, rfl, hg, hm, k⟩ := h
    have nd := scLetters.nd
    refine ⟨_, pss_cons (ps_set (i := 2) nd rfl (Or.inr rfl) (pT T b_list (cr_listStr rfl) (pa1 pe_str)))
      (pss_one (ps_ret (pe_lc (own := [("_law_k", 3)]) (g := gName 3) (tt := tYes) (te := tBM K "list" rPopAt (tVar 2) (tCons (tCall spDraw [] E0 (tCons (tVar 0) (tCons (tCB (rLenS K) (tCons (tVar 2) tNil)) tNil))) tNil)) rfl nd
        (pi_range1 rfl (T.f "range") (pa1 (pv 1))) (blkOk_by (own := [("_law_k", 3)]) (N := ["_law_rng_here", "_law_many", "_law_left", "_law_k"]) (sc := defScope (top 45)) (by decide +kernel))
        (fun _ _ _ _ _ => pg_name (i := 3) nd rfl (Or.inl rfl)) (fun _ _ _ _ _ => pts_nil)
        (fun _ _ _ _ _ => pe_bm PySem.F.plainAttrs_list PySem.F.slot_list_pop PySem.F.type_list_pop mt_popAt (pv 2) (pa1 (pd0 Dw hr (pa_cons (pv 0) (pa1 (pB T b_len cr_lenS (pa1 (pv 2))))))))))), ?_⟩
    have hm0 : (many : Int) < 2 ^ 62 := by omega
    refine ⟨abc, rfl, by decide +kernel, fun ll hll => ?_⟩
    have d0 : Dr g H (upd H ll (.lst (sgsV az))) := (Dr.refl hg).new hll
    have hl0 : (upd H ll (.lst (sgsV az))) ll = some (.lst (sgsV az)) := upd_same
    refine ⟨_, rfl, (many : Int), rfl, by omega, hm0, fun D hD => ?_⟩
    have hllg : ll ≠ g := fun z => by
      obtain ⟨a, b, e⟩ := hg
      rw [z, e] at hll
      cases hll
    have hlD : ll ≠ D := fun z => by rw [← z, upd_same] at hD; cases hD
    have hDg : D ≠ g := fun z => by
      obtain ⟨a, b, e⟩ := d0.rng
      rw [z] at hD
      have := e.symm.trans hD
      cases this
    have hD0 : H D = none := d0.free hD
    refine lc_it (walk_range (n := many)) (fun i H3 => Dr g H H3 ∧ ∃ left done : List Nat, H3 ll = some (.lst (sgsV left)) ∧ H3 D = some (.lst (sgsV done)) ∧ (done ++ left).Perm az ∧ done.length = i)
      ⟨d0.new hD, az, [], by rw [upd_ne hlD]; exact hl0, upd_same, .refl _, rfl⟩ (fun _ _ _ _ => trivial) (fun i x H3 H4 hi hp hy => ?_) (fun H3 hp => ?_)
    · obtain ⟨d3, left, done, h1, h2, hperm, hdl⟩ := hp
      obtain ⟨rfl, _⟩ := hy
      have hll3 : left.length = 26 - i := by
        have := hperm.length_eq
        rw [List.length_append, az_len] at this
        omega
      refine ⟨rfl, ?_⟩
      refine ⟨_, rfl, .inl ⟨rfl, _, SqL.of h1⟩, _, rfl, _, rfl, ll, _, rfl, .inl (SqL.of h1), g, (sgsV left).length, rfl, d3.rng, by rw [List.length_map]; omega, by rw [List.length_map]; omega, fun d H5 hd dr => ?_⟩
      rw [List.length_map] at hd
      have h1' := dr.keep hllg h1
      have h2' := dr.keep hDg h2
      have hx : left[d]? = some left[d] := List.getElem?_eq_getElem hd
      have hxv : (sgsV left)[d]? = some (.str (sg left[d])) := by rw [List.getElem?_map, hx]; rfl
      refine ⟨ll, _, (d : Int), d, _, rfl, rfl, h1', by omega, by omega, ?_, hxv, ?_⟩
      · rw [List.length_map]
        exact (ixN_seq (n := left.length) (i := (d : Int)) (j := d) (by
          unfold ixN
          rw [if_pos (by omega), if_pos (by omega)]
          rfl)).1
      have d5 := d3.trans dr
      refine ⟨sgsV done, ?_, by rw [List.length_map]; exact lt_line (by omega), (d5.upd hll hllg).upd hD0 hDg, left.eraseIdx d, done ++ [left[d]], ?_, ?_, ?_, ?_⟩
      · rw [upd_ne hlD.symm]
        exact h2'
      · rw [upd_ne hlD, upd_same]
        show some (HO.lst ((left.map _).eraseIdx d)) = some (HO.lst ((left.eraseIdx d).map _))
        rw [erase_map]
      · rw [upd_same, sgsV_app]
        rfl
      · refine List.Perm.trans ?_ hperm
        rw [List.append_assoc]
        refine List.Perm.append_left _ ?_
        have e := List.eraseIdx_eq_take_drop_succ left d
        have e2 : left = left.take d ++ left[d] :: left.drop (d + 1) := by
          have := (List.take_append_drop d left).symm
          rw [List.drop_eq_getElem_cons hd] at this
          exact this
        rw [e]
        conv => rhs; rw [e2]
        show (left[d] :: (List.take d left ++ List.drop (d + 1) left)).Perm _
        exact List.perm_middle.symm
      · rw [List.length_append, hdl]
        rfl
    · obtain ⟨d3, left, done, h1, h2, hperm, hdl⟩ := hp
      have hnd : (done ++ left).Nodup := hperm.nodup_iff.mpr az_nd
      exact k D H3 done hD0 d3 h2 hdl (List.nodup_append.mp hnd).1 fun c hc => hperm.mem_iff.mp (List.mem_append_left _ hc)
end
end K17
end TW2
section TW3
set_option Elab.async false
set_option linter.all false
set_option maxRecDepth 100000
set_option maxHeartbeats 4000000
/-! _law_marks. -/
namespace K17
open PySem PySem.Spec PyProof.Rows L2 LamX
theorem empty_app (z : Str) : ("" : Str) ++ z = z := by
  have := S_app [] z.cps.toList
  rw [S_of] at this
  exact this
theorem sjoin : ∀ cs : List Nat, Str.join ("" : Str) (cs.map sg) = S cs
  | [] => rfl
  | [c] => rfl
  | c :: d :: cs => by
    have ih := sjoin (d :: cs)
    show (sg c ++ ("" : Str)) ++ Str.join ("" : Str) ((d :: cs).map sg) = S (c :: d :: cs)
    rw [ih, ← S_one, ← S_nil, S_app, S_app]
    rfl
theorem join_sgs (cs : List Nat) : Txt.join ("" : Str) (cs.map sg) = S cs := (PySem.StrLaws.glued_eq_join _ _).trans (sjoin cs)
theorem sum_sgs : ∀ cs : List Nat, ((cs.map sg).map (·.length)).sum = cs.length
  | [] => rfl
  | c :: cs => by
    rw [List.map_cons, List.map_cons, List.sum_cons, sum_sgs cs, List.length_cons]
    show 1 + cs.length = _
    omega
theorem isWd_S {cs : List Nat} (h : ∀ c ∈ cs, c ∈ az) : isWd (S cs) = true := by
  unfold isWd
  rw [S_list, List.all_eq_true]
  intro c hc
  exact decide_eq_true (h c hc)
theorem isMk_S {cs : List Nat} (h : ∀ c ∈ cs, c ∈ az) (h1 : 1 < cs.length) (h2 : cs.length ≤ 8) : isMk (S cs) = true := by
  unfold isMk
  rw [isWd_S h, S_len]
  simp [h1, h2]
theorem isSg_S {c : Nat} (h : c ∈ az) : isSg (sg c) = true := by
  have := isWd_S (cs := [c]) fun x hx => by rw [List.mem_singleton] at hx; rw [hx]; exact h
  unfold isSg
  rw [← S_one, this]
  rfl
theorem nm_sg {z : Str} (h : isSg z = true) : isNm z = true := by unfold isNm; rw [h]; rfl
theorem nm_mk {z : Str} (h : isMk z = true) : isNm z = true := by unfold isNm; rw [h, Bool.or_true]
abbrev strV (xs : List Str) : List V := xs.map V.str
theorem strV_app (a b : List Str) : strV (a ++ b) = strV a ++ strV b := List.map_append
theorem inV_strs (z : Str) (xs : List Str) : inV (.str z) (strV xs) = decide (z ∈ xs) := by
  unfold inV
  rw [List.any_map]
  by_cases h : z ∈ xs
  · rw [decide_eq_true h, List.any_eq_true]
    exact ⟨z, h, by show eqV (.str z) (.str z) = true; simp [eqV]⟩
  · rw [decide_eq_false h, List.any_eq_false]
    intro x hx e
    have e : eqV (.str x) (.str z) = true := e
    have : x = z := by simpa [eqV] using e
    exact h (this ▸ hx)
section
variable {P : Program} {w : World} {K : PySem.W.Frag} {mg : Str → Option Value} {base : Heap}
def spMarks : Sp := fun vs H Q E => ∃ (g : Addr) (many : Nat), vs = [.ref g, .int (many : Int)] ∧ RngAt H g ∧ many ≤ 5 ∧ ∀ l H' ms, H l = none → Dr g H H' → H' l = some (.lst (strV ms)) → ms.length = many → (∀ z ∈ ms, isMk z = true) → Q (.ref l) H'
theorem scMarks : FnScope ["_law_rng_here", "_law_many", "_law_found", "_law_k", "_law_size", "_law_mark", "_law_turn", "_law_spare", "_law_letter", "_law_one"] ["_law_rng_here", "_law_many"] (defScope (top 46)) := ⟨rfl, rfl, rfl, by decide +kernel, rfl, by decide +kernel, by decide +kernel⟩
theorem d_lmarks (T : Tx K mg) : Def P w K mg base CX0 2 "_law_marks" ["_law_rng_here", "_law_many"] spMarks := by
  have Dw : Def P w K mg base CX0 1 "_law_draw" ["_law_rng_here", "_law_many"] spDraw := d_draw T
  refine def_of T 28 46 ["_law_rng_here", "_law_many", "_law_found", "_law_k", "_law_size", "_law_mark", "_law_turn", "_law_spare", "_law_letter", "_law_one"] rfl scMarks (fun _ _ _ _ _ _ us hl => match us, hl with | [_, _], _ => rfl) (fun vs H Q E h => ?_) (fun f cdv A outer s H vs Q E hr h => ?_)
  · obtain ⟨g, many, rfl, _⟩ := h; rfl
  · obtain ⟨g, many, rfl, hg, hm, k⟩ := h
    have nd := scMarks.nd
    refine ⟨_, PSs.nox (pss_cons (ps_set (i := 2) nd rfl (Or.inr rfl) (pe_lst pa_nil))
      (pss_cons (ps_for PassesOwn.never rfl (pi_range1 rfl (T.f "range") (pa1 (pv 1))) (g := gName 3) (pg_name (i := 3) nd rfl (Or.inl rfl))
        (pss_cons (ps_set (i := 4) nd rfl (Or.inl rfl) (pe_op op_add pe_int (pe_ix ix_list (pe_lst (pa_cons pe_int (pa_cons pe_int (pa_cons pe_int (pa1 pe_int))))) (pd0 Dw hr (pa_cons (pv 0) (pa1 pe_int))) (fun _ _ => rfl))))
        (pss_cons (ps_set (i := 5) nd rfl (Or.inl rfl) (pe_join pe_str (pe_lc (own := [("_law_turn", 6)]) (g := gName 6) (tt := tYes) (te := tOp rIxS (tC (.str abc)) (tCall spDraw [] E0 (tCons (tVar 0) (tCons (tC (.int 26)) tNil)))) rfl nd
            (pi_range1 rfl (T.f "range") (pa1 (pv 4))) (blkOk_by (own := [("_law_turn", 6)]) (N := ["_law_rng_here", "_law_many", "_law_found", "_law_k", "_law_size", "_law_mark", "_law_turn", "_law_spare", "_law_letter", "_law_one"]) (sc := defScope (top 46)) (by decide +kernel))
            (fun _ _ _ _ _ => pg_name (i := 6) nd rfl (Or.inl rfl)) (fun _ _ _ _ _ => pts_nil)
            (fun _ _ _ _ _ => pe_ix ix_str pe_str (pd0 Dw hr (pa_cons (pv 0) (pa1 pe_int))) (fun _ _ => rfl)))))
        (pss_cons (ps_setLc (i := 7) (own := [("_law_letter", 8)]) (g := gName 8) (tt := tYes) rfl nd rfl rfl (sw_true rfl rfl rfl (by decide +kernel)) (pi_str pe_str) (blkOk_by (own := [("_law_letter", 8)]) (N := ["_law_rng_here", "_law_many", "_law_found", "_law_k", "_law_size", "_law_mark", "_law_turn", "_law_spare", "_law_letter", "_law_one"]) (sc := defScope (top 46)) (by decide +kernel))
            (fun _ _ _ _ _ => pg_name (i := 8) nd rfl (Or.inl rfl)) (fun _ _ _ _ _ => pts_nil) (fun _ _ _ _ _ => pe_op op_add_str pe_str (pv 8)))
        (pss_one (ps_expr (pe_bm PySem.F.plainAttrs_list PySem.F.slot_list_append PySem.F.type_list_append mt_append (pv 2) (pa1 (pe_ix ix_list (pe_lc (own := [("_law_one", 9)]) (g := gName 9) rfl nd (pi_list (pe_op op_cat (pe_lst (pa1 (pv 5))) (pv 7))) (blkOk_by (own := [("_law_one", 9)]) (N := ["_law_rng_here", "_law_many", "_law_found", "_law_k", "_law_size", "_law_mark", "_law_turn", "_law_spare", "_law_letter", "_law_one"]) (sc := defScope (top 46)) (by decide +kernel))
            (fun _ _ _ _ _ => pg_name (i := 9) nd rfl (Or.inl rfl)) (fun _ _ _ _ _ => pts_one (pt_cmpR (r := rIn K true) op_notIn_seq (pv 9) (pv 2) (by rfl))) (fun _ _ _ _ _ => pv 9)) pe_int (fun _ _ => rfl))))))))))
      (pss_one (ps_ret (pv 2))))), ?_⟩
    have hm0 : (many : Int) < 2 ^ 62 := by omega
    refine ⟨Nat.zero_le _, fun fl hfl => ?_⟩
    have d0 : Dr g H (upd H fl (.lst [])) := (Dr.refl hg).new hfl
    have hflg : fl ≠ g := fun z => by
      obtain ⟨a, b, e⟩ := hg
      rw [z, e] at hfl
      cases hfl
    refine ⟨_, rfl, (many : Int), rfl, by omega, hm0, ?_⟩
    refine for_it (walk_range (n := many)) (fun i σ Hx => Dr g H Hx ∧ (∃ ms : List Str, Hx fl = some (.lst (strV ms)) ∧ ms.length = i ∧ ∀ z ∈ ms, isMk z = true) ∧ ∃ u3 u4 u5 u6 u7 u8 u9, σ = [some (.ref g), some (.int (many : Int)), some (.ref fl), u3, u4, u5, u6, u7, u8, u9])
      ⟨d0, ⟨[], upd_same, rfl, fun _ h => (nomatch h)⟩, none, none, none, none, none, none, none, rfl⟩ (fun _ _ _ _ _ => trivial) (fun i x σ Hx Hx' hi hp hy => ?_) (fun σ Hx hp => ?_)
    · obtain ⟨dx, ⟨ms, hms, hml, hmk⟩, u3, u4, u5, u6, u7, u8, u9, rfl⟩ := hp
      obtain ⟨rfl, _⟩ := hy
      -- the size
      refine ⟨by show 4 ≤ sizeLine; decide, fun q hq => ⟨_, rfl, g, 4, rfl, (Dr.of dx.rng (Same.new hq)).rng, by decide, by decide, fun d H2 hd dr => ?_⟩⟩
      obtain ⟨n, hn, hn1, hn7⟩ : ∃ n : Nat, [V.int 1, V.int 1, V.int 2, V.int 7][d]? = some (.int (n : Int)) ∧ 1 ≤ n ∧ n ≤ 7 := by
        match d, hd with
        | 0, _ => exact ⟨1, rfl, by decide, by decide⟩
        | 1, _ => exact ⟨1, rfl, by decide, by decide⟩
        | 2, _ => exact ⟨2, rfl, by decide, by decide⟩
        | 3, _ => exact ⟨7, rfl, by decide, by decide⟩
      have hqg : q ≠ g := fun z => by
        obtain ⟨a, b, e⟩ := dx.rng
        rw [z, e] at hq
        cases hq
      have dx2 : Dr g H H2 := (dx.new hq).trans dr
      have hms2 : H2 fl = some (.lst (strV ms)) := dr.keep hflg (Same.new hq _ _ hms)
      refine ⟨q, _, (d : Int), _, rfl, rfl, SqL.of (dr.keep hqg upd_same), atI_nat hn, _, _, rfl, rfl, ?_⟩
      -- the mark
      refine ⟨⟨_, rfl⟩, _, rfl, 1 + (n : Int), rfl, by omega, by omega, fun D hD => ?_⟩
      have hD0 := dx2.free hD
      have hDg : D ≠ g := fun z => by
        obtain ⟨a, b, e⟩ := dx2.rng
        rw [z, e] at hD
        cases hD
      refine lc_it (walk_range (n := (1 + (n : Int)).toNat)) (fun j H3 => Dr g H2 H3 ∧ ∃ cs : List Nat, H3 D = some (.lst (strV (cs.map sg))) ∧ cs.length = j ∧ ∀ c ∈ cs, c ∈ az)
        ⟨(Dr.refl dx2.rng).new hD, [], upd_same, rfl, fun _ h => (nomatch h)⟩ (fun _ _ _ _ => trivial) (fun j x H3 H4 hj hp hy => ?_) (fun H3 hp => ?_)
      · obtain ⟨d3, cs, hcs, hcl, hca⟩ := hp
        obtain ⟨rfl, _⟩ := hy
        refine ⟨rfl, _, rfl, g, 26, rfl, d3.rng, by decide, by decide, fun e H5 he dr5 => ?_⟩
        have hx : az[e]? = some az[e] := List.getElem?_eq_getElem (by rw [az_len]; exact he)
        refine ⟨abc, (e : Int), az[e], rfl, rfl, by decide +kernel, atI_nat hx, _, dr5.keep hDg hcs, ?_, (d3.trans dr5).upd hD hDg, cs ++ [az[e]], ?_, ?_, ?_⟩
        · rw [List.length_map, List.length_map]
          exact lt_line (by omega)
        · rw [upd_same, List.map_append, strV_app]
          rfl
        · rw [List.length_append, hcl]
          rfl
        · intro c hc
          rcases List.mem_append.mp hc with z | z
          · exact hca c z
          · rw [List.mem_singleton] at z
            rw [z]
            exact List.getElem_mem _
      · obtain ⟨d3, cs, hcs, hcl, hca⟩ := hp
        have dx3 := dx2.trans d3
        have hms3 := d3.keep hflg hms2
        refine ⟨_, D, cs.map sg, rfl, rfl, .inl (SqL.of hcs), ?_, ?_⟩
        · rw [sum_sgs, List.length_map]
          show cs.length + cs.length * 0 ≤ _
          omega
        rw [join_sgs]
        have hmark : isMk (S cs) = true := isMk_S hca (by omega) (by omega)
        -- the spare ones
        refine ⟨abc, rfl, fun D2 hD2 => ?_⟩
        refine lc_it (walk_str (z := abc)) (fun j H4 => Same H3 H4 ∧ H4 D2 = some (.lst (strV ((az.take j).map fun c => ("m" : Str) ++ sg c))))
          ⟨Same.new hD2, upd_same⟩ (fun _ _ _ _ => trivial) (fun j x H4 H5 hj hp hy => ?_) (fun H4 hp => ?_)
        · obtain ⟨s4, h4⟩ := hp
          obtain ⟨rfl, c, hc, rfl⟩ := hy
          have hc : az[j]? = some c := by
            show abc.cps.toList[j]? = _
            rw [Array.getElem?_toList]
            exact hc
          refine ⟨rfl, _, rfl, _, sg c, rfl, rfl, by show 1 + 1 ≤ sizeLine; decide, _, h4, ?_, Same.updN s4 hD2, ?_⟩
          · rw [List.length_map, List.length_map, List.length_take]
            exact lt_line (by rw [az_len]; omega)
          · rw [upd_same, take_succ_of hc, List.map_append, strV_app]
            rfl
        · obtain ⟨s4, h4⟩ := hp
          have htk : az.take abc.cps.size = az := by
            have : abc.cps.size = az.length := by decide +kernel
            rw [this, List.take_length]
          rw [htk] at h4
          have hms4 := s4 _ _ hms3
          have dx4 := dx3.trans (Dr.of dx3.rng s4)
          refine ⟨_, rfl, .inl ⟨rfl, _, SqL.of hms4⟩, ?_⟩
          refine ⟨_, rfl, by show 1 ≤ sizeLine; decide, fun q1 hq1 => ?_⟩
          have s5 : Same H4 (upd H4 q1 (.lst [.str (S cs)])) := Same.new hq1
          refine ⟨_, rfl, q1, D2, _, _, rfl, rfl, upd_same, s5 _ _ h4, ?_, fun q2 hq2 => ?_⟩
          · rw [List.length_map, List.length_map, az_len]
            show 1 + 26 ≤ _
            decide
          have s6 := s5.trans (Same.new (o := .lst ([V.str (S cs)] ++ strV (az.map fun c => ("m" : Str) ++ sg c))) hq2)
          have hall : [V.str (S cs)] ++ strV (az.map fun c => ("m" : Str) ++ sg c) = strV (S cs :: az.map fun c => ("m" : Str) ++ sg c) := rfl
          have hmkall : ∀ z ∈ (S cs :: az.map fun c => ("m" : Str) ++ sg c), isMk z = true := fun z hz => by
            rcases List.mem_cons.mp hz with y | y
            · rw [y]; exact hmark
            · obtain ⟨c, hc, rfl⟩ := List.mem_map.mp y
              have e : ("m" : Str) ++ sg c = S [109, c] := rfl
              rw [e]
              refine isMk_S (fun x hx => ?_) (by show 1 < 2; decide) (by show 2 ≤ 8; decide)
              rcases List.mem_cons.mp hx with w | w
              · rw [w]; decide +kernel
              · rw [List.mem_singleton] at w
                rw [w]; exact hc
          have hfree : ∃ z ∈ (S cs :: az.map fun c => ("m" : Str) ++ sg c), z ∉ ms := by
            have hnd : (az.map fun c => ("m" : Str) ++ sg c).Nodup := by decide +kernel
            by_cases hh : ∀ z ∈ (az.map fun c => ("m" : Str) ++ sg c), z ∈ ms
            · have := nodup_le hnd hh
              rw [List.length_map, az_len] at this
              omega
            · refine Classical.byContradiction fun hn => hh fun z hz => ?_
              exact Classical.byContradiction fun hz2 => hn ⟨z, List.mem_cons_of_mem _ hz, hz2⟩
          have hlen27 : (S cs :: az.map fun c => ("m" : Str) ++ sg c).length = 27 := by rw [List.length_cons, List.length_map, az_len]
          have hq2v : (upd (upd H4 q1 (.lst [.str (S cs)])) q2 (.lst ([V.str (S cs)] ++ strV (az.map fun c => ("m" : Str) ++ sg c)))) q2 = some (.lst (strV (S cs :: az.map fun c => ("m" : Str) ++ sg c))) := upd_same
          generalize (S cs :: az.map fun c => ("m" : Str) ++ sg c) = all at hmkall hfree hlen27 hq2v
          refine ⟨q2, rfl, ⟨_, SqL.of hq2v⟩, fun D3 hD3 => ?_⟩
          have goalx : ∀ (H6 : Hp), Same H4 H6 → H6 q2 = some (.lst (strV all)) → ∀ j : Nat, True := fun _ _ _ _ => trivial
          have s46 : Same H4 (upd (upd H4 q1 (.lst [.str (S cs)])) q2 (.lst ([V.str (S cs)] ++ strV (az.map fun c => ("m" : Str) ++ sg c)))) := s6
          refine lc_it (walk_list (xs := strV all)) (fun j H7 => Same H4 H7 ∧ H7 q2 = some (.lst (strV all)) ∧ H7 D3 = some (.lst (strV ((all.take j).filter fun z => decide (z ∉ ms)))))
            ⟨s46.trans (Same.new hD3), Same.new hD3 _ _ hq2v, upd_same⟩ (fun j H7 _ hp => SqL.of hp.2.1) (fun j x H7 H8 hj hp hy => ?_) (fun H7 hp => ?_)
          · obtain ⟨s7, hq7, h7⟩ := hp
            obtain ⟨rfl, hx⟩ := hy
            rw [List.getElem?_map] at hx
            cases hz : all[j]? with
            | none => rw [hz] at hx; cases hx
            | some z =>
              rw [hz] at hx
              obtain rfl : V.str z = x := Option.some.inj hx
              refine ⟨rfl, _, rfl, _, rfl, fl, _, rfl, .inl (SqL.of (s7 _ _ hms4)), rfl, flat_strs ms, ?_⟩
              rw [if_pos rfl, inV_strs, take_succ_of hz, List.filter_append]
              have hD4 : H4 D3 = none := Same.free s46 hD3
              have hq4 : D3 ≠ q2 := fun e => by
                rw [e] at hD3
                have := hq2v.symm.trans hD3
                cases this
              by_cases hzm : z ∈ ms
              · rw [decide_eq_true hzm]
                have : [z].filter (fun z => decide (z ∉ ms)) = [] := by simp [hzm]
                rw [this, List.append_nil]
                exact ⟨false, rfl, iteF ⟨s7, hq7, h7⟩⟩
              · rw [decide_eq_false hzm]
                have : [z].filter (fun z => decide (z ∉ ms)) = [z] := by simp [hzm]
                rw [this]
                refine ⟨true, rfl, iteT ⟨_, rfl, _, h7, ?_, Same.updN s7 hD4, by rw [upd_ne hq4.symm]; exact hq7, by rw [upd_same, strV_app]; rfl⟩⟩
                have := List.length_filter_le (fun z => decide (z ∉ ms)) (all.take j)
                rw [List.length_take] at this
                rw [List.length_map]
                exact lt_line (by omega)
          · obtain ⟨s7, hq7, h7⟩ := hp
            rw [List.length_map, List.take_length] at h7
            obtain ⟨z0, hz0, hz0m⟩ := hfree
            obtain ⟨z, rest, hzr⟩ : ∃ z rest, all.filter (fun z => decide (z ∉ ms)) = z :: rest := by
              cases hf : all.filter (fun z => decide (z ∉ ms)) with
              | nil =>
                have : z0 ∈ all.filter (fun z => decide (z ∉ ms)) := List.mem_filter.mpr ⟨hz0, decide_eq_true hz0m⟩
                rw [hf] at this
                exact nomatch this
              | cons a b => exact ⟨a, b, rfl⟩
            rw [hzr] at h7
            have hzall : z ∈ all := (List.mem_filter.mp (show z ∈ all.filter (fun z => decide (z ∉ ms)) by rw [hzr]; exact List.mem_cons_self)).1
            have dx7 := dx4.trans (Dr.of dx4.rng s7)
            refine ⟨D3, _, ((0 : Nat) : Int), V.str z, rfl, rfl, SqL.of h7, atI_nat rfl, fl, strV ms, _, rfl, rfl, s7 _ _ hms4, by rw [List.length_map]; exact lt_line (by omega), dx7.upd hfl hflg, ⟨ms ++ [z], by rw [upd_same, strV_app]; rfl, by rw [List.length_append, hml]; rfl, fun y hy => ?_⟩, _, _, _, _, _, _, _, rfl⟩
            rcases List.mem_append.mp hy with w | w
            · exact hmk y w
            · rw [List.mem_singleton] at w
              rw [w]
              exact hmkall z hzall
    · obtain ⟨dx, ⟨ms, hms, hml, hmk⟩, u3, u4, u5, u6, u7, u8, u9, rfl⟩ := hp
      exact ⟨_, rfl, k fl Hx ms hfl dx hms hml hmk⟩
end
end K17
end TW3
section TW4
set_option Elab.async false
set_option linter.all false
set_option maxRecDepth 100000
set_option maxHeartbeats 4000000
/-! Models. -/
namespace K17
open PySem PySem.Spec PyProof.Rows L2 LamX
/-- a model of the law -/
structure Mdl (R : M) : Prop where
  fit : Fit R
  few : ∃ A : List Nat, A.length ≤ 4 ∧ ∀ c ∈ signsOf R.rows, c ∈ A
/-- what a move may tell -/
def Tk (ts : List Nat) (ms : List Str) (t : Option Str) : Prop := t = none ∨ (∃ c ∈ ts, t = some (sg c)) ∨ ∃ z ∈ ms, t = some z
structure RowB (ps ts : List Nat) (ms : List Str) (n : Nat) (r : Row Str) : Prop where
  nd : (r.map (·.1)).Nodup
  all : ∀ e ∈ r, e.1 ∈ ps ∧ e.2.1 < n ∧ Tk ts ms e.2.2
/-- the signs and marks of one model -/
structure Stuff (ps ts : List Nat) (ms : List Str) : Prop where
  p4 : ps.length ≤ 4
  p3 : 3 ≤ ps.length
  pnd : ps.Nodup
  pa : ∀ c ∈ ps, c ∈ az
  t3 : ts.length ≤ 3
  t2 : 2 ≤ ts.length
  ta : ∀ c ∈ ts, c ∈ az
  m2 : ms.length = 2
  mkk : ∀ z ∈ ms, isMk z = true
theorem sg_not_mk {z : Str} (h : isSg z = true) : isMk z = false := by
  unfold isSg at h
  unfold isMk
  have h2 := (Bool.and_eq_true_iff.mp h).2
  have h2 := of_decide_eq_true h2
  rw [h2]
  cases isWd z <;> rfl
theorem mdl_of {ps ts : List Nat} {ms : List Str} (S : Stuff ps ts ms) {R : M} (h1 : 1 ≤ R.rows.length) (h6 : R.rows.length ≤ 6) (hr : ∀ r ∈ R.rows, RowB ps ts ms R.rows.length r) (he : ∀ e ∈ R.ends, e < R.rows.length) (hnd : R.ends.Nodup) (hs : R.start < R.rows.length) : Mdl R where
  fit := {
    ok := ⟨h1, fun r h => (hr r h).nd, fun r h e h2 => ((hr r h).all e h2).2.1, he, hnd, hs⟩
    six := h6
    row := fun r h e h2 => by
      obtain ⟨a, b, c⟩ := (hr r h).all e h2
      refine ⟨isSg_S (S.pa _ a), b, fun x hx => ?_⟩
      rcases c with z | ⟨d, hd, z⟩ | ⟨d, hd, z⟩
      · rw [hx] at z; cases z
      · rw [hx] at z; cases z; exact nm_sg (isSg_S (S.ta _ hd))
      · rw [hx] at z; cases z; exact nm_mk (S.mkk _ hd)
    sg := ⟨ps, by have := S.p4; omega, fun c hc => by
      obtain ⟨r, h, hc⟩ := List.mem_flatMap.mp hc
      obtain ⟨e, h2, rfl⟩ := List.mem_map.mp hc
      exact ((hr r h).all e h2).1⟩
    tx := ⟨ts.map sg, by rw [List.length_map]; have := S.t3; omega, fun t ht hg => by
      obtain ⟨r, h, hc⟩ := List.mem_flatMap.mp ht
      obtain ⟨e, h2, h3⟩ := List.mem_filterMap.mp hc
      rcases ((hr r h).all e h2).2.2 with z | ⟨d, hd, z⟩ | ⟨d, hd, z⟩
      · rw [h3] at z; cases z
      · rw [h3] at z; cases z; exact List.mem_map_of_mem hd
      · rw [h3] at z
        cases z
        have := S.mkk _ hd
        rw [sg_not_mk hg] at this
        cases this⟩
    mks := ⟨ms, by have := S.m2; omega, fun t ht hg => by
      obtain ⟨r, h, hc⟩ := List.mem_flatMap.mp ht
      obtain ⟨e, h2, h3⟩ := List.mem_filterMap.mp hc
      rcases ((hr r h).all e h2).2.2 with z | ⟨d, hd, z⟩ | ⟨d, hd, z⟩
      · rw [h3] at z; cases z
      · rw [h3] at z
        cases z
        rw [sg_not_mk (isSg_S (S.ta _ hd))] at hg
        cases hg
      · rw [h3] at z; cases z; exact hd⟩ }
  few := ⟨ps, S.p4, fun c hc => by
    obtain ⟨r, h, hc⟩ := List.mem_flatMap.mp hc
    obtain ⟨e, h2, rfl⟩ := List.mem_map.mp hc
    exact ((hr r h).all e h2).1⟩
structure MdlB (ps ts : List Nat) (ms : List Str) (R : M) : Prop where
  h1 : 1 ≤ R.rows.length
  h6 : R.rows.length ≤ 6
  hr : ∀ r ∈ R.rows, RowB ps ts ms R.rows.length r
  he : ∀ e ∈ R.ends, e < R.rows.length
  hn : R.ends.Nodup
  hs : R.start < R.rows.length
theorem MdlB.mdl {ps ts : List Nat} {ms : List Str} {R : M} (b : MdlB ps ts ms R) (S : Stuff ps ts ms) : Mdl R := mdl_of S b.h1 b.h6 b.hr b.he b.hn b.hs
/-- .. at their places -/
structure StuffAt (H : Hp) (pa ta ma : Addr) (ps ts : List Nat) (ms : List Str) : Prop where
  p : H pa = some (.lst (sgsV ps))
  t : H ta = some (.lst (sgsV ts))
  m : H ma = some (.lst (strV ms))
theorem rng_ne {H : Hp} {g l : Addr} {xs : List V} (hg : RngAt H g) (hl : H l = some (.lst xs)) (h : ∀ a b : Int, xs ≠ [.int a, .int b]) : l ≠ g := fun z => by
  obtain ⟨a, b, e⟩ := hg
  rw [z, e] at hl
  cases hl
  exact h a b rfl
theorem sgsV_ni (cs : List Nat) (a b : Int) : sgsV cs ≠ [.int a, .int b] := fun z => by
  cases cs with
  | nil => cases z
  | cons c cs => cases z
theorem strV_ni (cs : List Str) (a b : Int) : strV cs ≠ [.int a, .int b] := fun z => by
  cases cs with
  | nil => cases z
  | cons c cs => cases z
theorem StuffAt.dr {H H' : Hp} {g pa ta ma : Addr} {ps ts : List Nat} {ms : List Str} (s : StuffAt H pa ta ma ps ts ms) (hg : RngAt H g) (d : Dr g H H') : StuffAt H' pa ta ma ps ts ms :=
  ⟨d.keep (rng_ne hg s.p (sgsV_ni _)) s.p, d.keep (rng_ne hg s.t (sgsV_ni _)) s.t, d.keep (rng_ne hg s.m (strV_ni _)) s.m⟩
theorem ModelAt.fx {H H' : Hp} (s : Fx H H') {m : Addr} {R : M} (k : ModelAt H m R) : ModelAt H' m R := by
  obtain ⟨rl, sl, ds, o1, o2, a, b, c, d⟩ := k.ex
  exact ⟨rl, sl, ds, o1, o2, s _ _ a trivial, s _ _ b trivial, s _ _ c trivial, RowsAt.fx s d⟩
theorem toldV_of {ts : List Nat} {ms : List Str} {x : V} (h : x ∈ [V.non] ++ (sgsV ts ++ sgsV ts) ++ strV ms) : ∃ t, x = toldV t ∧ Tk ts ms t := by
  rcases List.mem_append.mp h with h | h
  · rcases List.mem_append.mp h with h | h
    · rw [List.mem_singleton] at h
      exact ⟨none, h, .inl rfl⟩
    · have : x ∈ sgsV ts := (List.mem_append.mp h).elim id id
      obtain ⟨c, hc, rfl⟩ := List.mem_map.mp this
      exact ⟨some (sg c), rfl, .inr (.inl ⟨c, hc, rfl⟩)⟩
  · obtain ⟨z, hz, rfl⟩ := List.mem_map.mp h
    exact ⟨some z, rfl, .inr (.inr ⟨z, hz, rfl⟩)⟩
section
variable {P : Program} {w : World} {K : PySem.W.Frag} {mg : Str → Option Value} {base : Heap}
/-- a model is made -/
def MdlQ (ps ts : List Nat) (ms : List Str) (g : Addr) (H : Hp) (Q : VK) : Prop := ∀ m H' R, Dr g H H' → ModelAt H' m R → MdlB ps ts ms R → Q (.ref m) H'
def spAny : Sp := fun vs H Q E => ∃ (g pa ta ma : Addr) (ps ts : List Nat) (ms : List Str), vs = [.ref g, .int 6, .ref pa, .ref ta, .ref ma] ∧ RngAt H g ∧ Stuff ps ts ms ∧ StuffAt H pa ta ma ps ts ms ∧ MdlQ ps ts ms g H Q
theorem scAny : FnScope ["_law_rng_here", "_law_cap", "_law_paper", "_law_tells", "_law_marks_here", "_law_many", "_law_rows", "_law_spot", "_law_line", "_law_letter", "_law_told_here", "_law_stops"] ["_law_rng_here", "_law_cap", "_law_paper", "_law_tells", "_law_marks_here"] (defScope (top 47)) := ⟨rfl, rfl, rfl, by decide +kernel, rfl, by decide +kernel, by decide +kernel⟩
theorem d_any (T : Tx K mg) : Def P w K mg base CX0 3 "_law_any_format" ["_law_rng_here", "_law_cap", "_law_paper", "_law_tells", "_law_marks_here"] spAny := by
  have Dw : Def P w K mg base CX0 1 "_law_draw" ["_law_rng_here", "_law_many"] spDraw := d_draw T
  have Ch : Def P w K mg base CX0 2 "_law_choice" ["_law_rng_here", "_law_some"] spChoice := d_choice T
  refine def_of T 29 47 ["_law_rng_here", "_law_cap", "_law_paper", "_law_tells", "_law_marks_here", "_law_many", "_law_rows", "_law_spot", "_law_line", "_law_letter", "_law_told_here", "_law_stops"] rfl scAny (fun _ _ _ _ _ _ us hl => match us, hl with | [_, _, _, _, _], _ => rfl) (fun vs H Q E h => ?_) (fun f cdv A outer s H vs Q E hr h => ?_)
  · obtain ⟨g, pa, ta, ma, ps, ts, ms, rfl, _⟩ := h; rfl
  · obtain ⟨g, pa, ta, ma, ps, ts, ms, rfl, hg, S, hS, k⟩ := h
    have nd := scAny.nd
    have hu := hu_of hr
    refine ⟨_, PSs.nox (pss_cons (ps_set (i := 5) nd rfl (Or.inl rfl) (pe_op op_addN pe_int (pd0 Dw hr (pa_cons (pv 0) (pa1 (pv 1))))))
      (pss_cons (ps_set (i := 6) nd rfl (Or.inl rfl) (pe_lst pa_nil))
      (pss_cons (ps_for PassesOwn.never rfl (pi_range1 rfl (T.f "range") (pa1 (pv 5))) (g := gName 7) (pg_name (i := 7) nd rfl (Or.inl rfl))
        (pss_cons (ps_set (i := 8) nd rfl (Or.inl rfl) pe_dnewK)
        (pss_cons (ps_for PassesOwn.never rfl (pi_list (pv 2)) (g := gName 9) (pg_name (i := 9) nd rfl (Or.inl rfl))
          (pss_one (ps_if (pt_cmpR op_gt (pd0 Dw hr (pa_cons (pv 0) (pa1 pe_int))) pe_int (nomark _))
            (pss_cons (ps_set (i := 10) nd rfl (Or.inl rfl) (pd0 Ch hr (pa_cons (pv 0) (pa1 (pe_op op_cat (pe_op op_cat (pe_lst (pa1 pe_non)) (pe_op op_rep (pv 3) pe_int)) (pv 4))))))
            (pss_one (ps_dput hu (pv 8) (pv 9) (pe_tup (pa_cons (pd0 Dw hr (pa_cons (pv 0) (pa1 (pv 5)))) (pa1 (pv 10)))) (by rfl)))) pss_nil)))
        (pss_one (ps_frz (ps_expr (pe_bm PySem.F.plainAttrs_list PySem.F.slot_list_append PySem.F.type_list_append mt_append (pv 6) (pa1 (pv 8)))))))))
      (pss_cons (ps_setLc (i := 11) (own := [("_law_spot", 7)]) (g := gName 7) rfl nd rfl rfl (sw_true rfl rfl rfl (by decide +kernel)) (pi_range1 rfl (T.f "range") (pa1 (pv 5))) (blkOk_by (own := [("_law_spot", 7)]) (N := ["_law_rng_here", "_law_cap", "_law_paper", "_law_tells", "_law_marks_here", "_law_many", "_law_rows", "_law_spot", "_law_line", "_law_letter", "_law_told_here", "_law_stops"]) (sc := defScope (top 47)) (by decide +kernel))
          (fun _ _ _ _ _ => pg_name (i := 7) nd rfl (Or.inl rfl)) (fun _ _ _ _ _ => pts_one (pt_cmpR op_eq (pd0 Dw hr (pa_cons (pv 0) (pa1 pe_int))) pe_int (by rfl))) (fun _ _ _ _ _ => pv 7))
      (pss_one (ps_ret (pe_frz (pe_tup (pa_cons (pv 6) (pa_cons (pv 11) (pa1 (pd0 Dw hr (pa_cons (pv 0) (pa1 (pv 5))))))))))))))), ?_⟩
    refine ⟨_, rfl, _, rfl, g, 6, rfl, hg, by decide, by decide, fun d6 H1 hd6 dr1 => ?_⟩
    refine ⟨1, d6, rfl, rfl, ?_⟩
    generalize hn : 1 + d6 = n
    have hn1 : 1 ≤ n := by omega
    have hn6 : n ≤ 6 := by omega
    clear hn hd6
    refine ⟨Nat.zero_le _, fun rl hrl => ?_⟩
    have dr2 : Dr g H (upd H1 rl (.lst [])) := dr1.new hrl
    have hrlH := dr1.free hrl
    have hrlg : rl ≠ g := fun z => by
      obtain ⟨a, b, e⟩ := dr1.rng
      rw [z, e] at hrl
      cases hrl
    refine ⟨_, rfl, (n : Int), rfl, by omega, by omega, ?_⟩
    refine for_it (walk_range (n := n)) (fun i σ Hx => Dr g H Hx ∧ (∃ (ds : List Addr) (rs : List (Row Str)), Hx rl = some (.lst (ds.map V.ref)) ∧ RowsAt Hx ds rs ∧ rs.length = i ∧ ∀ r ∈ rs, RowB ps ts ms n r) ∧
        ∃ u7 u8 u9 u10, σ = [some (.ref g), some (.int 6), some (.ref pa), some (.ref ta), some (.ref ma), some (.int (n : Int)), some (.ref rl), u7, u8, u9, u10, none])
      ⟨dr2, ⟨[], [], upd_same, .nil, rfl, fun _ h => (nomatch h)⟩, none, none, none, none, rfl⟩ (fun _ _ _ _ _ => trivial) (fun i x σ Hx Hx' hi hp hy => ?_) (fun σ Hx hp => ?_)
    · obtain ⟨dx, ⟨ds, rs, hds, hrs, hrsl, hrb⟩, u7, u8, u9, u10, rfl⟩ := hp
      obtain ⟨rfl, _⟩ := hy
      intro ln hln
      have hlng : ln ≠ g := fun z => by
        obtain ⟨a, b, e⟩ := dx.rng
        rw [z, e] at hln
        cases hln
      have dl : Dr g Hx' (upd Hx' ln (.dK [])) := (Dr.refl dx.rng).new hln
      have hSx := hS.dr hg dx
      refine ⟨_, rfl, pa, rfl, ⟨_, SqL.of (hSx.dr dx.rng dl).p⟩, ?_⟩
      refine for_it (walk_list (xs := sgsV ps)) (fun j σ Hy => Dr g Hx' Hy ∧ (∃ (kvs : List (Key × V)) (r : Row Str), Hy ln = some (.dK kvs) ∧ KRow Hy kvs r ∧ (r.map (·.1)).Nodup ∧ ∀ e ∈ r, e.1 ∈ ps.take j ∧ e.2.1 < n ∧ Tk ts ms e.2.2) ∧
          ∃ u9 u10, σ = [some (.ref g), some (.int 6), some (.ref pa), some (.ref ta), some (.ref ma), some (.int (n : Int)), some (.ref rl), some x, some (.ref ln), u9, u10, none])
        ⟨dl, ⟨[], [], upd_same, .nil, .nil, fun _ h => (nomatch h)⟩, _, _, rfl⟩ (fun j σ Hy _ hp => SqL.of (hSx.dr dx.rng hp.1).p) (fun j y σ Hy Hy' hj hp hy => ?_) (fun σ Hy hp => ?_)
      · obtain ⟨dy, ⟨kvs, r, hln2, hkr, hrn, hra⟩, u9, u10, rfl⟩ := hp
        obtain ⟨rfl, hy⟩ := hy
        rw [List.getElem?_map] at hy
        cases hc : ps[j]? with
        | none => rw [hc] at hy; cases hy
        | some c =>
          rw [hc] at hy
          obtain rfl : V.str (sg c) = y := Option.some.inj hy
          have tkj : ps.take (j + 1) = ps.take j ++ [c] := take_succ_of hc
          have hcn : c ∉ ps.take j := fun z => by
            have := S.pnd
            have e := (List.take_append_drop (j + 1) ps).symm
            rw [tkj] at e
            rw [e, List.append_assoc, List.nodup_append] at this
            exact this.2.2 c z c (by simp) rfl
          have more : ∀ {e : Nat × Nat × Option Str}, e ∈ r → e.1 ∈ ps.take (j + 1) ∧ e.2.1 < n ∧ Tk ts ms e.2.2 := fun {e} he => by
            obtain ⟨a, b⟩ := hra e he
            exact ⟨by rw [tkj]; exact List.mem_append_left _ a, b⟩
          refine ⟨_, rfl, g, 4, rfl, dy.rng, by decide, by decide, fun d H3 hd dr3 => ?_⟩
          refine ⟨_, _, rfl, rfl, ?_⟩
          have dy3 := dy.trans dr3
          have hln3 := dr3.keep hlng hln2
          have hkr3 := hkr.fx (dr3.fx dy.rng)
          by_cases h0 : ((d : Nat) : Int) > 0
          · refine ⟨true, congrArg V.bl (decide_eq_true h0), iteT ?_⟩
            have hS3 := hSx.dr dx.rng dy3
            have ht3 := S.t3
            have hm2 := S.m2
            -- the choice
            refine ⟨_, rfl, by show 1 ≤ sizeLine; decide, fun q1 hq1 => ?_⟩
            have s1 : Same H3 (upd H3 q1 (.lst [V.non])) := Same.new hq1
            refine ⟨_, rfl, ta, 2, _, rfl, rfl, s1 _ _ hS3.t, by decide, by decide, ?_, fun q2 hq2 => ?_⟩
            · rw [List.length_map]
              exact Nat.le_of_lt (lt_line (by show ts.length * 2 < _; omega))
            have e2 : (List.replicate (2 : Int).toNat (sgsV ts)).flatten = sgsV ts ++ sgsV ts := by
              show sgsV ts ++ (sgsV ts ++ []) = _
              rw [List.append_nil]
            rw [e2]
            have s2 := s1.trans (Same.new (o := .lst (sgsV ts ++ sgsV ts)) hq2)
            refine ⟨q1, q2, _, _, rfl, rfl, Same.new hq2 _ _ upd_same, upd_same, ?_, fun q3 hq3 => ?_⟩
            · rw [List.length_append, List.length_map]
              exact Nat.le_of_lt (lt_line (by show 1 + _ < _; omega))
            have s3 := s2.trans (Same.new (o := .lst ([V.non] ++ (sgsV ts ++ sgsV ts))) hq3)
            refine ⟨_, rfl, q3, ma, _, _, rfl, rfl, upd_same, s3 _ _ hS3.m, ?_, fun q4 hq4 => ?_⟩
            · rw [List.length_append, List.length_append, List.length_map, List.length_map]
              exact Nat.le_of_lt (lt_line (by show 1 + _ + _ < _; omega))
            have s4 := s3.trans (Same.new (o := .lst ([V.non] ++ (sgsV ts ++ sgsV ts) ++ strV ms)) hq4)
            have dr4 := Dr.of dr3.rng s4
            have hq4g : q4 ≠ g := fun z => by
              obtain ⟨a, b, e⟩ := dr3.rng
              have := s3 _ _ e
              rw [← z, hq4] at this
              cases this
            refine ⟨g, q4, _, rfl, dr4.rng, upd_same, hq4g, ?_, ?_, fun v H5 hv dr5 => ?_⟩
            · rw [List.length_append, List.length_append]
              show 0 < 1 + _ + _
              omega
            · rw [List.length_append, List.length_append, List.length_append, List.length_map, List.length_map]
              show 1 + _ + _ < _
              omega
            obtain ⟨t, rfl, htk⟩ := toldV_of hv
            have dr35 := dr4.trans dr5
            have dy5 := dy3.trans dr35
            have hln5 := dr35.keep hlng hln3
            have hkr5 := hkr3.fx (dr35.fx dr3.rng)
            -- line[letter] = ..
            refine ⟨_, rfl, _, rfl, g, n, rfl, dy5.rng, by omega, by omega, fun q H6 hq dr6 => ?_⟩
            refine ⟨_, rfl, by show 2 ≤ sizeLine; decide, fun m hm => ?_⟩
            have dy6 := dy5.trans dr6
            have s7 : Same H6 (upd H6 m (.tup [.int ((q : Nat) : Int), toldV t])) := Same.new hm
            have dy7 := dy6.trans (Dr.of dy6.rng s7)
            have hln7 := s7 _ _ (dr6.keep hlng hln5)
            have hkr7 := (hkr5.fx (dr6.fx dy5.rng)).same s7
            have hv : valV kvs (Sum.inr (sg c) : Key) = none := by
              rcases hkr7.val c with ⟨_, z⟩ | ⟨e, m', z, _⟩
              · exact z
              · exact absurd (hra _ (mem_of_lookup' z)).1 hcn
            have hkl : kvs.length ≤ 4 := by
              have e1 : kvs.length = r.length := Paired.len hkr
              have e2 := nodup_le hrn (U := ps) fun x hx => by
                obtain ⟨e, he, rfl⟩ := List.mem_map.mp hx
                exact List.mem_of_mem_take (hra e he).1
              rw [List.length_map] at e2
              have := S.p4
              omega
            refine ⟨_, rfl, _, rfl, ln, _, rfl, DPut.k (k := Sum.inr (sg c)) hln7 (lt_line (by omega)), ?_⟩
            rw [put_new hv]
            refine ⟨dy7.upd hln hlng, ⟨_, r ++ [(c, q, t)], upd_same, ?_, ?_, fun e he => ?_⟩, _, _, rfl⟩
            · refine Paired.app (hkr7.fx (Fx.put hln7 id)) (.cons ⟨rfl, m, rfl, ?_⟩ .nil)
              show (upd _ ln _) m = _
              have hml : m ≠ ln := fun z => by
                rw [z, dr6.keep hlng hln5] at hm
                cases hm
              rw [upd_ne hml, upd_same]
            · rw [List.map_append, List.nodup_append]
              refine ⟨hrn, by simp, fun a ha b hb e => ?_⟩
              obtain ⟨z, hz, rfl⟩ := List.mem_map.mp ha
              simp at hb
              subst hb
              exact hcn (by rw [← e]; exact (hra z hz).1)
            · rcases List.mem_append.mp he with z | z
              · exact more z
              · rw [List.mem_singleton] at z
                rw [z]
                exact ⟨by rw [tkj]; simp, hq, htk⟩
          · refine ⟨false, congrArg V.bl (decide_eq_false h0), iteF ⟨dy3, ⟨kvs, r, hln3, hkr3, hrn, fun e he => more he⟩, _, _, rfl⟩⟩
      · obtain ⟨dy, ⟨kvs, r, hln2, hkr, hrn, hra⟩, u9, u10, rfl⟩ := hp
        have hdy := dy.keep hrlg hds
        have hrsy := RowsAt.fx (dy.fx dx.rng) hrs
        have hdl : ds.length = rs.length := Paired.len hrs
        have hlr : ln ≠ rl := fun z => by
          rw [z, hds] at hln
          cases hln
        refine ⟨_, rfl, .inl ⟨rfl, _, SqL.of hdy⟩, _, rfl, rl, _, _, rfl, rfl, hdy, by rw [List.length_map]; exact lt_line (by omega), [ln], .dK kvs, by rw [upd_ne hlr]; exact hln2, trivial, fun od => ?_⟩
        have hlnH : H ln = none := dx.free hln
        have fx1 : ∀ {b u}, Hy b = some u → Fixd u → (upd (upd Hy rl (.lst (ds.map V.ref ++ [V.ref ln]))) ln (.frz od (.dK kvs))) b = some u := fun {b u} hb f => by
          have n1 : b ≠ ln := fun z => by rw [z, hln2] at hb; cases hb; exact f
          have n2 : b ≠ rl := fun z => by rw [z, hdy] at hb; cases hb; exact f
          rw [upd_ne n1, upd_ne n2]
          exact hb
        have fx2 : Fx Hy (upd (upd Hy rl (.lst (ds.map V.ref ++ [V.ref ln]))) ln (.frz od (.dK kvs))) := fun b u hb f => fx1 hb f
        refine ⟨((dx.trans dy).upd hrlH hrlg).upd hlnH hlng, ⟨ds ++ [ln], rs ++ [r], ?_, ?_, by rw [List.length_append, hrsl]; rfl, fun z hz => ?_⟩, _, _, _, _, rfl⟩
        · rw [upd_ne hlr.symm, upd_same, List.map_append]
          rfl
        · exact Paired.app (RowsAt.fx fx2 hrsy) (.cons ⟨od, kvs, upd_same, hkr.fx fx2⟩ .nil)
        · rcases List.mem_append.mp hz with y | y
          · exact hrb z y
          · rw [List.mem_singleton] at y
            rw [y]
            exact ⟨hrn, fun e he => ⟨List.mem_of_mem_take (hra e he).1, (hra e he).2⟩⟩
    · obtain ⟨dx, ⟨ds, rs, hds, hrs, hrsl, hrb⟩, u7, u8, u9, u10, rfl⟩ := hp
      refine ⟨_, rfl, (n : Int), rfl, by omega, by omega, fun D hD => ?_⟩
      have hDH : H D = none := dx.free hD
      have hDg : D ≠ g := fun z => by
        obtain ⟨a, b, e⟩ := dx.rng
        rw [z, e] at hD
        cases hD
      refine lc_it (walk_range (n := n)) (fun j H3 => Dr g Hx H3 ∧ ∃ es : List Nat, H3 D = some (.lst (natsV es)) ∧ es.Pairwise (· < ·) ∧ ∀ e ∈ es, e < j)
        ⟨(Dr.refl dx.rng).new hD, [], upd_same, .nil, fun _ h => (nomatch h)⟩ (fun _ _ _ _ => trivial) (fun j x H3 H4 hj hp hy => ?_) (fun H3 hp => ?_)
      · obtain ⟨d3, es, hes, hinc, hlt⟩ := hp
        obtain ⟨rfl, hx⟩ := hy
        obtain rfl : x = .int ((j : Nat) : Int) := by
          rw [hx]
          show V.int (0 + (j : Int)) = _
          rw [Int.zero_add]
        refine ⟨rfl, _, rfl, g, 2, rfl, d3.rng, by decide, by decide, fun d H5 hd dr5 => ?_⟩
        have hes5 := dr5.keep hDg hes
        refine ⟨rfl, ?_⟩
        have hel : es.length ≤ 6 := by
          have := nodup_le (hinc.imp fun h => Nat.ne_of_lt h) (U := List.range j) fun e he => List.mem_range.mpr (hlt e he)
          rw [List.length_range] at this
          omega
        by_cases h0 : d = 0
        · refine ⟨true, congrArg V.bl (decide_eq_true (by rw [h0]; rfl)), iteT ⟨_, rfl, _, hes5, by rw [List.length_map]; exact lt_line (by omega), (d3.trans dr5).upd hD hDg, es ++ [j], by rw [upd_same, natsV_app]; rfl, ?_, fun e he => ?_⟩⟩
          · rw [List.pairwise_append]
            exact ⟨hinc, by simp, fun a ha b hb => by rw [List.mem_singleton] at hb; rw [hb]; exact hlt a ha⟩
          · rcases List.mem_append.mp he with z | z
            · have := hlt e z
              omega
            · rw [List.mem_singleton] at z
              omega
        · exact ⟨false, congrArg V.bl (decide_eq_false fun z => h0 (natInt_inj _ 0 (V.int.inj z))), iteF ⟨d3.trans dr5, es, hes5, hinc, fun e he => by have := hlt e he; omega⟩⟩
      · obtain ⟨d3, es, hes, hinc, hlt⟩ := hp
        have dx3 := dx.trans d3
        refine ⟨_, rfl, _, rfl, _, rfl, _, rfl, g, n, rfl, dx3.rng, by omega, by omega, fun st H5 hst dr5 => ⟨by show 3 ≤ sizeLine; decide, fun p hp => ?_⟩⟩
        have dx5 := dx3.trans dr5
        have hds5 := dr5.keep hrlg (d3.keep hrlg hds)
        have hes5 := dr5.keep hDg hes
        have hprl : p ≠ rl := fun z => by rw [z, hds5] at hp; cases hp
        have hpD : p ≠ D := fun z => by rw [z, hes5] at hp; cases hp
        have hDrl : D ≠ rl := fun z => by rw [z, hds] at hD; cases hD
        have s6 : Same H5 (upd H5 p (.tup [.ref rl, .ref D, .int ((st : Nat) : Int)])) := Same.new hp
        refine ⟨[rl, D], .lst (ds.map V.ref), s6 _ _ hds5, trivial, fun o1 => ⟨.lst (natsV es), (by rw [upd_ne hDrl]; exact s6 _ _ hes5), trivial, fun o2 => ?_⟩⟩
        have fx7 : Fx H5 (upd (upd (upd H5 p (.tup [.ref rl, .ref D, .int ((st : Nat) : Int)])) rl (.frz o1 (.lst (ds.map V.ref)))) D (.frz o2 (.lst (natsV es)))) := fun b u hb f => by
          have n1 : b ≠ D := fun z => by rw [z, hes5] at hb; cases hb; exact f
          have n2 : b ≠ rl := fun z => by rw [z, hds5] at hb; cases hb; exact f
          rw [upd_ne n1, upd_ne n2]
          exact s6 _ _ hb
        refine k p _ ⟨rs, es, st⟩ (((dx5.new hp).upd hrlH hrlg).upd hDH hDg) ⟨⟨rl, D, ds, o1, o2, ?_, ?_, upd_same, ?_⟩⟩ ?_
        · rw [upd_ne hpD, upd_ne hprl, upd_same]
        · rw [upd_ne hDrl.symm, upd_same]
        · exact RowsAt.fx (((d3.trans dr5).fx dx.rng).trans fx7) hrs
        · exact ⟨(by show 1 ≤ rs.length; omega), (by show rs.length ≤ 6; omega), (fun r hr => by show RowB ps ts ms rs.length r; rw [hrsl]; exact hrb r hr), (fun e he => by show e < rs.length; rw [hrsl]; exact hlt e he), (hinc.imp fun h => Nat.ne_of_lt h), (by show st < rs.length; rw [hrsl]; exact hst)⟩
end
end K17
end TW4
section TW5
set_option Elab.async false
set_option linter.all false
set_option maxRecDepth 100000
set_option maxHeartbeats 4000000
/-! Rows written as dicts; the families. -/
namespace K17
open PySem PySem.Spec PyProof.Rows L2 LamX
abbrev En := Nat × Nat × Option Nat
def oTE : Option Nat → TE
  | none => tC .non
  | some i => tVar i
def enTE (e : En) : TE × TE := (tVar e.1, tTup (tCons (tC (.int (e.2.1 : Int))) (tCons (oTE e.2.2) tNil)))
def OV (σ : L2.St) : Option Nat → Option Str → Prop
  | none, t => t = none
  | some i, t => σ[i]? = some (some (toldV t))
def EV (σ : L2.St) (e : En) (x : Nat × Nat × Option Str) : Prop := σ[e.1]? = some (some (.str (sg x.1))) ∧ x.2.1 = e.2.1 ∧ OV σ e.2.2 x.2.2
theorem oTE_run {σ : L2.St} {H : Hp} {Q : VK} : ∀ {o : Option Nat} {t : Option Str}, OV σ o t → Q (toldV t) H → oTE o σ H Q
  | none, _, h, q => by
    have h : _ = none := h
    subst h
    exact q
  | some i, _, h, q => ⟨_, h, q⟩
theorem row_pairs {σ : L2.St} : ∀ {es : List En} {r : Row Str}, Paired (EV σ) es r → ∀ (H : Hp) (K : List (V × V) → Hp → Prop),
    (∀ H' nk, Same H H' → KRow H' nk r → K (nk.map fun kv : Key × V => (kV kv.1, kv.2)) H') → tPairs (es.map enTE) σ H K
  | _, _, .nil, H, K, k => k H [] (fun _ _ e => e) .nil
  | e :: es, x :: r, .cons h t, H, K, k => by
    obtain ⟨h1, h2, h3⟩ := h
    refine ⟨_, h1, oTE_run h3 ⟨by show 2 ≤ sizeLine; decide, fun p hp => ?_⟩⟩
    have s1 : Same H (upd H p (.tup [.int (e.2.1 : Int), toldV x.2.2])) := Same.new hp
    refine row_pairs t _ _ fun H' nk s hk => k H' ((Sum.inr (sg x.1), .ref p) :: nk) (s1.trans s) (.cons ⟨rfl, p, rfl, ?_⟩ hk)
    show H' p = _
    rw [s p _ upd_same, h2]
/-- where a row comes from -/
abbrev RSrc := L2.St → Hp → Row Str → Prop
def srcD (es : List En) : RSrc := fun σ H r => Paired (EV σ) es r ∧ (r.map (·.1)).Nodup
def srcV (i : Nat) : RSrc := fun σ H r => ∃ d, σ[i]? = some (some (.ref d)) ∧ RowAt H d r
def tRowS (src : RSrc) : TE := fun σ H Q => ∃ r, src σ H r ∧ ∀ e H', Same H H' → RowAt H' e r → Q (.ref e) H'
def tRowsA (srcs : List RSrc) : TA := fun σ H Q => ∃ rs, Paired (fun src r => ∀ H', Same H H' → src σ H' r) srcs rs ∧ ∀ ds H', Same H H' → RowsAt H' ds rs → Q (ds.map V.ref) H'
section
variable {X : Cx}
theorem pe_imp {e : Expr} {t t' : TE} (h : PE X e t) (i : ∀ σ H Q, t' σ H Q → t σ H Q) : PE X e t' := ⟨fun pins s σ H Q I q => h.run pins s σ H Q I (i σ H Q q)⟩
theorem pa_imp {e : List Expr} {t t' : TA} (h : PA X e t) (i : ∀ σ H Q, t' σ H Q → t σ H Q) : PA X e t' := ⟨fun pos pins s σ H Q I q => h.run pos pins s σ H Q I (i σ H Q q)⟩
theorem row_merge {H : Hp} {nk : List (Key × V)} {r : Row Str} (h : KRow H nk r) (nd : (r.map (·.1)).Nodup) : mergeK [] nk = nk := by
  rw [merge_nd]
  · rfl
  · rw [List.nil_append, krow_keys h]
    rw [List.nodup_iff_pairwise_ne, List.pairwise_map] at nd
    rw [List.nodup_iff_pairwise_ne, List.pairwise_map]
    exact nd.imp fun h z => h (sg_inj (Sum.inr.inj z))
theorem pe_rowD {pos : Pos} {keys : List (Option Expr)} {values : List Expr} (es : List En) (h : PPs X pos keys values (es.map enTE)) (hall : keys.all (·.isSome) = true) (hl : keys.length = values.length) (h0 : keys ≠ []) (h15 : keys.length ≤ 15) (he : es.length ≤ 15) :
    PE X (.Dict keys values pos) (tRowS (srcD es)) := by
  refine pe_imp (pe_frz (pe_disp h hall hl h0 h15)) fun σ H Q ⟨r, ⟨hp, nd⟩, q⟩ => ?_
  intro p hp0
  refine row_pairs hp _ _ fun H' nk s hk => ⟨s _ _ upd_same, nk, rfl, ?_, ?_⟩
  · rw [Paired.len hk, ← Paired.len hp]
    exact he
  · rw [row_merge hk nd]
    refine ⟨[p], _, upd_same, trivial, fun od => q p _ (fun b u hb => ?_) ⟨od, nk, upd_same, ?_⟩⟩
    · have n := ne_of_none hb hp0
      rw [upd_ne n, upd_ne n]
      exact s b u (by rw [upd_ne n]; exact hb)
    · refine hk.fx fun b u hb f => ?_
      have n : b ≠ p := fun z => by
        rw [z, s p _ upd_same] at hb
        cases hb
        exact f
      rw [upd_ne n, upd_ne n]
      exact hb
theorem pe_row0 {pos : Pos} : PE X (.Dict [] [] pos) (tRowS (srcD [])) := by
  refine pe_imp (pe_frz pe_dnewK) fun σ H Q ⟨r, ⟨hp, nd⟩, q⟩ => ?_
  cases hp
  intro p hp0
  refine ⟨[p], _, upd_same, trivial, fun od => q p _ (fun b u hb => ?_) ⟨od, [], upd_same, .nil⟩⟩
  have n := ne_of_none hb hp0
  rw [upd_ne n, upd_ne n]
  exact hb
theorem pe_rowV {e : Expr} {i : Nat} (h : PE X e (tVar i)) : PE X e (tRowS (srcV i)) :=
  pe_imp h fun σ H Q ⟨r, ⟨d, h1, h2⟩, q⟩ => ⟨_, h1, q d H (fun _ _ e => e) h2⟩
theorem pa_rows0 : PA X [] (tRowsA []) := pa_imp pa_nil fun σ H Q ⟨rs, h, q⟩ => by
  cases h
  exact q [] H (fun _ _ e => e) .nil
theorem pa_rows {e : Expr} {es : List Expr} {src : RSrc} {srcs : List RSrc} (h : PE X e (tRowS src)) (t : PA X es (tRowsA srcs)) (hs : starEach (e :: es) X.env = (false, eval e X.env) :: starEach es X.env := by rfl) : PA X (e :: es) (tRowsA (src :: srcs)) := by
  refine pa_imp (pa_cons h t hs) fun σ H Q ⟨rs, hp, q⟩ => ?_
  cases hp with
  | cons h1 h2 =>
    rename_i r rs
    refine ⟨r, h1 H fun _ _ e => e, fun e H1 s1 he => ⟨rs, Paired.mapP h2 fun _ _ z H' s' => z H' (s1.trans s'), fun ds H2 s2 hd => q (e :: ds) H2 (s1.trans s2) (.cons (he.same s2) hd)⟩⟩
/-- ([rows], [ends], start) -/
def tModel (srcs : List RSrc) (ends : List Nat) (st : Nat) : TE := fun σ H Q => ∃ rs, Paired (fun src r => ∀ H', Same H H' → src σ H' r) srcs rs ∧ rs.length ≤ 15 ∧ ∀ m H', Same H H' → ModelAt H' m ⟨rs, ends, st⟩ → Q (.ref m) H'
theorem pe_model {rows ends : List Expr} {p1 p2 p3 : Pos} {x1} {srcs : List RSrc} {es : List Nat} {st : Nat} {te : TA} {e0 : Expr} (hr : PA X rows (tRowsA srcs)) (he : PA X ends te) (h0 : PE X e0 (tC (.int (st : Int))))
    (hes : ∀ σ H Q, Q (natsV es) H → te σ H Q) (hel : es.length ≤ 15) (hs : starEach [.List rows p1, .List ends p2, e0] X.env = (false, eval (.List rows p1) X.env) :: starEach [.List ends p2, e0] X.env := by rfl)
    (hs2 : starEach [.List ends p2, e0] X.env = (false, eval (.List ends p2) X.env) :: starEach [e0] X.env := by rfl) (hs3 : starEach [e0] X.env = [(false, eval e0 X.env)] := by rfl) :
    PE X (.Tuple [.List rows p1, .List ends p2, e0] x1 p3) (tModel srcs es st) := by
  refine pe_imp (pe_frz (pe_tup (pa_cons (pe_lst hr) (pa_cons (pe_lst he) (pa1 h0 hs3) hs2) hs))) fun σ H Q ⟨rs, hp, hl, q⟩ => ?_
  refine ⟨rs, hp, fun ds H1 s1 hds => ?_⟩
  have hdl : ds.length = rs.length := Paired.len hds
  refine ⟨by rw [List.length_map]; exact Nat.le_of_lt (lt_line (by omega)), fun rl hrl => hes σ _ _ ⟨by rw [List.length_map]; exact Nat.le_of_lt (lt_line (by omega)), fun sl hsl => ⟨by show 3 ≤ sizeLine; decide, fun p hp => ?_⟩⟩⟩
  have s2 : Same H1 (upd H1 rl (.lst (ds.map V.ref))) := Same.new hrl
  have s3 := Same.new (o := .lst (natsV es)) hsl
  have s4 := Same.new (o := .tup [.ref rl, .ref sl, .int (st : Int)]) hp
  have hrl3 : (upd (upd H1 rl (.lst (ds.map V.ref))) sl (.lst (natsV es))) rl = some (.lst (ds.map V.ref)) := s3 _ _ upd_same
  have hsl3 : (upd (upd H1 rl (.lst (ds.map V.ref))) sl (.lst (natsV es))) sl = some (.lst (natsV es)) := upd_same
  have hne : sl ≠ rl := fun z => by rw [z, upd_same] at hsl; cases hsl
  have hpr : p ≠ rl := fun z => by rw [z, hrl3] at hp; cases hp
  have hps : p ≠ sl := fun z => by rw [z, hsl3] at hp; cases hp
  refine ⟨[rl, sl], .lst (ds.map V.ref), s4 _ _ hrl3, trivial, fun o1 => ⟨.lst (natsV es), by rw [upd_ne hne]; exact s4 _ _ hsl3, trivial, fun o2 => ?_⟩⟩
  have hsl1 : H1 sl = none := Same.free s2 hsl
  have sA : Same H1 (upd (upd (upd (upd (upd H1 rl (.lst (ds.map V.ref))) sl (.lst (natsV es))) p (.tup [.ref rl, .ref sl, .int (st : Int)])) rl (.frz o1 (.lst (ds.map V.ref)))) sl (.frz o2 (.lst (natsV es)))) := Same.updN (Same.updN (s2.trans (s3.trans s4)) hrl) hsl1
  refine q p _ (s1.trans sA) ⟨⟨rl, sl, ds, o1, o2, ?_, ?_, upd_same, RowsAt.same sA hds⟩⟩
  · rw [upd_ne hps, upd_ne hpr, upd_same]
  · rw [upd_ne hne.symm, upd_same]
end
end K17
end TW5
section TW6
set_option Elab.async false
set_option linter.all false
set_option maxRecDepth 100000
set_option maxHeartbeats 4000000
/-! _law_family. -/
namespace K17
open PySem PySem.Spec PyProof.Rows L2 LamX
def AllL {α : Type} (p : α → Prop) : List α → Prop
  | [] => True
  | x :: l => p x ∧ AllL p l
theorem AllL.at {α : Type} {p : α → Prop} : ∀ {l : List α}, AllL p l → ∀ x ∈ l, p x
  | y :: l, h, x, hx => by
    rcases List.mem_cons.mp hx with e | e
    · rw [e]; exact h.1
    · exact AllL.at h.2 x e
theorem cut_take (xs : List V) (n : Nat) : cutV xs none (some (n : Int)) = xs.take n := by
  unfold cutV
  rw [HT.sIx_none, HT.sIx_nat, List.drop_zero, Nat.sub_zero]
  by_cases h : n ≤ xs.length
  · rw [Nat.min_eq_left h]
  · rw [Nat.min_eq_right (by omega), List.take_length, List.take_of_length_le (by omega)]
section
variable {P : Program} {w : World} {K : PySem.W.Frag} {mg : Str → Option Value} {base : Heap}
def spFamily : Sp := fun vs H Q E => ∃ (pa ta ma : Addr) (ps ts : List Nat) (ms : List Str) (way : Nat), vs = [.int (way : Int), .ref pa, .ref ta, .ref ma] ∧ Stuff ps ts ms ∧ StuffAt H pa ta ma ps ts ms ∧ ∀ m H' R, Same H H' → ModelAt H' m R → MdlB ps ts ms R → Q (.ref m) H'
theorem scFamily : FnScope ["_law_way", "_law_paper", "_law_tells", "_law_marks_here", "_law_p", "_law_q", "_law_r", "_law_a", "_law_b", "_law_m", "_law_n", "_law_core"] ["_law_way", "_law_paper", "_law_tells", "_law_marks_here"] (defScope (top 48)) := ⟨rfl, rfl, rfl, by decide +kernel, rfl, by decide +kernel, by decide +kernel⟩
theorem paired_src {σ : L2.St} {H : Hp} {es : List En} {r : Row Str} (h : Paired (EV σ) es r) (nd : (r.map (·.1)).Nodup) : ∀ H', Same H H' → srcD es σ H' r := fun _ _ => ⟨h, nd⟩
theorem rowB_of {ps ts : List Nat} {ms : List Str} {n c0 c1 c2 a b : Nat} {m1 m2 : Str} {r : Row Str} (h0 : c0 ∈ ps) (h1 : c1 ∈ ps) (h2 : c2 ∈ ps) (ha : a ∈ ts) (hb : b ∈ ts) (hm : m1 ∈ ms) (hn : m2 ∈ ms)
    (h : (r.map (·.1)).Nodup ∧ ∀ e ∈ r, (e.1 = c0 ∨ e.1 = c1 ∨ e.1 = c2) ∧ e.2.1 < n ∧ (e.2.2 = none ∨ e.2.2 = some (sg a) ∨ e.2.2 = some (sg b) ∨ e.2.2 = some m1 ∨ e.2.2 = some m2)) : RowB ps ts ms n r := ⟨h.1, fun e he => by
  obtain ⟨x, y, z⟩ := h.2 e he
  refine ⟨?_, y, ?_⟩
  · rcases x with x | x | x <;> rw [x] <;> assumption
  · rcases z with z | z | z | z | z
    · exact .inl z
    · exact .inr (.inl ⟨_, ha, z⟩)
    · exact .inr (.inl ⟨_, hb, z⟩)
    · exact .inr (.inr ⟨_, hm, z⟩)
    · exact .inr (.inr ⟨_, hn, z⟩)⟩
theorem d_family (T : Tx K mg) : Def P w K mg base CX0 1 "_law_family" ["_law_way", "_law_paper", "_law_tells", "_law_marks_here"] spFamily := by
  refine def_of T 30 48 ["_law_way", "_law_paper", "_law_tells", "_law_marks_here", "_law_p", "_law_q", "_law_r", "_law_a", "_law_b", "_law_m", "_law_n", "_law_core"] rfl scFamily (fun _ _ _ _ _ _ us hl => match us, hl with | [_, _, _, _], _ => rfl) (fun vs H Q E h => ?_) (fun f cdv A outer s H vs Q E hr h => ?_)
  · obtain ⟨pa, ta, ma, ps, ts, ms, way, rfl, _⟩ := h; rfl
  · obtain ⟨pa, ta, ma, ps, ts, ms, way, rfl, S, hS, k⟩ := h
    have nd := scFamily.nd
    refine ⟨_, pss_cons (ps_asg (pe_slice sl_list (pv 1) po_none (po_some pe_int)) (g := gUnl K 3 (gCons (gName 4) (gCons (gName 5) (gCons (gName 6) gNil)))) (pg_unl rfl (pgs_cons (pg_name (i := 4) nd rfl (Or.inl rfl)) (pgs_cons (pg_name (i := 5) nd rfl (Or.inl rfl)) (pgs_cons (pg_name (i := 6) nd rfl (Or.inl rfl)) pgs_nil)))))
      (pss_cons (ps_asg (pe_slice sl_list (pv 2) po_none (po_some pe_int)) (g := gUnl K 2 (gCons (gName 7) (gCons (gName 8) gNil))) (pg_unl rfl (pgs_cons (pg_name (i := 7) nd rfl (Or.inl rfl)) (pgs_cons (pg_name (i := 8) nd rfl (Or.inl rfl)) pgs_nil))))
      (pss_cons (ps_asg (pe_slice sl_list (pv 3) po_none (po_some pe_int)) (g := gUnl K 2 (gCons (gName 9) (gCons (gName 10) gNil))) (pg_unl rfl (pgs_cons (pg_name (i := 9) nd rfl (Or.inl rfl)) (pgs_cons (pg_name (i := 10) nd rfl (Or.inl rfl)) pgs_nil))))
      (pss_cons (ps_if (pt_cmpR op_eq (pv 0) pe_int (nomark _))
        (pss_cons (ps_set (i := 11) nd rfl (Or.inl rfl) (pe_rowD [(4, 1, some 7), (5, 2, some 10), (6, 3, none)] (pps_cons (pv 4) (pe_tup (pa_cons pe_int (pa1 (pv 7)))) (pps_cons (pv 5) (pe_tup (pa_cons pe_int (pa1 (pv 10)))) (pps_cons (pv 6) (pe_tup (pa_cons pe_int (pa1 pe_non))) pps_nil))) rfl rfl (by simp) (by decide) (by decide)))
        (pss_one (ps_ret (pe_model (es := [2]) (st := 0) (pa_rows (pe_rowD [(5, 1, some 9)] (pps_cons (pv 5) (pe_tup (pa_cons pe_int (pa1 (pv 9)))) pps_nil) rfl rfl (by simp) (by decide) (by decide)) (pa_rows (pe_rowV (pv 11)) (pa_rows pe_row0 (pa_rows (pe_rowD [(5, 1, some 8), (6, 1, some 7)] (pps_cons (pv 5) (pe_tup (pa_cons pe_int (pa1 (pv 8)))) (pps_cons (pv 6) (pe_tup (pa_cons pe_int (pa1 (pv 7)))) pps_nil)) rfl rfl (by simp) (by decide) (by decide)) pa_rows0)))) (pa1 pe_int) pe_int (fun σ H Q q => q) (by decide))))) pss_nil)
      (pss_cons (ps_if (pt_cmpR op_eq (pv 0) pe_int (nomark _))
        (pss_one (ps_ret (pe_model (es := [3]) (st := 0) (pa_rows (pe_rowD [(5, 1, some 9)] (pps_cons (pv 5) (pe_tup (pa_cons pe_int (pa1 (pv 9)))) pps_nil) rfl rfl (by simp) (by decide) (by decide)) (pa_rows (pe_rowD [(4, 1, some 7), (5, 2, none)] (pps_cons (pv 4) (pe_tup (pa_cons pe_int (pa1 (pv 7)))) (pps_cons (pv 5) (pe_tup (pa_cons pe_int (pa1 pe_non))) pps_nil)) rfl rfl (by simp) (by decide) (by decide))
            (pa_rows (pe_rowD [(5, 1, some 8), (6, 3, some 10)] (pps_cons (pv 5) (pe_tup (pa_cons pe_int (pa1 (pv 8)))) (pps_cons (pv 6) (pe_tup (pa_cons pe_int (pa1 (pv 10)))) pps_nil)) rfl rfl (by simp) (by decide) (by decide)) (pa_rows pe_row0 pa_rows0)))) (pa1 pe_int) pe_int (fun σ H Q q => q) (by decide)))) pss_nil)
      (pss_cons (ps_if (pt_cmpR op_eq (pv 0) pe_int (nomark _))
        (pss_one (ps_ret (pe_model (es := [2, 3]) (st := 0) (pa_rows (pe_rowD [(4, 0, some 7), (5, 1, some 7), (6, 2, some 9)] (pps_cons (pv 4) (pe_tup (pa_cons pe_int (pa1 (pv 7)))) (pps_cons (pv 5) (pe_tup (pa_cons pe_int (pa1 (pv 7)))) (pps_cons (pv 6) (pe_tup (pa_cons pe_int (pa1 (pv 9)))) pps_nil))) rfl rfl (by simp) (by decide) (by decide)) (pa_rows (pe_rowD [(6, 2, some 9)] (pps_cons (pv 6) (pe_tup (pa_cons pe_int (pa1 (pv 9)))) pps_nil) rfl rfl (by simp) (by decide) (by decide))
            (pa_rows (pe_rowD [(4, 2, some 8), (5, 3, some 8), (6, 3, some 10)] (pps_cons (pv 4) (pe_tup (pa_cons pe_int (pa1 (pv 8)))) (pps_cons (pv 5) (pe_tup (pa_cons pe_int (pa1 (pv 8)))) (pps_cons (pv 6) (pe_tup (pa_cons pe_int (pa1 (pv 10)))) pps_nil))) rfl rfl (by simp) (by decide) (by decide)) (pa_rows pe_row0 pa_rows0)))) (pa_cons pe_int (pa1 pe_int)) pe_int (fun σ H Q q => q) (by decide)))) pss_nil)
      (pss_cons (ps_if (pt_cmpR op_eq (pv 0) pe_int (nomark _))
        (pss_one (ps_ret (pe_model (es := [0, 1]) (st := 0) (pa_rows (pe_rowD [(4, 1, some 7), (5, 2, some 7)] (pps_cons (pv 4) (pe_tup (pa_cons pe_int (pa1 (pv 7)))) (pps_cons (pv 5) (pe_tup (pa_cons pe_int (pa1 (pv 7)))) pps_nil)) rfl rfl (by simp) (by decide) (by decide)) (pa_rows (pe_rowD [(4, 2, some 7), (6, 0, some 9)] (pps_cons (pv 4) (pe_tup (pa_cons pe_int (pa1 (pv 7)))) (pps_cons (pv 6) (pe_tup (pa_cons pe_int (pa1 (pv 9)))) pps_nil)) rfl rfl (by simp) (by decide) (by decide))
            (pa_rows (pe_rowD [(4, 1, some 7), (5, 1, some 8)] (pps_cons (pv 4) (pe_tup (pa_cons pe_int (pa1 (pv 7)))) (pps_cons (pv 5) (pe_tup (pa_cons pe_int (pa1 (pv 8)))) pps_nil)) rfl rfl (by simp) (by decide) (by decide)) pa_rows0))) (pa_cons pe_int (pa1 pe_int)) pe_int (fun σ H Q q => q) (by decide)))) pss_nil)
      (pss_one (ps_ret (pe_model (es := [0, 2]) (st := 0) (pa_rows (pe_rowD [(4, 1, none), (5, 2, some 9)] (pps_cons (pv 4) (pe_tup (pa_cons pe_int (pa1 pe_non))) (pps_cons (pv 5) (pe_tup (pa_cons pe_int (pa1 (pv 9)))) pps_nil)) rfl rfl (by simp) (by decide) (by decide)) (pa_rows (pe_rowD [(4, 0, some 7), (5, 0, some 8)] (pps_cons (pv 4) (pe_tup (pa_cons pe_int (pa1 (pv 7)))) (pps_cons (pv 5) (pe_tup (pa_cons pe_int (pa1 (pv 8)))) pps_nil)) rfl rfl (by simp) (by decide) (by decide))
            (pa_rows (pe_rowD [(4, 2, none), (6, 0, some 10)] (pps_cons (pv 4) (pe_tup (pa_cons pe_int (pa1 pe_non))) (pps_cons (pv 6) (pe_tup (pa_cons pe_int (pa1 (pv 10)))) pps_nil)) rfl rfl (by simp) (by decide) (by decide)) pa_rows0))) (pa_cons pe_int (pa1 pe_int)) pe_int (fun σ H Q q => q) (by decide)))))))))), ?_⟩
    have hps : ∃ c0 c1 c2 ps', ps = c0 :: c1 :: c2 :: ps' := by
      have := S.p3
      match ps, this with
      | c0 :: c1 :: c2 :: ps', _ => exact ⟨c0, c1, c2, ps', rfl⟩
    have hts : ∃ a b ts', ts = a :: b :: ts' := by
      have := S.t2
      match ts, this with
      | a :: b :: ts', _ => exact ⟨a, b, ts', rfl⟩
    have hms : ∃ m1 m2, ms = [m1, m2] := by
      have := S.m2
      match ms, this with
      | [m1, m2], _ => exact ⟨m1, m2, rfl⟩
    obtain ⟨c0, c1, c2, ps', rfl⟩ := hps
    obtain ⟨a, b, ts', rfl⟩ := hts
    obtain ⟨m1, m2, rfl⟩ := hms
    have hnd := S.pnd
    have h01 : ¬ c0 = c1 := fun z => by rw [List.nodup_cons] at hnd; exact hnd.1 (by rw [z]; simp)
    have h02 : ¬ c0 = c2 := fun z => by rw [List.nodup_cons] at hnd; exact hnd.1 (by rw [z]; simp)
    have h12 : ¬ c1 = c2 := fun z => by rw [List.nodup_cons, List.nodup_cons] at hnd; exact hnd.2.1 (by rw [z]; simp)
    refine ⟨_, rfl, 3, rfl, pa, _, rfl, SqL.of hS.p, fun q1 hq1 => ?_⟩
    have e3 : cutV (sgsV (c0 :: c1 :: c2 :: ps')) none (some (3 : Int)) = [.str (sg c0), .str (sg c1), .str (sg c2)] := (cut_take _ 3).trans rfl
    rw [e3]
    have s1 : Same H (upd H q1 (.lst [.str (sg c0), .str (sg c1), .str (sg c2)])) := Same.new hq1
    refine ⟨q1, _, rfl, SqL.of upd_same, rfl, _, _, rfl, _, _, rfl, _, _, rfl, rfl, ?_⟩
    refine ⟨_, rfl, 2, rfl, ta, _, rfl, SqL.of (s1 _ _ hS.t), fun q2 hq2 => ?_⟩
    have e2 : cutV (sgsV (a :: b :: ts')) none (some (2 : Int)) = [.str (sg a), .str (sg b)] := (cut_take _ 2).trans rfl
    rw [e2]
    have s2 := s1.trans (Same.new (o := .lst [.str (sg a), .str (sg b)]) hq2)
    refine ⟨q2, _, rfl, SqL.of upd_same, rfl, _, _, rfl, _, _, rfl, rfl, ?_⟩
    refine ⟨_, rfl, 2, rfl, ma, _, rfl, SqL.of (s2 _ _ hS.m), fun q3 hq3 => ?_⟩
    have e4 : cutV (strV [m1, m2]) none (some (2 : Int)) = [.str m1, .str m2] := (cut_take _ 2).trans rfl
    rw [e4]
    have s3 := s2.trans (Same.new (o := .lst [.str m1, .str m2]) hq3)
    refine ⟨q3, _, rfl, SqL.of upd_same, rfl, _, _, rfl, _, _, rfl, rfl, ?_⟩
    have fin : ∀ (srcs : List RSrc) (es : List Nat) (rs : List (Row Str)) (σ : L2.St) (H1 : Hp), Same H H1 → Paired (fun src (r : Row Str) => (r.map (·.1)).Nodup → ∀ H', Same H1 H' → src σ H' r) srcs rs → 1 ≤ rs.length → rs.length ≤ 6 →
        AllL (fun r : Row Str => (r.map (·.1)).Nodup ∧ AllL (fun e : Nat × Nat × Option Str => (e.1 = c0 ∨ e.1 = c1 ∨ e.1 = c2) ∧ e.2.1 < rs.length ∧ (e.2.2 = none ∨ e.2.2 = some (sg a) ∨ e.2.2 = some (sg b) ∨ e.2.2 = some m1 ∨ e.2.2 = some m2)) r) rs → (∀ e ∈ es, e < rs.length) → es.Nodup → tModel srcs es 0 σ H1 Q := by
      intro srcs es rs σ H1 sH hp h1 h6 hg0 he hn
      have hg := fun r hr => (⟨(hg0.at r hr).1, (hg0.at r hr).2.at⟩ : (r.map (·.1)).Nodup ∧ ∀ e ∈ r, (e.1 = c0 ∨ e.1 = c1 ∨ e.1 = c2) ∧ e.2.1 < rs.length ∧ (e.2.2 = none ∨ e.2.2 = some (sg a) ∨ e.2.2 = some (sg b) ∨ e.2.2 = some m1 ∨ e.2.2 = some m2))
      have hp2 : ∀ {srcs : List RSrc} {rs' : List (Row Str)}, Paired (fun src (r : Row Str) => (r.map (·.1)).Nodup → ∀ H', Same H1 H' → src σ H' r) srcs rs' → (∀ r ∈ rs', (r.map (·.1)).Nodup) → Paired (fun src r => ∀ H', Same H1 H' → src σ H' r) srcs rs' := by
        intro srcs rs' h
        induction h with
        | nil => exact fun _ => .nil
        | cons h t ih => exact fun hh => .cons (h (hh _ List.mem_cons_self)) (ih fun r hr => hh r (List.mem_cons_of_mem _ hr))
      exact ⟨rs, hp2 hp fun r hr => (hg r hr).1, by omega, fun m H' s hm => k m H' _ (sH.trans s) hm ⟨h1, h6, (fun r hr => rowB_of (c0 := c0) (c1 := c1) (c2 := c2) (a := a) (b := b) (m1 := m1) (m2 := m2) (by simp) (by simp) (by simp) (by simp) (by simp) (by simp) (by simp) (hg r hr)), he, hn, h1⟩⟩
    have wne : ∀ n : Nat, way ≠ n → V.int (way : Int) ≠ V.int (n : Int) := fun n h z => h (natInt_inj _ _ (V.int.inj z))
    refine ⟨_, rfl, rfl, ?_⟩
    by_cases w0 : way = 0
    · subst w0
      refine ⟨true, congrArg V.bl (decide_eq_true rfl), iteT ?_⟩
      refine ⟨[(c0, 1, some (sg a)), (c1, 2, some m2), (c2, 3, none)], ⟨.cons ⟨rfl, rfl, rfl⟩ (.cons ⟨rfl, rfl, rfl⟩ (.cons ⟨rfl, rfl, rfl⟩ .nil)), by simp [h01, h02, h12]⟩, fun d H4 s4 hd => ?_⟩
      exact fin _ [2] [[(c1, 1, some m1)], [(c0, 1, some (sg a)), (c1, 2, some m2), (c2, 3, none)], [], [(c1, 1, some (sg b)), (c2, 1, some (sg a))]] _ _ (s3.trans s4)
        (.cons (fun nd _ _ => ⟨.cons ⟨rfl, rfl, rfl⟩ .nil, nd⟩) (.cons (fun nd _ s => ⟨d, rfl, hd.same s⟩) (.cons (fun nd _ _ => ⟨.nil, nd⟩) (.cons (fun nd _ _ => ⟨.cons ⟨rfl, rfl, rfl⟩ (.cons ⟨rfl, rfl, rfl⟩ .nil), nd⟩) .nil))))
        (by simp) (by simp) (by simp [AllL, h01, h02, h12]) (by simp) (by simp)
    · refine ⟨false, congrArg V.bl (decide_eq_false (wne 0 w0)), iteF ?_⟩
      refine ⟨_, rfl, rfl, ?_⟩
      by_cases w1 : way = 1
      · subst w1
        refine ⟨true, congrArg V.bl (decide_eq_true rfl), iteT ?_⟩
        exact fin _ [3] [[(c1, 1, some m1)], [(c0, 1, some (sg a)), (c1, 2, none)], [(c1, 1, some (sg b)), (c2, 3, some m2)], []] _ _ s3
          (.cons (fun nd _ _ => ⟨.cons ⟨rfl, rfl, rfl⟩ .nil, nd⟩) (.cons (fun nd _ _ => ⟨.cons ⟨rfl, rfl, rfl⟩ (.cons ⟨rfl, rfl, rfl⟩ .nil), nd⟩) (.cons (fun nd _ _ => ⟨.cons ⟨rfl, rfl, rfl⟩ (.cons ⟨rfl, rfl, rfl⟩ .nil), nd⟩) (.cons (fun nd _ _ => ⟨.nil, nd⟩) .nil))))
          (by simp) (by simp) (by simp [AllL, h01, h02, h12]) (by simp) (by simp)
      · refine ⟨false, congrArg V.bl (decide_eq_false (wne 1 w1)), iteF ?_⟩
        refine ⟨_, rfl, rfl, ?_⟩
        by_cases w2 : way = 2
        · subst w2
          refine ⟨true, congrArg V.bl (decide_eq_true rfl), iteT ?_⟩
          exact fin _ [2, 3] [[(c0, 0, some (sg a)), (c1, 1, some (sg a)), (c2, 2, some m1)], [(c2, 2, some m1)], [(c0, 2, some (sg b)), (c1, 3, some (sg b)), (c2, 3, some m2)], []] _ _ s3
            (.cons (fun nd _ _ => ⟨.cons ⟨rfl, rfl, rfl⟩ (.cons ⟨rfl, rfl, rfl⟩ (.cons ⟨rfl, rfl, rfl⟩ .nil)), nd⟩) (.cons (fun nd _ _ => ⟨.cons ⟨rfl, rfl, rfl⟩ .nil, nd⟩) (.cons (fun nd _ _ => ⟨.cons ⟨rfl, rfl, rfl⟩ (.cons ⟨rfl, rfl, rfl⟩ (.cons ⟨rfl, rfl, rfl⟩ .nil)), nd⟩) (.cons (fun nd _ _ => ⟨.nil, nd⟩) .nil))))
            (by simp) (by simp) (by simp [AllL, h01, h02, h12]) (by simp) (by simp)
        · refine ⟨false, congrArg V.bl (decide_eq_false (wne 2 w2)), iteF ?_⟩
          refine ⟨_, rfl, rfl, ?_⟩
          by_cases w3 : way = 3
          · subst w3
            refine ⟨true, congrArg V.bl (decide_eq_true rfl), iteT ?_⟩
            exact fin _ [0, 1] [[(c0, 1, some (sg a)), (c1, 2, some (sg a))], [(c0, 2, some (sg a)), (c2, 0, some m1)], [(c0, 1, some (sg a)), (c1, 1, some (sg b))]] _ _ s3
              (.cons (fun nd _ _ => ⟨.cons ⟨rfl, rfl, rfl⟩ (.cons ⟨rfl, rfl, rfl⟩ .nil), nd⟩) (.cons (fun nd _ _ => ⟨.cons ⟨rfl, rfl, rfl⟩ (.cons ⟨rfl, rfl, rfl⟩ .nil), nd⟩) (.cons (fun nd _ _ => ⟨.cons ⟨rfl, rfl, rfl⟩ (.cons ⟨rfl, rfl, rfl⟩ .nil), nd⟩) .nil)))
              (by simp) (by simp) (by simp [AllL, h01, h02, h12]) (by simp) (by simp)
          · refine ⟨false, congrArg V.bl (decide_eq_false (wne 3 w3)), iteF ?_⟩
            exact fin _ [0, 2] [[(c0, 1, none), (c1, 2, some m1)], [(c0, 0, some (sg a)), (c1, 0, some (sg b))], [(c0, 2, none), (c2, 0, some m2)]] _ _ s3
              (.cons (fun nd _ _ => ⟨.cons ⟨rfl, rfl, rfl⟩ (.cons ⟨rfl, rfl, rfl⟩ .nil), nd⟩) (.cons (fun nd _ _ => ⟨.cons ⟨rfl, rfl, rfl⟩ (.cons ⟨rfl, rfl, rfl⟩ .nil), nd⟩) (.cons (fun nd _ _ => ⟨.cons ⟨rfl, rfl, rfl⟩ (.cons ⟨rfl, rfl, rfl⟩ .nil), nd⟩) .nil)))
              (by simp) (by simp) (by simp [AllL, h01, h02, h12]) (by simp) (by simp)
end
end K17
end TW6
section TW7
set_option Elab.async false
set_option linter.all false
set_option maxRecDepth 100000
set_option maxHeartbeats 4000000
/-! _law_bent, _law_thinned. -/
namespace K17
open PySem PySem.Spec PyProof.Rows L2 LamX
def putR (r : Row Str) (c : Nat) (x : Nat × Option Str) : Row Str := if (r.any fun e => decide (e.1 = c)) = true then r.map fun e => if e.1 = c then (c, x) else e else r ++ [(c, x)]
theorem krow_any {H : Hp} (c : Nat) : ∀ {kvs : List (Key × V)} {r : Row Str}, KRow H kvs r → (kvs.any fun kv => decide (kv.1 = (Sum.inr (sg c) : Key))) = r.any fun e => decide (e.1 = c)
  | _, _, .nil => rfl
  | kv :: kvs, e :: r, .cons h t => by
    rw [List.any_cons, List.any_cons, krow_any c t, h.1]
    congr 1
    by_cases z : e.1 = c
    · rw [decide_eq_true z, decide_eq_true (by rw [z])]
    · rw [decide_eq_false z, decide_eq_false fun y => z (sg_inj (Sum.inr.inj y))]
theorem KRow.put {H : Hp} {kvs : List (Key × V)} {r : Row Str} (h : KRow H kvs r) (c : Nat) (x : Nat × Option Str) {m : Addr} (hm : MoveAt H m x) : KRow H (putK kvs (Sum.inr (sg c)) (.ref m)) (putR r c x) := by
  unfold putK putR
  rw [krow_any c h]
  by_cases z : (r.any fun e => decide (e.1 = c)) = true
  · rw [if_pos z, if_pos z]
    clear z
    induction h with
    | nil => exact .nil
    | cons h t ih =>
      rename_i kv e _ _
      rw [List.map_cons, List.map_cons]
      refine .cons ?_ ih
      by_cases y : e.1 = c
      · rw [if_pos (by rw [h.1, y]), if_pos y]
        refine ⟨?_, m, rfl, hm⟩
        show kv.1 = Sum.inr (sg c)
        rw [h.1, y]
      · rw [if_neg (fun w => y (by rw [h.1] at w; exact sg_inj (Sum.inr.inj w))), if_neg y]
        exact h
  · rw [if_neg z, if_neg z]
    exact Paired.app h (.cons ⟨rfl, m, rfl, hm⟩ .nil)
theorem RowB.put {ps ts : List Nat} {ms : List Str} {n : Nat} {r : Row Str} (b : RowB ps ts ms n r) {c : Nat} {x : Nat × Option Str} (hc : c ∈ ps) (hx : x.1 < n) (ht : Tk ts ms x.2) : RowB ps ts ms n (putR r c x) := by
  unfold putR
  by_cases z : (r.any fun e => decide (e.1 = c)) = true
  · rw [if_pos z]
    refine ⟨?_, fun e he => ?_⟩
    · rw [List.map_map]
      have : r.map ((fun x : Nat × Nat × Option Str => x.1) ∘ fun e => if e.1 = c then (c, x) else e) = r.map (·.1) := List.map_congr_left fun e _ => by
        show (if e.1 = c then (c, x) else e).1 = e.1
        by_cases y : e.1 = c
        · rw [if_pos y]; exact y.symm
        · rw [if_neg y]
      rw [this]
      exact b.nd
    · obtain ⟨y, hy, rfl⟩ := List.mem_map.mp he
      by_cases w : y.1 = c
      · rw [if_pos w]; exact ⟨hc, hx, ht⟩
      · rw [if_neg w]; exact b.all y hy
  · rw [if_neg z]
    rw [Bool.not_eq_true, List.any_eq_false] at z
    refine ⟨?_, fun e he => ?_⟩
    · rw [List.map_append, List.nodup_append]
      refine ⟨b.nd, by simp, fun a ha y hy e => ?_⟩
      obtain ⟨q, hq, rfl⟩ := List.mem_map.mp ha
      simp at hy
      subst hy
      exact z q hq (decide_eq_true e)
    · rcases List.mem_append.mp he with y | y
      · exact b.all e y
      · rw [List.mem_singleton] at y
        rw [y]; exact ⟨hc, hx, ht⟩
def dropR (r : Row Str) (c : Nat) : Row Str := r.filter fun e => decide (e.1 ≠ c)
theorem KRow.drop {H : Hp} (c : Nat) : ∀ {kvs : List (Key × V)} {r : Row Str}, KRow H kvs r → KRow H (dropK kvs (Sum.inr (sg c) : Key)) (dropR r c)
  | _, _, .nil => .nil
  | kv :: kvs, e :: r, .cons h t => by
    have ih := KRow.drop c t
    have hk : kv.1 = Sum.inr (sg e.1) := h.1
    by_cases z : e.1 = c
    · have z1 : dropK (kv :: kvs) (Sum.inr (sg c) : Key) = dropK kvs (Sum.inr (sg c)) := List.filter_cons_of_neg (by rw [hk, z]; simp)
      have z2 : dropR (e :: r) c = dropR r c := List.filter_cons_of_neg (by simp [z])
      rw [z1, z2]
      exact ih
    · have hn : ¬ (Sum.inr (sg e.1) : Key) = Sum.inr (sg c) := fun y => z (sg_inj (Sum.inr.inj y))
      have z1 : dropK (kv :: kvs) (Sum.inr (sg c) : Key) = kv :: dropK kvs (Sum.inr (sg c)) := List.filter_cons_of_pos (by rw [hk]; simpa using fun y => z (sg_inj y))
      have z2 : dropR (e :: r) c = e :: dropR r c := List.filter_cons_of_pos (by simp [z])
      rw [z1, z2]
      exact .cons h ih
theorem RowB.sub {ps ts : List Nat} {ms : List Str} {n : Nat} {r r' : Row Str} (b : RowB ps ts ms n r) (s : r'.Sublist r) : RowB ps ts ms n r' := ⟨b.nd.sublist (s.map _), fun e he => b.all e (s.subset he)⟩
/-- rows still open -/
abbrev OpenAt (H : Hp) (es : List Addr) (rs : List (Row Str)) : Prop := Paired (fun (e : Addr) (r : Row Str) => ∃ kvs, H e = some (.dK kvs) ∧ KRow H kvs r) es rs
theorem OpenAt.same {H H' : Hp} (s : Same H H') {es : List Addr} {rs : List (Row Str)} (h : OpenAt H es rs) : OpenAt H' es rs := Paired.mapP h fun _ _ ⟨kvs, a, b⟩ => ⟨kvs, s _ _ a, b.same s⟩
theorem OpenAt.dr {H H' : Hp} {g : Addr} (d : Dr g H H') (hg : RngAt H g) {es : List Addr} {rs : List (Row Str)} (h : OpenAt H es rs) : OpenAt H' es rs := Paired.mapP h fun _ _ ⟨kvs, a, b⟩ => ⟨kvs, d.keep (fun z => by
  obtain ⟨x, y, e⟩ := hg
  rw [z, e] at a
  cases a) a, b.fx (d.fx hg)⟩
/-- one of them changed -/
theorem OpenAt.set {H : Hp} : ∀ {es : List Addr} {rs : List (Row Str)} {i : Nat} {e : Addr} {kvs' : List (Key × V)} {r' : Row Str}, OpenAt H es rs → es.Nodup → es[i]? = some e → KRow H kvs' r' → OpenAt (upd H e (.dK kvs')) es (rs.set i r') := by
  intro es rs i e kvs' r' h
  have main : ∀ {es : List Addr} {rs : List (Row Str)} {i : Nat}, OpenAt H es rs → es.Nodup → es[i]? = some e → (∃ kvs, H e = some (.dK kvs)) → KRow H kvs' r' → OpenAt (upd H e (.dK kvs')) es (rs.set i r') := by
    intro es rs i h nd hi he hk
    obtain ⟨kv0, he⟩ := he
    have fx : Fx H (upd H e (.dK kvs')) := Fx.put he id
    induction h generalizing i with
    | nil => simp at hi
    | cons h t ih =>
      obtain ⟨kvs, h1, h2⟩ := h
      rename_i a b la lb
      have nd' := List.nodup_cons.mp nd
      cases i with
      | zero =>
        obtain rfl : a = e := Option.some.inj hi
        rw [List.set_cons_zero]
        refine .cons ⟨kvs', upd_same, hk.fx fx⟩ (Paired.mapM t fun x y hx ⟨q, h3, h4⟩ => ⟨q, by
          have ne : x ≠ a := fun z => nd'.1 (by rw [← z]; exact hx)
          rw [upd_ne ne]
          exact h3, h4.fx fx⟩)
      | succ i =>
        rw [List.set_cons_succ]
        have hi' : la[i]? = some e := by simpa using hi
        refine .cons ⟨kvs, ?_, h2.fx fx⟩ (ih nd'.2 hi')
        rw [upd_ne (fun z => nd'.1 (by rw [z]; exact List.mem_of_getElem? hi'))]
        exact h1
  intro nd hi hk
  obtain ⟨r, _, kvs, he, _⟩ := Paired.get1 h hi
  exact main h nd hi ⟨kvs, he⟩ hk
/-- open rows, their list, the list of ends: all locked -/
theorem frz_model {H : Hp} {es : List Addr} {rs : List (Row Str)} {D sl p : Addr} {ends : List Nat} {st : Nat} {k : Hp → Prop} (ho : OpenAt H es rs) (hnd : es.Nodup) (hD : H D = some (.lst (es.map V.ref))) (hs : H sl = some (.lst (natsV ends))) (hDs : D ≠ sl) (hp : H p = some (.tup [.ref D, .ref sl, .int (st : Int)]))
    (h : ∀ H', (∀ b, b ∉ es → b ≠ D → b ≠ sl → H' b = H b) → Fx H H' → ModelAt H' p ⟨rs, ends, st⟩ → k H') : FrzTo (es ++ [D, sl]) H k := by
  have hed : ∀ e ∈ es, ∃ kvs, H e = some (.dK kvs) := fun e he => by
    obtain ⟨r, _, kvs, h1, _⟩ := Paired.mem1 ho he
    exact ⟨kvs, h1⟩
  have heD : D ∉ es := fun z => by
    obtain ⟨kvs, e⟩ := hed D z
    rw [hD] at e
    cases e
  have hes : sl ∉ es := fun z => by
    obtain ⟨kvs, e⟩ := hed sl z
    rw [hs] at e
    cases e
  refine frzTo_all _ _ _ ?_ (fun a ha => ?_) fun H' h1 h2 => ?_
  · rw [List.nodup_append]
    refine ⟨hnd, by simp [hDs], fun a ha b hb e => ?_⟩
    rcases List.mem_cons.mp hb with z | z
    · rw [e, z] at ha; exact heD ha
    · rw [List.mem_singleton] at z
      rw [e, z] at ha; exact hes ha
  · rcases List.mem_append.mp ha with z | z
    · obtain ⟨kvs, e⟩ := hed a z
      exact ⟨_, e, trivial⟩
    · rcases List.mem_cons.mp z with y | y
      · exact ⟨.lst (es.map V.ref), by rw [y]; exact hD, trivial⟩
      · rw [List.mem_singleton] at y
        exact ⟨.lst (natsV ends), by rw [y]; exact hs, trivial⟩
  · have fx : Fx H H' := fun b u hb f => by
      rw [h1 b fun z => ?_]
      · exact hb
      · rcases List.mem_append.mp z with y | y
        · obtain ⟨kvs, e⟩ := hed b y
          rw [e] at hb
          cases hb
          exact f
        · rcases List.mem_cons.mp y with x | x
          · rw [x, hD] at hb
            cases hb
            exact f
          · rw [List.mem_singleton] at x
            rw [x, hs] at hb
            cases hb
            exact f
    obtain ⟨o1, e1⟩ := h2 D (by simp) _ hD
    obtain ⟨o2, e2⟩ := h2 sl (by simp) _ hs
    refine h H' (fun b n1 n2 n3 => h1 b fun z => ?_) fx ⟨⟨D, sl, es, o1, o2, fx _ _ hp trivial, e1, e2, Paired.mapM ho fun e r he ⟨kvs, h3, h4⟩ => ?_⟩⟩
    · rcases List.mem_append.mp z with y | y
      · exact n1 y
      · rcases List.mem_cons.mp y with x | x
        · exact n2 x
        · rw [List.mem_singleton] at x
          exact n3 x
    · obtain ⟨od, e3⟩ := h2 e (List.mem_append_left _ he) _ h3
      exact ⟨od, kvs, e3, h4.fx fx⟩
end K17
end TW7
section TW8
set_option Elab.async false
set_option linter.all false
set_option maxRecDepth 100000
set_option maxHeartbeats 4000000
/-! _law_bent. -/
namespace K17
open PySem PySem.Spec PyProof.Rows L2 LamX
section
variable {P : Program} {w : World} {K : PySem.W.Frag} {mg : Str → Option Value} {base : Heap}
theorem ne_g {H : Hp} {g b : Addr} (hg : RngAt H g) (h : H b = none) : b ≠ g := fun z => by
  obtain ⟨x, y, e⟩ := hg
  rw [z, e] at h
  cases h
def spBent : Sp := fun vs H Q E => ∃ (g m pa ta ma : Addr) (R : M) (ps ts : List Nat) (ms : List Str), vs = [.ref g, .ref m, .ref pa, .ref ta, .ref ma] ∧ RngAt H g ∧ ModelAt H m R ∧ MdlB ps ts ms R ∧ Stuff ps ts ms ∧ StuffAt H pa ta ma ps ts ms ∧ MdlQ ps ts ms g H Q
theorem scBent : FnScope ["_law_rng_here", "_law_model_here", "_law_paper", "_law_tells", "_law_marks_here", "_law_rows", "_law_line", "_law_at", "_law_letter"] ["_law_rng_here", "_law_model_here", "_law_paper", "_law_tells", "_law_marks_here"] (defScope (top 49)) := ⟨rfl, rfl, rfl, by decide +kernel, rfl, by decide +kernel, by decide +kernel⟩
theorem d_bent (T : Tx K mg) : Def P w K mg base CX0 3 "_law_bent" ["_law_rng_here", "_law_model_here", "_law_paper", "_law_tells", "_law_marks_here"] spBent := by
  have Dw : Def P w K mg base CX0 1 "_law_draw" ["_law_rng_here", "_law_many"] spDraw := d_draw T
  have Ch : Def P w K mg base CX0 2 "_law_choice" ["_law_rng_here", "_law_some"] spChoice := d_choice T
  refine def_of T 31 49 ["_law_rng_here", "_law_model_here", "_law_paper", "_law_tells", "_law_marks_here", "_law_rows", "_law_line", "_law_at", "_law_letter"] rfl scBent (fun _ _ _ _ _ _ us hl => match us, hl with | [_, _, _, _, _], _ => rfl) (fun vs H Q E h => ?_) (fun f cdv A outer s H vs Q E hr h => ?_)
  · obtain ⟨g, m, pa, ta, ma, R, ps, ts, ms, rfl, _⟩ := h; rfl
  · obtain ⟨g, m, pa, ta, ma, R, ps, ts, ms, rfl, hg, hM, B, S, hS, k⟩ := h
    have nd := scBent.nd
    have hu := hu_of hr
    refine ⟨_, pss_cons (ps_setLc (i := 5) (own := [("_law_line", 6)]) (g := gName 6) (tt := tYes) rfl nd rfl rfl (sw_true rfl rfl rfl (by decide +kernel)) (pi_list (pe_ix ix_tup (pv 1) pe_int (fun _ _ => rfl))) (blkOk_by (own := [("_law_line", 6)]) (N := ["_law_rng_here", "_law_model_here", "_law_paper", "_law_tells", "_law_marks_here", "_law_rows", "_law_line", "_law_at", "_law_letter"]) (sc := defScope (top 49)) (by decide +kernel))
          (fun _ _ _ _ _ => pg_name (i := 6) nd rfl (Or.inl rfl)) (fun _ _ _ _ _ => pts_nil) (fun _ _ _ _ _ => pT T b_dict call_dictD (pa1 (pv 6))))
      (pss_cons (ps_par (i := 7) (j := 8) rfl nd rfl rfl (by decide) rfl rfl (pa_cons (pd0 Dw hr (pa_cons (pv 0) (pa1 (pB T b_len cr_lenS (pa1 (pv 5)))))) (pa1 (pd0 Ch hr (pa_cons (pv 0) (pa1 (pv 2)))))) (by rfl))
      (pss_cons (ps_dput hu (pe_ix ix_list (pv 5) (pv 7) (fun _ _ => rfl)) (pv 8) (pe_tup (pa_cons (pd0 Dw hr (pa_cons (pv 0) (pa1 (pB T b_len cr_lenS (pa1 (pv 5)))))) (pa1 (pd0 Ch hr (pa_cons (pv 0) (pa1 (pe_op op_cat (pe_op op_cat (pe_lst (pa1 pe_non)) (pv 3)) (pv 4)))))))) (by rfl))
      (pss_cons (ps_if (pt_cmpR op_eq (pd0 Dw hr (pa_cons (pv 0) (pa1 pe_int))) pe_int (nomark _)) (pss_one (ps_expr (pe_dpop1 (pe_ix ix_list (pv 5) (pv 7) (fun _ _ => rfl)) (pv 8) ⟨rfl, rfl, rfl, rfl⟩))) pss_nil)
      (pss_one (ps_ret (pe_frz (pe_tup (pa_cons (pv 5) (pa_cons (pT T b_list call_list_of (pa1 (pe_ix ix_tup (pv 1) pe_int (fun _ _ => rfl)))) (pa1 (pe_ix ix_tup (pv 1) pe_int (fun _ _ => rfl)))))))))))), ?_⟩
    obtain ⟨ml, sl0, ds, o1, o2, hm, hml, hsl0, hds⟩ := hM.ex
    have hp3 := S.p3
    have hp4 := S.p4
    have ht3 := S.t3
    have hm2 := S.m2
    have h6 := B.h6
    have h1 := B.h1
    have hdl : ds.length = R.rows.length := Paired.len hds
    refine ⟨_, rfl, m, _, (0 : Int), _, rfl, rfl, SqT.of hm, rfl, ml, rfl, ⟨_, .inl (.inr ⟨o1, hml⟩)⟩, fun D hD => ?_⟩
    refine lc_it (walk_list (xs := ds.map V.ref)) (fun i H1 => Same H H1 ∧ ∃ es : List Addr, H1 D = some (.lst (es.map V.ref)) ∧ OpenAt H1 es (R.rows.take i) ∧ es.Nodup ∧ ∀ e ∈ es, H e = none)
      ⟨Same.new hD, [], upd_same, .nil, .nil, fun _ h => (nomatch h)⟩ (fun i H1 _ hp => .inl (.inr ⟨o1, hp.1 _ _ hml⟩)) (fun i x H1 H2 hi hp hy => ?_) (fun H1 hp => ?_)
    · obtain ⟨s1, es, hes, hop, hnd, hfr⟩ := hp
      obtain ⟨rfl, hx⟩ := hy
      rw [List.getElem?_map] at hx
      cases hd : ds[i]? with
      | none => rw [hd] at hx; cases hx
      | some d =>
        rw [hd] at hx
        obtain rfl : V.ref d = x := Option.some.inj hx
        obtain ⟨r, hr', o, kvs, hdk, hk⟩ := Paired.get1 hds hd
        refine ⟨rfl, _, rfl, d, kvs, rfl, .inr ⟨o, s1 _ _ hdk⟩, fun e he => ?_⟩
        have s2 : Same H2 (upd H2 e (.dK kvs)) := Same.new he
        have hee : ∀ b ∈ es, b ≠ e := fun b hb z => by
          obtain ⟨y, _, kv2, h3, _⟩ := Paired.mem1 hop hb
          rw [z, he] at h3
          cases h3
        have hel : es.length = (R.rows.take i).length := Paired.len hop
        rw [List.length_take] at hel
        have hDe : D ≠ e := fun z => by rw [← z, hes] at he; cases he
        have fx : Fx H2 (upd (upd H2 e (.dK kvs)) D (.lst (es.map V.ref ++ [V.ref e]))) := (Same.fx s2).trans (Fx.put (s2 _ _ hes) id)
        refine ⟨_, s2 _ _ hes, by rw [List.length_map]; exact lt_line (by omega), Same.updN (s1.trans s2) hD, es ++ [e], by rw [upd_same, List.map_append]; rfl, ?_, ?_, fun b hb => ?_⟩
        · rw [take_succ_of hr']
          refine Paired.app (Paired.mapM hop fun b y hb ⟨kv2, h3, h4⟩ => ⟨kv2, ?_, h4.fx fx⟩) (.cons ⟨kvs, ?_, (hk.same (s1.trans s2)).fx (Fx.put (s2 _ _ hes) id)⟩ .nil)
          · have n1 : b ≠ D := fun z => by rw [z, hes] at h3; cases h3
            rw [upd_ne n1]
            exact s2 _ _ h3
          · rw [upd_ne hDe.symm, upd_same]
        · rw [List.nodup_append]
          exact ⟨hnd, by simp, fun a ha y hy e2 => hee a ha (by rw [List.mem_singleton] at hy; rw [e2, hy])⟩
        · rcases List.mem_append.mp hb with z | z
          · exact hfr b z
          · rw [List.mem_singleton] at z
            rw [z]
            exact Same.free s1 he
    · obtain ⟨s1, es, hes, hop, hnd, hfr⟩ := hp
      rw [List.length_map, hdl, List.take_length] at hop
      have hel : es.length = R.rows.length := Paired.len hop
      have d1 : Dr g H H1 := Dr.of hg s1
      have hDg : D ≠ g := ne_g hg hD
      have hS1 := hS.dr hg d1
      refine ⟨_, rfl, _, rfl, D, _, rfl, .inl (SqL.of hes), g, (es.map V.ref).length, rfl, d1.rng, by rw [List.length_map]; omega, by rw [List.length_map]; omega, fun at_ H2 hat d2 => ?_⟩
      rw [List.length_map] at hat
      have d12 := d1.trans d2
      have hS2 := hS1.dr d1.rng d2
      have hes2 := d2.keep hDg hes
      have hop2 := hop.dr d2 d1.rng
      refine ⟨_, rfl, _, rfl, g, pa, _, rfl, d12.rng, hS2.p, rng_ne d12.rng hS2.p (sgsV_ni _), by rw [List.length_map]; omega, by rw [List.length_map]; omega, fun x H3 hx d3 => ?_⟩
      obtain ⟨c, hc, rfl⟩ := List.mem_map.mp hx
      have d13 := d12.trans d3
      have hS3 := hS2.dr d12.rng d3
      have hes3 := d3.keep hDg hes2
      have hop3 := hop2.dr d3 d12.rng
      refine ⟨_, _, rfl, ?_⟩
      -- rows[at][letter] = ..
      refine ⟨_, rfl, _, rfl, D, _, rfl, .inl (SqL.of hes3), g, (es.map V.ref).length, rfl, d13.rng, by rw [List.length_map]; omega, by rw [List.length_map]; omega, fun q H4 hq d4 => ?_⟩
      rw [List.length_map] at hq
      have d14 := d13.trans d4
      have hS4 := hS3.dr d13.rng d4
      have hes4 := d4.keep hDg hes3
      have hop4 := hop3.dr d4 d13.rng
      refine ⟨_, rfl, by show 1 ≤ sizeLine; decide, fun q1 hq1 => ?_⟩
      have s5 : Same H4 (upd H4 q1 (.lst [V.non])) := Same.new hq1
      refine ⟨_, rfl, q1, ta, _, _, rfl, rfl, upd_same, s5 _ _ hS4.t, ?_, fun q2 hq2 => ?_⟩
      · rw [List.length_map]
        exact Nat.le_of_lt (lt_line (by show 1 + _ < _; omega))
      have s6 := s5.trans (Same.new (o := .lst ([V.non] ++ sgsV ts)) hq2)
      refine ⟨_, rfl, q2, ma, _, _, rfl, rfl, upd_same, s6 _ _ hS4.m, ?_, fun q3 hq3 => ?_⟩
      · rw [List.length_append, List.length_map, List.length_map]
        exact Nat.le_of_lt (lt_line (by show 1 + _ + _ < _; omega))
      have s7 := s6.trans (Same.new (o := .lst ([V.non] ++ sgsV ts ++ strV ms)) hq3)
      have d7 := Dr.of d14.rng s7
      have hq3g : q3 ≠ g := ne_g (d14.rng.same s6) hq3
      refine ⟨g, q3, _, rfl, d7.rng, upd_same, hq3g, ?_, ?_, fun v H5 hv d5 => ?_⟩
      · rw [List.length_append, List.length_append]
        show 0 < 1 + _ + _
        omega
      · rw [List.length_append, List.length_append, List.length_map, List.length_map]
        show 1 + _ + _ < _
        omega
      obtain ⟨t, rfl, htk⟩ : ∃ t, v = toldV t ∧ Tk ts ms t := toldV_of (ts := ts) (ms := ms) (by
        rcases List.mem_append.mp hv with z | z
        · rcases List.mem_append.mp z with y | y
          · exact List.mem_append_left _ (List.mem_append_left _ y)
          · exact List.mem_append_left _ (List.mem_append_right _ (List.mem_append_left _ y))
        · exact List.mem_append_right _ z)
      have d75 := d7.trans d5
      have d15 := d14.trans d75
      have hes5 := d75.keep hDg hes4
      have hop5 := hop4.dr d75 d14.rng
      refine ⟨by show 2 ≤ sizeLine; decide, fun mv hmv => ?_⟩
      have s8 : Same H5 (upd H5 mv (.tup [.int ((q : Nat) : Int), toldV t])) := Same.new hmv
      have d8 := d15.trans (Dr.of d15.rng s8)
      have hes8 := s8 _ _ hes5
      have hop8 := hop5.same s8
      have he : es[at_]? = some es[at_] := List.getElem?_eq_getElem hat
      obtain ⟨r, hr0, kvs, hek, hkr⟩ := Paired.get1 hop8 he
      have hrm := List.mem_of_getElem? hr0
      have hB := B.hr r hrm
      generalize es[at_] = e at he hek
      have hev : (es.map V.ref)[at_]? = some (.ref e) := by rw [List.getElem?_map, he]; rfl
      have heg : e ≠ g := ne_g hg (hfr e (List.mem_of_getElem? he))
      have heD : e ≠ D := fun z => by rw [z, hes8] at hek; cases hek
      have hmvE : (upd H5 mv (.tup [.int ((q : Nat) : Int), toldV t])) mv = some (.tup [.int ((q : Nat) : Int), toldV t]) := upd_same
      generalize upd H5 mv (.tup [.int ((q : Nat) : Int), toldV t]) = H8 at s8 d8 hes8 hop8 hek hkr hmvE
      have hkl : kvs.length ≤ 4 := by
        have e1 : kvs.length = r.length := Paired.len hkr
        have e2 := nodup_le hB.nd (U := ps) fun x hx => by
          obtain ⟨e, he, rfl⟩ := List.mem_map.mp hx
          exact (hB.all e he).1
        rw [List.length_map] at e2
        omega
      have hkr' := hkr.put c (q, t) hmvE
      have hB' := hB.put (x := (q, t)) hc (by rw [← hel]; exact hq) htk
      have hop9 := OpenAt.set hop8 hnd he hkr'
      refine ⟨_, rfl, _, rfl, D, _, (at_ : Int), _, rfl, rfl, SqL.of hes8, atI_nat hev, _, rfl, e, _, rfl, DPut.k (k := Sum.inr (sg c)) hek (lt_line (by omega)), ?_⟩
      have d9 : Dr g H (upd H8 e (.dK (putK kvs (Sum.inr (sg c)) (.ref mv)))) := d8.upd (hfr e (List.mem_of_getElem? he)) heg
      have hes9 : (upd H8 e (.dK (putK kvs (Sum.inr (sg c)) (.ref mv)))) D = some (.lst (es.map V.ref)) := by rw [upd_ne heD.symm]; exact hes8
      have hek9 : (upd H8 e (.dK (putK kvs (Sum.inr (sg c)) (.ref mv)))) e = some (.dK (putK kvs (Sum.inr (sg c)) (.ref mv))) := upd_same
      generalize upd H8 e (.dK (putK kvs (Sum.inr (sg c)) (.ref mv))) = H9 at d9 hes9 hek9 hop9
      -- the end
      have fin : ∀ (H10 : Hp) (rs : List (Row Str)), Dr g H H10 → H10 D = some (.lst (es.map V.ref)) → OpenAt H10 es rs → (∀ r ∈ rs, RowB ps ts ms R.rows.length r) → ∀ l, H10 l = none → 3 ≤ sizeLine ∧ ∀ p, (upd H10 l (.lst (natsV R.ends))) p = none → ∃ L, FrzTo L (upd (upd H10 l (.lst (natsV R.ends))) p (.tup [.ref D, .ref l, .int (R.start : Int)])) (Q (.ref p)) := by
        intro H10 rs d10 hes10 hop10 hrb l hl
        refine ⟨by decide, fun p hp => ⟨es ++ [D, l], ?_⟩⟩
        have s11 : Same H10 (upd H10 l (.lst (natsV R.ends))) := Same.new hl
        have s12 := Same.new (o := .tup [.ref D, .ref l, .int (R.start : Int)]) hp
        have hlp := s12 l _ (show (upd H10 l (.lst (natsV R.ends))) l = some (.lst (natsV R.ends)) from upd_same)
        have hlD : D ≠ l := fun z => by rw [← z, hes10] at hl; cases hl
        have hlg : l ≠ g := ne_g d10.rng hl
        have dA := d10.trans (Dr.of d10.rng (s11.trans s12))
        have hlH : H l = none := d10.free hl
        refine frz_model ((hop10.same s11).same s12) hnd ((s11.trans s12) _ _ hes10) hlp hlD upd_same fun H' hk _ hM' => ?_
        refine k p H' ⟨rs, R.ends, R.start⟩ ⟨fun b u n hb => ?_, ?_⟩ hM' ?_
        · rw [hk b (fun z => by rw [hfr b z] at hb; cases hb) (ne_of_none hb hD) (ne_of_none hb hlH)]
          exact dA.but b u n hb
        · obtain ⟨x, y, e⟩ := dA.rng
          exact ⟨x, y, by rw [hk g (fun z => ne_g hg (hfr g z) rfl) hDg.symm hlg.symm]; exact e⟩
        · have hrl : rs.length = R.rows.length := by rw [← Paired.len hop10, hel]
          exact ⟨by show 1 ≤ rs.length; omega, by show rs.length ≤ 6; omega, fun r hr => by show RowB ps ts ms rs.length r; rw [hrl]; exact hrb r hr, fun e he => by show e < rs.length; rw [hrl]; exact B.he e he, B.hn, by show R.start < rs.length; rw [hrl]; exact B.hs⟩
      have hrb9 : ∀ r' ∈ R.rows.set at_ (putR r c (q, t)), RowB ps ts ms R.rows.length r' := fun r' hr' => (List.mem_or_eq_of_mem_set hr').elim (B.hr r') fun z => z ▸ hB'
      refine ⟨_, rfl, g, 3, rfl, d9.rng, by decide, by decide, fun d H10 hd d10 => ?_⟩
      have d19 := d9.trans d10
      have hes10 := d10.keep hDg hes9
      have hek10 := d10.keep heg hek9
      have hop10 := hop9.dr d10 d9.rng
      have hvv : valV (putK kvs (Sum.inr (sg c) : Key) (.ref mv)) (Sum.inr (sg c)) = some (.ref mv) := by rw [valV_put, if_pos rfl]
      refine ⟨rfl, ?_⟩
      have last : ∀ (H11 : Hp) (rs : List (Row Str)), Dr g H H11 → H11 D = some (.lst (es.map V.ref)) → OpenAt H11 es rs → (∀ r ∈ rs, RowB ps ts ms R.rows.length r) →
          H11 m = some (.tup [.ref ml, .ref sl0, .int (R.start : Int)]) ∧ H11 sl0 = some (.frz o2 (.lst (natsV R.ends))) := fun H11 rs d11 _ _ _ =>
        ⟨d11.fx hg _ _ hm trivial, d11.fx hg _ _ hsl0 trivial⟩
      by_cases hd0 : d = 0
      · refine ⟨true, congrArg V.bl (decide_eq_true (by rw [hd0]; rfl)), iteT ?_⟩
        refine ⟨_, rfl, _, rfl, D, _, (at_ : Int), _, rfl, rfl, SqL.of hes10, atI_nat hev, e, rfl, .inl ⟨_, .inl hek10⟩, _, rfl, _, Sum.inr (sg c), _, hek10, rfl, hvv, ?_⟩
        have heH := hfr e (List.mem_of_getElem? he)
        have d11 : Dr g H (upd H10 e (.dK (dropK (putK kvs (Sum.inr (sg c)) (.ref mv)) (Sum.inr (sg c))))) := d19.upd heH heg
        have hes11 : (upd H10 e (.dK (dropK (putK kvs (Sum.inr (sg c)) (.ref mv)) (Sum.inr (sg c))))) D = some (.lst (es.map V.ref)) := by rw [upd_ne heD.symm]; exact hes10
        have hkr10 : KRow H10 (dropK (putK kvs (Sum.inr (sg c)) (.ref mv)) (Sum.inr (sg c) : Key)) (dropR (putR r c (q, t)) c) := KRow.drop c (by
          obtain ⟨r2, hr2, kv2, e2, k2⟩ := Paired.get1 hop10 he
          rw [hek10] at e2
          cases e2
          rw [List.getElem?_set_self (by rw [← hel]; exact hat)] at hr2
          cases hr2
          exact k2)
        have hop11 := OpenAt.set hop10 hnd he hkr10
        rw [List.set_set] at hop11
        have hrb11 : ∀ r' ∈ R.rows.set at_ (dropR (putR r c (q, t)) c), RowB ps ts ms R.rows.length r' := fun r' hr' => (List.mem_or_eq_of_mem_set hr').elim (B.hr r') fun z => z ▸ hB'.sub List.filter_sublist
        obtain ⟨hm11, hsl11⟩ := last _ _ d11 hes11 hop11 hrb11
        refine ⟨_, rfl, _, rfl, m, _, (1 : Int), _, rfl, rfl, SqT.of hm11, rfl, sl0, natsV R.ends, rfl, .inl (.inl (.inr ⟨o2, hsl11⟩)), fun l hl => ?_⟩
        exact ⟨_, rfl, m, _, (2 : Int), _, rfl, rfl, SqT.of (Same.new hl _ _ hm11), rfl, fin _ _ d11 hes11 hop11 hrb11 l hl⟩
      · refine ⟨false, congrArg V.bl (decide_eq_false fun z => hd0 (natInt_inj _ 0 (V.int.inj z))), iteF ?_⟩
        obtain ⟨hm10, hsl10⟩ := last _ _ d19 hes10 hop10 hrb9
        refine ⟨_, rfl, _, rfl, m, _, (1 : Int), _, rfl, rfl, SqT.of hm10, rfl, sl0, natsV R.ends, rfl, .inl (.inl (.inr ⟨o2, hsl10⟩)), fun l hl => ?_⟩
        exact ⟨_, rfl, m, _, (2 : Int), _, rfl, rfl, SqT.of (Same.new hl _ _ hm10), rfl, fin _ _ d19 hes10 hop10 hrb9 l hl⟩
end
end K17
end TW8
section TW9
set_option Elab.async false
set_option linter.all false
set_option maxRecDepth 100000
set_option maxHeartbeats 4000000
/-! _law_format, _law_thinned, _law_model, _law_reader. -/
namespace K17
open PySem PySem.Spec PyProof.Rows L2 LamX
section
variable {P : Program} {w : World} {K : PySem.W.Frag} {mg : Str → Option Value} {base : Heap}
theorem scFormat : FnScope ["_law_rng_here", "_law_cap", "_law_paper", "_law_tells", "_law_marks_here", "_law_way", "_law_found"] ["_law_rng_here", "_law_cap", "_law_paper", "_law_tells", "_law_marks_here"] (defScope (top 50)) := ⟨rfl, rfl, rfl, by decide +kernel, rfl, by decide +kernel, by decide +kernel⟩
theorem d_format (T : Tx K mg) : Def P w K mg base CX0 4 "_law_format" ["_law_rng_here", "_law_cap", "_law_paper", "_law_tells", "_law_marks_here"] spAny := by
  have Dw : Def P w K mg base CX0 1 "_law_draw" ["_law_rng_here", "_law_many"] spDraw := d_draw T
  have An : Def P w K mg base CX0 3 "_law_any_format" ["_law_rng_here", "_law_cap", "_law_paper", "_law_tells", "_law_marks_here"] spAny := d_any T
  have Fa : Def P w K mg base CX0 1 "_law_family" ["_law_way", "_law_paper", "_law_tells", "_law_marks_here"] spFamily := d_family T
  have Be : Def P w K mg base CX0 3 "_law_bent" ["_law_rng_here", "_law_model_here", "_law_paper", "_law_tells", "_law_marks_here"] spBent := d_bent T
  refine def_of T 32 50 ["_law_rng_here", "_law_cap", "_law_paper", "_law_tells", "_law_marks_here", "_law_way", "_law_found"] rfl scFormat (fun _ _ _ _ _ _ us hl => match us, hl with | [_, _, _, _, _], _ => rfl) (fun vs H Q E h => ?_) (fun f cdv A outer s H vs Q E hr h => ?_)
  · obtain ⟨g, pa, ta, ma, ps, ts, ms, rfl, _⟩ := h; rfl
  · obtain ⟨g, pa, ta, ma, ps, ts, ms, rfl, hg, S, hS, k⟩ := h
    have nd := scFormat.nd
    refine ⟨_, pss_cons (ps_set (i := 5) nd rfl (Or.inl rfl) (pd0 Dw hr (pa_cons (pv 0) (pa1 pe_int))))
      (pss_cons (ps_if (pt_cmpR op_lt (pv 5) pe_int (nomark _)) (pss_one (ps_ret (pd0 An hr (pa_cons (pv 0) (pa_cons (pv 1) (pa_cons (pv 2) (pa_cons (pv 3) (pa1 (pv 4))))))))) pss_nil)
      (pss_cons (ps_set (i := 6) nd rfl (Or.inl rfl) (pd0 Fa hr (pa_cons (pd0 Dw hr (pa_cons (pv 0) (pa1 pe_int))) (pa_cons (pv 2) (pa_cons (pv 3) (pa1 (pv 4)))))))
      (pss_one (ps_ret (pe_ifExp (pt_cmpR op_lt (pv 5) pe_int (nomark _)) (pv 6) (pd0 Be hr (pa_cons (pv 0) (pa_cons (pv 6) (pa_cons (pv 2) (pa_cons (pv 3) (pa1 (pv 4)))))))))))), ?_⟩
    refine ⟨_, rfl, g, 9, rfl, hg, by decide, by decide, fun way H1 hw d1 => ?_⟩
    have hS1 := hS.dr hg d1
    refine ⟨_, rfl, _, _, rfl, rfl, ?_⟩
    by_cases w3 : ((way : Nat) : Int) < 3
    · refine ⟨true, congrArg V.bl (decide_eq_true w3), iteT ?_⟩
      exact ⟨_, rfl, _, rfl, _, rfl, _, rfl, _, rfl, g, pa, ta, ma, ps, ts, ms, rfl, d1.rng, S, hS1, fun m H' R d hm hB => k m H' R (d1.trans d) hm hB⟩
    · refine ⟨false, congrArg V.bl (decide_eq_false w3), iteF ?_⟩
      refine ⟨_, rfl, g, 5, rfl, d1.rng, by decide, by decide, fun fam H2 hf d2 => ?_⟩
      have d12 := d1.trans d2
      have hS2 := hS1.dr d1.rng d2
      refine ⟨_, rfl, _, rfl, _, rfl, pa, ta, ma, ps, ts, ms, fam, rfl, S, hS2, fun m H3 R s3 hm hB => ?_⟩
      have d13 := d12.trans (Dr.of d12.rng s3)
      have hS3 := hS2.dr d12.rng (Dr.of d12.rng s3)
      refine ⟨_, rfl, _, _, rfl, rfl, ?_⟩
      by_cases w6 : ((way : Nat) : Int) < 6
      · exact ⟨true, congrArg V.bl (decide_eq_true w6), iteT ⟨_, rfl, k m H3 R d13 hm hB⟩⟩
      · refine ⟨false, congrArg V.bl (decide_eq_false w6), iteF ?_⟩
        exact ⟨_, rfl, _, rfl, _, rfl, _, rfl, _, rfl, g, m, pa, ta, ma, R, ps, ts, ms, rfl, d13.rng, hm, hB, S, hS3, fun m' H' R' d hm' hB' => k m' H' R' (d13.trans d) hm' hB'⟩
def spThin : Sp := fun vs H Q E => ∃ (g m : Addr) (R : M) (ps ts : List Nat) (ms : List Str), vs = [.ref g, .ref m] ∧ RngAt H g ∧ ModelAt H m R ∧ MdlB ps ts ms R ∧ ps.length ≤ 4 ∧ MdlQ ps ts ms g H Q
theorem scThin : FnScope ["_law_rng_here", "_law_model_here", "_law_rows", "_law_line", "_law_letter"] ["_law_rng_here", "_law_model_here"] (defScope (top 51)) := ⟨rfl, rfl, rfl, by decide +kernel, rfl, by decide +kernel, by decide +kernel⟩
theorem d_thin (T : Tx K mg) : Def P w K mg base CX0 2 "_law_thinned" ["_law_rng_here", "_law_model_here"] spThin := by
  have Dw : Def P w K mg base CX0 1 "_law_draw" ["_law_rng_here", "_law_many"] spDraw := d_draw T
  refine def_of T 33 51 ["_law_rng_here", "_law_model_here", "_law_rows", "_law_line", "_law_letter"] rfl scThin (fun _ _ _ _ _ _ us hl => match us, hl with | [_, _], _ => rfl) (fun vs H Q E h => ?_) (fun f cdv A outer s H vs Q E hr h => ?_)
  · obtain ⟨g, m, R, ps, ts, ms, rfl, _⟩ := h; rfl
  · obtain ⟨g, m, R, ps, ts, ms, rfl, hg, hM, B, hp4, k⟩ := h
    have nd := scThin.nd
    have hu := hu_of hr
    refine ⟨_, PSs.nox (pss_cons (ps_set (i := 2) nd rfl (Or.inl rfl) (pe_lst pa_nil))
      (pss_cons (ps_for PassesOwn.never rfl (pi_list (pe_ix ix_tup (pv 1) pe_int (fun _ _ => rfl))) (g := gName 3) (pg_name (i := 3) nd rfl (Or.inr rfl))
        (pss_one (ps_frz (ps_expr (pe_bm PySem.F.plainAttrs_list PySem.F.slot_list_append PySem.F.type_list_append mt_append (pv 2) (pa1 (pT T b_dict (r := rDictP K) (cr_dictP rfl rfl)
            (pa1 (pe_lc (own := [("_law_letter", 4)]) (g := gName 4) (te := tTup (tCons (tVar 4) (tCons (tDGet (tVar 3) (tVar 4)) tNil))) rfl nd (pi_keys (pv 3)) (blkOk_by (own := [("_law_letter", 4)]) (N := ["_law_rng_here", "_law_model_here", "_law_rows", "_law_line", "_law_letter"]) (sc := defScope (top 51)) (by decide +kernel))
              (fun _ _ _ _ _ => pg_name (i := 4) nd rfl (Or.inl rfl)) (fun _ _ _ _ _ => pts_one (pt_cmpR op_gt (pd0 Dw hr (pa_cons (pv 0) (pa1 pe_int))) pe_int (by rfl)))
              (fun _ _ _ _ _ => pe_tup (pa_cons (pv 4) (pa1 (pe_dget hu (pv 3) (pv 4) (fun _ _ => rfl))))))))))))))
      (pss_one (ps_ret (pe_frz (pe_tup (pa_cons (pv 2) (pa_cons (pe_ix ix_tup (pv 1) pe_int (fun _ _ => rfl)) (pa1 (pe_ix ix_tup (pv 1) pe_int (fun _ _ => rfl))))))))))), ?_⟩
    obtain ⟨ml, sl0, ds0, o1, o2, hm, hml, hsl0, hds0⟩ := hM.ex
    have h6 := B.h6
    have hdl0 : ds0.length = R.rows.length := Paired.len hds0
    refine ⟨Nat.zero_le _, fun rl hrl => ?_⟩
    have d0 : Dr g H (upd H rl (.lst [])) := (Dr.refl hg).new hrl
    have hrlg : rl ≠ g := ne_g hg hrl
    refine ⟨_, rfl, m, _, (0 : Int), _, rfl, rfl, SqT.of (d0.fx hg _ _ hm trivial), rfl, ml, rfl, ⟨_, .inl (.inr ⟨o1, d0.fx hg _ _ hml trivial⟩)⟩, ?_⟩
    refine for_it (walk_list (xs := ds0.map V.ref)) (fun i σ Hx => Dr g H Hx ∧ (∃ (ds : List Addr) (rs : List (Row Str)), Hx rl = some (.lst (ds.map V.ref)) ∧ RowsAt Hx ds rs ∧ rs.length = i ∧ ∀ r ∈ rs, RowB ps ts ms R.rows.length r) ∧
        ∃ u3 u4, σ = [some (.ref g), some (.ref m), some (.ref rl), u3, u4])
      ⟨d0, ⟨[], [], upd_same, .nil, rfl, fun _ h => (nomatch h)⟩, none, none, rfl⟩ (fun i σ Hx _ hp => .inl (.inr ⟨o1, hp.1.fx hg _ _ hml trivial⟩)) (fun i x σ Hx Hx' hi hp hy => ?_) (fun σ Hx hp => ?_)
    · obtain ⟨dx, ⟨ds, rs, hds, hrs, hrsl, hrb⟩, u3, u4, rfl⟩ := hp
      obtain ⟨rfl, hx⟩ := hy
      rw [List.getElem?_map] at hx
      cases hd : ds0[i]? with
      | none => rw [hd] at hx; cases hx
      | some d =>
        rw [hd] at hx
        obtain rfl : V.ref d = x := Option.some.inj hx
        obtain ⟨row, hrow, o, kvs, hdk, hk⟩ := Paired.get1 hds0 hd
        have hrB := B.hr row (List.mem_of_getElem? hrow)
        have hdkx := dx.fx hg _ _ hdk trivial
        have hkx := hk.fx (dx.fx hg)
        have hkl : kvs.length = row.length := Paired.len hk
        have hrl4 : row.length ≤ 4 := by
          have e2 := nodup_le hrB.nd (U := ps) fun x hx => by
            obtain ⟨e, he, rfl⟩ := List.mem_map.mp hx
            exact (hrB.all e he).1
          rw [List.length_map] at e2
          omega
        refine ⟨_, rfl, .inl ⟨rfl, _, SqL.of hds⟩, ?_⟩
        refine ⟨_, rfl, d, o, rfl, .inl ⟨kvs, hdkx, fun D hD => ?_⟩⟩
        have hDg : D ≠ g := ne_g dx.rng hD
        have dxx := Dr.refl dx.rng
        refine lc_it (walk_keys (kvs := kvs)) (fun j H3 => Dr g Hx' H3 ∧ ∃ (pl : List Addr) (nk : List (Key × V)) (r : Row Str), H3 D = some (.lst (pl.map V.ref)) ∧ Paired (fun p (kv : Key × V) => H3 p = some (.tup [kV kv.1, kv.2])) pl nk ∧ KRow H3 nk r ∧ r.Sublist (row.take j))
          ⟨dxx.new hD, [], [], [], upd_same, .nil, .nil, List.nil_sublist _⟩ (fun j H3 _ hp => hp.1.fx dx.rng _ _ hdkx trivial) (fun j x H3 H4 hj hp hy => ?_) (fun H3 hp => ?_)
        · obtain ⟨d3, pl, nk, r, hpl, hpn, hnk, hsub⟩ := hp
          obtain ⟨rfl, key, v, hkv, rfl⟩ := hy
          obtain ⟨e, he, hkey, m', hv, hm'⟩ := Paired.get1 hkx hkv
          have hkey : key = Sum.inr (sg e.1) := hkey
          have hv : v = .ref m' := hv
          subst hkey hv
          refine ⟨rfl, ?_⟩
          refine ⟨_, rfl, g, 3, rfl, d3.rng, by decide, by decide, fun dd H5 hdd d5 => ?_⟩
          have d35 := d3.trans d5
          have fx5 := d5.fx d3.rng
          have hpl5 := d5.keep hDg hpl
          refine ⟨_, _, rfl, rfl, ?_⟩
          by_cases h0 : ((dd : Nat) : Int) > 0
          · refine ⟨true, congrArg V.bl (decide_eq_true h0), iteT ?_⟩
            have hd5 := d35.fx dx.rng _ _ hdkx trivial
            have hvv : valV kvs (Sum.inr (sg e.1) : Key) = some (.ref m') := by
              rcases hkx.val e.1 with ⟨z, _⟩ | ⟨e2, m2, z, z2, _⟩
              · rw [lookup_of_mem hrB.nd (show (e.1, e.2) ∈ row from List.mem_of_getElem? he)] at z
                cases z
              · rw [z2]
                have nk1 : (kvs.map (·.1)).Nodup := by
                  rw [krow_keys hk, List.nodup_iff_pairwise_ne, List.pairwise_map]
                  have := hrB.nd
                  rw [List.nodup_iff_pairwise_ne, List.pairwise_map] at this
                  exact this.imp fun h z => h (sg_inj (Sum.inr.inj z))
                have hval : valV kvs (Sum.inr (sg e.1) : Key) = some (.ref m') := by
                  clear z z2 hpn hpl
                  have : ∀ {kvs : List (Key × V)} {k : Key} {v : V}, (kvs.map (·.1)).Nodup → (k, v) ∈ kvs → valV kvs k = some v := by
                    intro kvs
                    induction kvs with
                    | nil => intro k v _ h; exact nomatch h
                    | cons a kvs ih =>
                      intro k v nd h
                      rw [List.map_cons, List.nodup_cons] at nd
                      rcases List.mem_cons.mp h with z | z
                      · subst z
                        rw [valV_pos rfl]
                      · have ne : ¬ a.1 = k := fun y => nd.1 (by rw [y]; exact List.mem_map_of_mem (f := (·.1)) z)
                        rw [valV_neg ne]
                        exact ih nd.2 z
                  exact this nk1 (List.mem_of_getElem? hkv)
                rw [hval] at z2
                exact z2.symm
            refine ⟨_, rfl, _, rfl, _, rfl, d, _, rfl, .inl ⟨kvs, Sum.inr (sg e.1), .inr ⟨o, hd5⟩, rfl, hvv.symm⟩, by show 2 ≤ sizeLine; decide, fun p hp => ?_⟩
            have s6 : Same H5 (upd H5 p (.tup [.str (sg e.1), .ref m'])) := Same.new hp
            have hpD : p ≠ D := fun z => by rw [z, hpl5] at hp; cases hp
            have hpll : pl.length ≤ 4 := by
              have e1 : pl.length = nk.length := Paired.len hpn
              have e2 : nk.length = r.length := Paired.len hnk
              have e3 := hsub.length_le
              rw [List.length_take] at e3
              omega
            have fx6 := (Same.fx s6).trans (Fx.put (o := .lst (pl.map V.ref ++ [V.ref p])) (s6 _ _ hpl5) id)
            refine ⟨_, s6 _ _ hpl5, by rw [List.length_map]; exact lt_line (by omega), (d35.trans (Dr.of d35.rng s6)).upd hD hDg, pl ++ [p], nk ++ [(Sum.inr (sg e.1), .ref m')], r ++ [e], by rw [upd_same, List.map_append]; rfl, ?_, ?_, ?_⟩
            · refine Paired.app (Paired.mapP hpn fun _ _ z => fx6 _ _ (fx5 _ _ z trivial) trivial) (.cons ?_ .nil)
              rw [upd_ne hpD, upd_same]
            · refine Paired.app ((hnk.fx fx5).fx fx6) (.cons ⟨rfl, m', rfl, ?_⟩ .nil)
              exact fx6 _ _ (d35.fx dx.rng _ _ hm' trivial) trivial
            · rw [take_succ_of he]
              exact hsub.append (List.Sublist.refl _)
          · refine ⟨false, congrArg V.bl (decide_eq_false h0), iteF ⟨d35, pl, nk, r, hpl5, Paired.mapP hpn fun _ _ z => fx5 _ _ z trivial, hnk.fx fx5, ?_⟩⟩
            rw [take_succ_of he]
            exact hsub.trans (List.sublist_append_left _ _)
        · obtain ⟨d3, pl, nk, r, hpl, hpn, hnk, hsub⟩ := hp
          rw [hkl, List.take_length] at hsub
          have hrB' := hrB.sub hsub
          refine ⟨D, pl, nk, rfl, SqL.of hpl, Paired.mapP hpn fun _ _ z => SqT.of z, fun e he => ?_⟩
          have hmm := row_merge hnk hrB'.nd
          rw [hmm]
          have s4 : Same H3 (upd H3 e (.dK nk)) := Same.new he
          have hds3 := d3.keep hrlg hds
          have hdl : ds.length = rs.length := Paired.len hrs
          have hilt := (List.getElem?_eq_some_iff.mp hd).1
          have her : e ≠ rl := fun z => by rw [z, hds3] at he; cases he
          have dx3 := dx.trans d3
          have heg : e ≠ g := ne_g d3.rng he
          have heH : H e = none := dx3.free he
          refine ⟨rl, ds.map V.ref, .ref e, rfl, rfl, s4 _ _ hds3, by rw [List.length_map]; exact lt_line (by omega), [e], .dK nk, by rw [upd_ne her, upd_same], trivial, fun od => ?_⟩
          have fx : ∀ {b u}, H3 b = some u → Fixd u → (upd (upd (upd H3 e (.dK nk)) rl (.lst (ds.map V.ref ++ [V.ref e]))) e (.frz od (.dK nk))) b = some u := fun {b u} hb f => by
            have n1 := ne_of_none hb he
            have n2 : b ≠ rl := fun z => by rw [z, hds3] at hb; cases hb; exact f
            rw [upd_ne n1, upd_ne n2, upd_ne n1]
            exact hb
          have fxa : Fx H3 (upd (upd (upd H3 e (.dK nk)) rl (.lst (ds.map V.ref ++ [V.ref e]))) e (.frz od (.dK nk))) := fun b u hb f => fx hb f
          refine ⟨(((dx3.new he).upd hrl hrlg).upd heH heg), ⟨ds ++ [e], rs ++ [r], ?_, ?_, by rw [List.length_append, hrsl]; rfl, fun z hz => ?_⟩, _, _, rfl⟩
          · rw [upd_ne her.symm, upd_same, List.map_append]
            rfl
          · exact Paired.app (RowsAt.fx ((d3.fx dx.rng).trans fxa) hrs) (.cons ⟨od, nk, upd_same, hnk.fx fxa⟩ .nil)
          · rcases List.mem_append.mp hz with y | y
            · exact hrb z y
            · rw [List.mem_singleton] at y
              rw [y]
              exact hrB'
    · obtain ⟨dx, ⟨ds, rs, hds, hrs, hrsl, hrb⟩, u3, u4, rfl⟩ := hp
      rw [List.length_map, hdl0] at hrsl
      have hmx := dx.fx hg _ _ hm trivial
      have hslx := dx.fx hg _ _ hsl0 trivial
      refine ⟨_, rfl, _, rfl, m, _, (1 : Int), _, rfl, rfl, SqT.of hmx, rfl, _, rfl, m, _, (2 : Int), _, rfl, rfl, SqT.of hmx, rfl, by show 3 ≤ sizeLine; decide, fun p hp => ?_⟩
      have s1 : Same Hx (upd Hx p (.tup [.ref rl, .ref sl0, .int (R.start : Int)])) := Same.new hp
      have hpr : p ≠ rl := fun z => by rw [z, hds] at hp; cases hp
      refine ⟨[rl], .lst (ds.map V.ref), s1 _ _ hds, trivial, fun od => ?_⟩
      have fx : Fx Hx (upd (upd Hx p (.tup [.ref rl, .ref sl0, .int (R.start : Int)])) rl (.frz od (.lst (ds.map V.ref)))) := fun b u hb f => by
        have n2 : b ≠ rl := fun z => by rw [z, hds] at hb; cases hb; exact f
        rw [upd_ne n2]
        exact s1 _ _ hb
      refine k p _ ⟨rs, R.ends, R.start⟩ ((dx.new hp).upd hrl hrlg) ⟨⟨rl, sl0, ds, od, o2, by rw [upd_ne hpr, upd_same], upd_same, fx _ _ hslx trivial, RowsAt.fx fx hrs⟩⟩ ⟨?_, ?_, fun r hr => ?_, fun e he => ?_, B.hn, ?_⟩
      · show 1 ≤ rs.length
        rw [hrsl]; exact B.h1
      · show rs.length ≤ 6
        omega
      · show RowB ps ts ms rs.length r
        rw [hrsl]; exact hrb r hr
      · show e < rs.length
        rw [hrsl]; exact B.he e he
      · show R.start < rs.length
        rw [hrsl]; exact B.hs
end
end K17
end TW9
section TWA
set_option Elab.async false
set_option linter.all false
set_option maxRecDepth 100000
set_option maxHeartbeats 4000000
/-! _law_model, _law_reader. -/
namespace K17
open PySem PySem.Spec PyProof.Rows L2 LamX
section
variable {P : Program} {w : World} {K : PySem.W.Frag} {mg : Str → Option Value} {base : Heap}
def spModel : Sp := fun vs H Q E => ∃ (g : Addr), vs = [.ref g] ∧ RngAt H g ∧ ∀ m H' R, Dr g H H' → ModelAt H' m R → Mdl R → Q (.ref m) H'
theorem scModel : FnScope ["_law_rng_here", "_law_letters_here", "_law_paper", "_law_tells", "_law_found"] ["_law_rng_here"] (defScope (top 52)) := ⟨rfl, rfl, rfl, by decide +kernel, rfl, by decide +kernel, by decide +kernel⟩
theorem cut_two (xs : List V) (i n : Nat) (hi : i ≤ xs.length) : cutV xs (some (i : Int)) (some (n : Int)) = (xs.drop i).take (n - i) := by
  unfold cutV
  rw [HT.sIx_nat, HT.sIx_nat, Nat.min_eq_left hi]
  by_cases h : n ≤ xs.length
  · rw [Nat.min_eq_left h]
  · rw [Nat.min_eq_right (by omega), List.take_of_length_le (by rw [List.length_drop]; omega), List.take_of_length_le (by rw [List.length_drop]; omega)]
theorem d_model (T : Tx K mg) : Def P w K mg base CX0 5 "_law_model" ["_law_rng_here"] spModel := by
  have Dw : Def P w K mg base CX0 1 "_law_draw" ["_law_rng_here", "_law_many"] spDraw := d_draw T
  have Le : Def P w K mg base CX0 2 "_law_letters" ["_law_rng_here", "_law_many"] spLetters := d_letters T
  have Ma : Def P w K mg base CX0 2 "_law_marks" ["_law_rng_here", "_law_many"] spMarks := d_lmarks T
  have Fo : Def P w K mg base CX0 4 "_law_format" ["_law_rng_here", "_law_cap", "_law_paper", "_law_tells", "_law_marks_here"] spAny := d_format T
  have Th : Def P w K mg base CX0 2 "_law_thinned" ["_law_rng_here", "_law_model_here"] spThin := d_thin T
  refine def_of T 34 52 ["_law_rng_here", "_law_letters_here", "_law_paper", "_law_tells", "_law_found"] rfl scModel (fun _ _ _ _ _ _ us hl => match us, hl with | [_], _ => rfl) (fun vs H Q E h => ?_) (fun f cdv A outer s H vs Q E hr h => ?_)
  · obtain ⟨g, rfl, _⟩ := h; rfl
  · obtain ⟨g, rfl, hg, k⟩ := h
    have nd := scModel.nd
    refine ⟨_, pss_cons (ps_set (i := 1) nd rfl (Or.inl rfl) (pd0 Le hr (pa_cons (pv 0) (pa1 pe_int))))
      (pss_cons (ps_par (i := 2) (j := 3) rfl nd rfl rfl (by decide) rfl rfl (pa_cons (pe_slice sl_list (pv 1) po_none (po_some (pe_op op_addN pe_int (pd0 Dw hr (pa_cons (pv 0) (pa1 pe_int)))))) (pa1 (pe_slice sl_list (pv 1) (po_some pe_int) (po_some (pe_op op_addN pe_int (pd0 Dw hr (pa_cons (pv 0) (pa1 pe_int)))))))) (by rfl))
      (pss_cons (ps_set (i := 4) nd rfl (Or.inl rfl) (pd0 Fo hr (pa_cons (pv 0) (pa_cons pe_int (pa_cons (pv 2) (pa_cons (pv 3) (pa1 (pd0 Ma hr (pa_cons (pv 0) (pa1 pe_int))))))))))
      (pss_one (ps_ret (pe_ifExp (pt_cmpR op_eq (pd0 Dw hr (pa_cons (pv 0) (pa1 pe_int))) pe_int (nomark _)) (pd0 Th hr (pa_cons (pv 0) (pa1 (pv 4)))) (pv 4)))))), ?_⟩
    refine ⟨_, rfl, g, 7, rfl, hg, by decide, fun l H1 cs hl d1 hcs hcl hcn hca => ?_⟩
    have hlg : l ≠ g := ne_g hg hl
    refine ⟨_, rfl, _, rfl, g, 2, rfl, d1.rng, by decide, by decide, fun e1 H2 he1 d2 => ⟨3, e1, rfl, rfl, _, rfl, l, _, rfl, SqL.of (d2.keep hlg hcs), fun q1 hq1 => ?_⟩⟩
    have hc1 : cutV (sgsV cs) none (some ((3 + e1 : Nat) : Int)) = sgsV (cs.take (3 + e1)) := by unfold sgsV; rw [cut_take, List.map_take]
    rw [hc1]
    have d12 := d1.trans d2
    have hcs2 := d2.keep hlg hcs
    have hlq1 : q1 ≠ l := fun z => by rw [z, hcs2] at hq1; cases hq1
    have d2' : Dr g H (upd H2 q1 (.lst (sgsV (cs.take (3 + e1))))) := d12.new hq1
    have hq1v : (upd H2 q1 (.lst (sgsV (cs.take (3 + e1))))) q1 = some (.lst (sgsV (cs.take (3 + e1)))) := upd_same
    have hcs2' := Same.new (o := .lst (sgsV (cs.take (3 + e1)))) hq1 _ _ hcs2
    have hq1g : q1 ≠ g := ne_g d12.rng hq1
    generalize upd H2 q1 (.lst (sgsV (cs.take (3 + e1)))) = H2' at d2' hq1v hcs2'
    refine ⟨_, rfl, _, rfl, _, rfl, g, 2, rfl, d2'.rng, by decide, by decide, fun e2 H3 he2 d3 => ⟨6, e2, rfl, rfl, _, rfl, l, _, rfl, SqL.of (d3.keep hlg hcs2'), fun q2 hq2 => ⟨_, _, rfl, ?_⟩⟩⟩
    have hc2 : cutV (sgsV cs) (some (4 : Int)) (some ((6 + e2 : Nat) : Int)) = sgsV ((cs.drop 4).take (6 + e2 - 4)) := by
      rw [show (4 : Int) = ((4 : Nat) : Int) from rfl, cut_two _ _ _ (by rw [List.length_map]; omega)]
      unfold sgsV
      rw [List.map_take, List.map_drop]
    rw [hc2]
    have d3a := d2'.trans d3
    have hcs3 := d3.keep hlg hcs2'
    have hq1v3 := d3.keep hq1g hq1v
    have s4 : Same H3 (upd H3 q2 (.lst (sgsV ((cs.drop 4).take (6 + e2 - 4))))) := Same.new hq2
    have d4 := d3a.trans (Dr.of d3a.rng s4)
    have hq2v : (upd H3 q2 (.lst (sgsV ((cs.drop 4).take (6 + e2 - 4))))) q2 = some (.lst (sgsV ((cs.drop 4).take (6 + e2 - 4)))) := upd_same
    have hq1v4 := s4 _ _ hq1v3
    have hq2g : q2 ≠ g := ne_g d3a.rng hq2
    generalize upd H3 q2 (.lst (sgsV ((cs.drop 4).take (6 + e2 - 4)))) = H4 at d4 hq2v hq1v4 s4
    refine ⟨_, rfl, _, rfl, _, rfl, _, rfl, g, 2, rfl, d4.rng, by decide, fun mq H5 ms hmq d5 hms hml hmk => ?_⟩
    have S : Stuff (cs.take (3 + e1)) ((cs.drop 4).take (6 + e2 - 4)) ms := {
      p4 := by rw [List.length_take]; omega
      p3 := by rw [List.length_take]; omega
      pnd := hcn.sublist (List.take_sublist _ _)
      pa := fun c hc => hca c (List.mem_of_mem_take hc)
      t3 := by rw [List.length_take, List.length_drop]; omega
      t2 := by rw [List.length_take, List.length_drop]; omega
      ta := fun c hc => hca c (List.mem_of_mem_drop (List.mem_of_mem_take hc))
      m2 := hml
      mkk := hmk }
    have d15 := d4.trans d5
    refine ⟨g, q1, q2, mq, _, _, ms, rfl, d15.rng, S, ⟨d5.keep hq1g hq1v4, d5.keep hq2g hq2v, hms⟩, fun m H6 R d6 hm hB => ?_⟩
    have d16 := d15.trans d6
    refine ⟨_, rfl, g, 2, rfl, d16.rng, by decide, by decide, fun d H7 hd d7 => ?_⟩
    have d17 := d16.trans d7
    have hm7 := hm.fx (d7.fx d16.rng)
    refine ⟨rfl, ?_⟩
    by_cases h0 : d = 0
    · refine ⟨true, congrArg V.bl (decide_eq_true (by rw [h0]; rfl)), iteT ?_⟩
      exact ⟨_, rfl, _, rfl, g, m, R, _, _, ms, rfl, d17.rng, hm7, hB, S.p4, fun m' H' R' d' hm' hB' => k m' H' R' (d17.trans d') hm' (hB'.mdl S)⟩
    · exact ⟨false, congrArg V.bl (decide_eq_false fun z => h0 (natInt_inj _ 0 (V.int.inj z))), iteF ⟨_, rfl, k m H7 R d17 hm7 (hB.mdl S)⟩⟩
def spMkReader (K : PySem.W.Frag) : Sp := fun vs H Q E => ∃ (m : Addr) (R : M), vs = [.ref m] ∧ ModelAt H m R ∧ Fit R ∧ ∀ x H' R', Same H H' → ReaderAt (RC K) H' x R' → PermR R R' → Q (.ref x) H'
theorem scMkReader : FnScope ["_law_model_here"] ["_law_model_here"] (defScope (top 53)) := ⟨rfl, rfl, rfl, by decide +kernel, rfl, by decide +kernel, by decide +kernel⟩
theorem d_mkReader (T : Tx K mg) (X : Rx K mg) : Def P w K mg base CX0 9 "_law_reader" ["_law_model_here"] (spMkReader K) := by
  refine def_of T 35 53 ["_law_model_here"] rfl scMkReader (fun _ _ _ _ _ _ us hl => match us, hl with | [_], _ => rfl) (fun vs H Q E h => ?_) (fun f cdv A outer s H vs Q E hr h => ?_)
  · obtain ⟨m, R, rfl, _⟩ := h; rfl
  · obtain ⟨m, R, rfl, hM, F, k⟩ := h
    refine ⟨_, pss_one (ps_ret (pe_reader T X hr (pa_cons (pe_ix ix_tup (pv 0) pe_int (fun _ _ => rfl)) (pa1 (pe_ix ix_tup (pv 0) pe_int (fun _ _ => rfl)))) (pk_cons (pe_ix ix_tup (pv 0) pe_int (fun _ _ => rfl)) pk_nil))), ?_⟩
    obtain ⟨ml, sl, ds, o1, o2, hm, hml, hsl, hds⟩ := hM.ex
    refine ⟨_, rfl, m, _, (0 : Int), _, rfl, rfl, SqT.of hm, rfl, _, rfl, m, _, (1 : Int), _, rfl, rfl, SqT.of hm, rfl, _, rfl, m, _, (2 : Int), _, rfl, rfl, SqT.of hm, rfl, ?_⟩
    exact rd_make (.inr ⟨o1, hml⟩) hds (.inr ⟨o2, hsl⟩) F fun x H' R' s _ hR hp => k x H' R' s hR hp
end
end K17
end TWA
section TWB
set_option Elab.async false
set_option linter.all false
set_option maxRecDepth 100000
set_option maxHeartbeats 4000000
/-! _law_texts. -/
namespace K17
open PySem PySem.Spec PyProof.Rows L2 LamX
/-- all words of one sign more -/
def longer (A : List Nat) (ws : List Wd) : List Wd := ws.flatMap fun w => A.map fun c => w ++ [c]
def lev (A : List Nat) : Nat → List Wd
  | 0 => [[]]
  | n + 1 => longer A (lev A n)
def allW (A : List Nat) : Nat → List Wd
  | 0 => [[]]
  | n + 1 => allW A n ++ lev A (n + 1)
theorem longer_len (A : List Nat) : ∀ ws : List Wd, (longer A ws).length = ws.length * A.length
  | [] => by simp [longer]
  | w :: ws => by
    have := longer_len A ws
    unfold longer at this ⊢
    rw [List.flatMap_cons, List.length_append, this, List.length_map, List.length_cons, Nat.succ_mul, Nat.add_comm]
theorem lev_len (A : List Nat) : ∀ n, (lev A n).length = A.length ^ n
  | 0 => rfl
  | n + 1 => by
    show (longer A (lev A n)).length = _
    rw [longer_len, lev_len A n, Nat.pow_succ]
theorem lev_word {A : List Nat} : ∀ {n : Nat} {w : Wd}, w ∈ lev A n ↔ w.length = n ∧ ∀ c ∈ w, c ∈ A
  | 0, w => by
    show w ∈ [[]] ↔ _
    rw [List.mem_singleton]
    constructor
    · rintro rfl
      exact ⟨rfl, fun _ h => nomatch h⟩
    · rintro ⟨h, _⟩
      exact List.length_eq_zero_iff.mp h
  | n + 1, w => by
    show w ∈ longer A (lev A n) ↔ _
    unfold longer
    rw [List.mem_flatMap]
    constructor
    · rintro ⟨v, hv, h⟩
      obtain ⟨c, hc, rfl⟩ := List.mem_map.mp h
      obtain ⟨h1, h2⟩ := lev_word.mp hv
      refine ⟨by rw [List.length_append, h1]; rfl, fun x hx => ?_⟩
      rcases List.mem_append.mp hx with z | z
      · exact h2 x z
      · rw [List.mem_singleton] at z
        rw [z]; exact hc
    · rintro ⟨h1, h2⟩
      obtain ⟨v, c, rfl⟩ : ∃ v c, w = v ++ [c] := by
        have hne : w ≠ [] := fun z => by rw [z] at h1; cases h1
        exact ⟨w.dropLast, w.getLast hne, (List.dropLast_concat_getLast hne).symm⟩
      rw [List.length_append] at h1
      exact ⟨v, lev_word.mpr ⟨by simpa using h1, fun x hx => h2 x (List.mem_append_left _ hx)⟩, List.mem_map.mpr ⟨c, h2 c (by simp), rfl⟩⟩
theorem allW_mem {A : List Nat} : ∀ {n : Nat} {w : Wd}, w ∈ allW A n ↔ w.length ≤ n ∧ ∀ c ∈ w, c ∈ A
  | 0, w => by
    have := lev_word (A := A) (n := 0) (w := w)
    show w ∈ lev A 0 ↔ _
    rw [this, Nat.le_zero]
  | n + 1, w => by
    show w ∈ allW A n ++ lev A (n + 1) ↔ _
    rw [List.mem_append, allW_mem, lev_word]
    constructor
    · rintro (h | h)
      · exact ⟨by omega, h.2⟩
      · exact ⟨by omega, h.2⟩
    · rintro ⟨h1, h2⟩
      by_cases h : w.length ≤ n
      · exact .inl ⟨h, h2⟩
      · exact .inr ⟨by omega, h2⟩
/-- in the order of wlt -/
theorem lev_inc {A : List Nat} (hA : A.Pairwise (· < ·)) : ∀ n, (lev A n).Pairwise (· < ·)
  | 0 => by simp [lev]
  | n + 1 => by
    show (longer A (lev A n)).Pairwise _
    have ih := lev_inc hA n
    have hl : ∀ w ∈ lev A n, w.length = n := fun w hw => (lev_word.mp hw).1
    generalize lev A n = ws at ih hl
    unfold longer
    induction ws with
    | nil => exact .nil
    | cons w ws IH =>
      rw [List.flatMap_cons, List.pairwise_append]
      obtain ⟨h1, h2⟩ := List.pairwise_cons.mp ih
      refine ⟨?_, IH h2 fun x hx => hl x (List.mem_cons_of_mem _ hx), fun a ha b hb => ?_⟩
      · rw [List.pairwise_map]
        exact hA.imp fun {a b} h => (lex_snoc_same a b w).mpr h
      · obtain ⟨c, hc, rfl⟩ := List.mem_map.mp ha
        obtain ⟨v, hv, hb⟩ := List.mem_flatMap.mp hb
        obtain ⟨d, hd, rfl⟩ := List.mem_map.mp hb
        exact lex_snoc_lt c d ((hl w List.mem_cons_self).trans (hl v (List.mem_cons_of_mem _ hv)).symm) (h1 v hv)
theorem allW_inc {A : List Nat} (hA : A.Pairwise (· < ·)) : ∀ n, (allW A n).Pairwise wlt
  | 0 => by simp [allW]
  | n + 1 => by
    show (allW A n ++ lev A (n + 1)).Pairwise _
    rw [List.pairwise_append]
    refine ⟨allW_inc hA n, ?_, fun a ha b hb => .inl ?_⟩
    · have h := lev_inc hA (n + 1)
      have hl : ∀ w ∈ lev A (n + 1), w.length = n + 1 := fun w hw => (lev_word.mp hw).1
      exact h.imp_of_mem fun {a b} ha hb z => .inr ⟨(hl a ha).trans (hl b hb).symm, z⟩
    · have h1 := (allW_mem.mp ha).1
      have h2 := (lev_word.mp hb).1
      omega
abbrev wdsV (ws : List Wd) : List V := ws.map fun w => V.str (S w)
theorem wdsV_app (a b : List Wd) : wdsV (a ++ b) = wdsV a ++ wdsV b := List.map_append
theorem fits (A : List Nat) (cap : Nat) (h : (A.length = 3 ∧ cap = 5) ∨ (A.length = 4 ∧ cap = 4)) : ∀ n, n ≤ cap → (allW A n).length ≤ 400 ∧ (lev A n).length ≤ 300 := by
  have key : ∀ n, (allW A n).length = (List.range (n + 1)).foldl (fun a k => a + A.length ^ k) 0 := by
    intro n
    induction n with
    | zero => rfl
    | succ n ih =>
      show (allW A n ++ lev A (n + 1)).length = _
      rw [List.length_append, ih, lev_len, List.range_succ (n := n + 1), List.foldl_append]
      rfl
  intro n hn
  rw [key n, lev_len]
  rcases h with ⟨h1, h2⟩ | ⟨h1, h2⟩
  · rw [h1]
    subst h2
    have : n = 0 ∨ n = 1 ∨ n = 2 ∨ n = 3 ∨ n = 4 ∨ n = 5 := by omega
    rcases this with z | z | z | z | z | z <;> subst z <;> decide
  · rw [h1]
    subst h2
    have : n = 0 ∨ n = 1 ∨ n = 2 ∨ n = 3 ∨ n = 4 := by omega
    rcases this with z | z | z | z | z <;> subst z <;> decide
section
variable {P : Program} {w : World} {K : PySem.W.Frag} {mg : Str → Option Value} {base : Heap}
def spTexts : Sp := fun vs H Q E => ∃ (A : List Nat) (cap : Nat), vs = [.str (S A), .int (cap : Int)] ∧ ((A.length = 3 ∧ cap = 5) ∨ (A.length = 4 ∧ cap = 4)) ∧ ∀ l H', H l = none → Same H H' → H' l = some (.lst (wdsV (allW A cap))) → Q (.ref l) H'
theorem scTexts : FnScope ["_law_abc", "_law_cap", "_law_found", "_law_latest", "_law_turn", "_law_longer", "_law_note", "_law_letter"] ["_law_abc", "_law_cap"] (defScope (top 54)) := ⟨rfl, rfl, rfl, by decide +kernel, rfl, by decide +kernel, by decide +kernel⟩
theorem d_texts (T : Tx K mg) : Def P w K mg base CX0 1 "_law_texts" ["_law_abc", "_law_cap"] spTexts := by
  refine def_of T 36 54 ["_law_abc", "_law_cap", "_law_found", "_law_latest", "_law_turn", "_law_longer", "_law_note", "_law_letter"] rfl scTexts (fun _ _ _ _ _ _ us hl => match us, hl with | [_, _], _ => rfl) (fun vs H Q E h => ?_) (fun f cdv A outer s H vs Q E hr h => ?_)
  · obtain ⟨A, cap, rfl, _⟩ := h; rfl
  · obtain ⟨A, cap, rfl, hAc, k⟩ := h
    have nd := scTexts.nd
    refine ⟨_, PSs.nox (pss_cons (ps_par (i := 2) (j := 3) rfl nd rfl rfl (by decide) rfl rfl (pa_cons (pe_lst (pa1 pe_str)) (pa1 (pe_lst (pa1 pe_str)))) (by rfl))
      (pss_cons (ps_for PassesOwn.never rfl (pi_range1 rfl (T.f "range") (pa1 (pv 1))) (g := gName 4) (pg_name (i := 4) nd rfl (Or.inl rfl))
        (pss_cons (ps_set (i := 5) nd rfl (Or.inl rfl) (pe_lst pa_nil))
        (pss_cons (ps_for PassesOwn.never rfl (pi_list (pv 3)) (g := gName 6) (pg_name (i := 6) nd rfl (Or.inr rfl))
          (pss_one (ps_expr (pe_bm PySem.F.plainAttrs_list PySem.F.slot_list_extend PySem.F.type_list_extend mt_extend (pv 5) (pa1 (pe_lc (own := [("_law_letter", 7)]) (g := gName 7) (tt := tYes) rfl nd (pi_str (pv 0)) (blkOk_by (own := [("_law_letter", 7)]) (N := ["_law_abc", "_law_cap", "_law_found", "_law_latest", "_law_turn", "_law_longer", "_law_note", "_law_letter"]) (sc := defScope (top 54)) (by decide +kernel))
              (fun _ _ _ _ _ => pg_name (i := 7) nd rfl (Or.inl rfl)) (fun _ _ _ _ _ => pts_nil) (fun _ _ _ _ _ => pe_op op_add_str (pv 6) (pv 7))))))))
        (pss_one (ps_par (i := 2) (j := 3) rfl nd rfl rfl (by decide) rfl rfl (pa_cons (pe_op op_cat (pv 2) (pv 5)) (pa1 (pv 5))) (by rfl))))))
      (pss_one (ps_ret (pv 2))))), ?_⟩
    have hA4 : A.length ≤ 4 := by omega
    have hcap : cap ≤ 5 := by omega
    have hfit := fits A cap hAc
    refine ⟨by show 1 ≤ sizeLine; decide, fun l1 hl1 => ⟨by show 1 ≤ sizeLine; decide, fun l2 hl2 => ⟨_, _, rfl, ?_⟩⟩⟩
    have s1 : Same H (upd H l1 (.lst [.str ""])) := Same.new hl1
    have s2 := s1.trans (Same.new (o := .lst [.str ""]) hl2)
    have h12 : l1 ≠ l2 := fun z => by rw [← z, upd_same] at hl2; cases hl2
    refine ⟨_, rfl, (cap : Int), rfl, by omega, by omega, ?_⟩
    refine for_it (walk_range (n := cap)) (fun i σ Hx => Same H Hx ∧ (∃ l1 l2, H l1 = none ∧ Hx l1 = some (.lst (wdsV (allW A i))) ∧ Hx l2 = some (.lst (wdsV (lev A i))) ∧ ∃ u4 u5 u6 u7, σ = [some (.str (S A)), some (.int (cap : Int)), some (.ref l1), some (.ref l2), u4, u5, u6, u7]))
      ⟨s2, l1, l2, hl1, Same.new hl2 _ _ upd_same, upd_same, none, none, none, none, rfl⟩ (fun _ _ _ _ _ => trivial) (fun i x σ Hx Hx' hi hp hy => ?_) (fun σ Hx hp => ?_)
    · obtain ⟨sx, l1, l2, hl1, h1, h2, u4, u5, u6, u7, rfl⟩ := hp
      obtain ⟨rfl, _⟩ := hy
      have hl3 := (hfit i (by omega)).2
      refine ⟨Nat.zero_le _, fun ln hln => ?_⟩
      have s3 : Same Hx' (upd Hx' ln (.lst [])) := Same.new hln
      refine ⟨_, rfl, l2, rfl, ⟨_, SqL.of (s3 _ _ h2)⟩, ?_⟩
      refine for_it (walk_list (xs := wdsV (lev A i))) (fun j σ Hy => Same Hx' Hy ∧ Hy ln = some (.lst (wdsV (longer A ((lev A i).take j)))) ∧ ∃ u6 u7, σ = [some (.str (S A)), some (.int (cap : Int)), some (.ref l1), some (.ref l2), some x, some (.ref ln), u6, u7])
        ⟨s3, upd_same, _, _, rfl⟩ (fun j σ Hy _ hp => SqL.of (hp.1 _ _ h2)) (fun j y σ Hy Hy' hj hp hy => ?_) (fun σ Hy hp => ?_)
      · obtain ⟨sy, hln2, u6, u7, rfl⟩ := hp
        obtain ⟨rfl, hy⟩ := hy
        rw [List.getElem?_map] at hy
        cases hv : (lev A i)[j]? with
        | none => rw [hv] at hy; cases hy
        | some v =>
          rw [hv] at hy
          obtain rfl : V.str (S v) = y := Option.some.inj hy
          have hvl : v.length = i := (lev_word.mp (List.mem_of_getElem? hv)).1
          refine ⟨_, rfl, .inl ⟨rfl, _, SqL.of hln2⟩, ?_⟩
          refine ⟨_, rfl, S A, rfl, fun D hD => ?_⟩
          refine lc_it (walk_str (z := S A)) (fun m H4 => Same Hy' H4 ∧ H4 D = some (.lst (wdsV ((A.take m).map fun c => v ++ [c]))))
            ⟨Same.new hD, upd_same⟩ (fun _ _ _ _ => trivial) (fun m z H4 H5 hm hp hz => ?_) (fun H4 hp => ?_)
          · obtain ⟨s4, h4⟩ := hp
            obtain ⟨rfl, c, hc, rfl⟩ := hz
            have hc : A[m]? = some c := by
              have e : (S A).cps[m]? = A[m]? := by simp [S]
              rw [← e]
              exact hc
            refine ⟨rfl, _, rfl, _, rfl, S v, sg c, rfl, rfl, ?_, _, h4, ?_, Same.updN s4 hD, ?_⟩
            · rw [S_len]
              show v.length + 1 ≤ _
              exact Nat.le_of_lt (lt_line (by omega))
            · rw [List.length_map, List.length_map, List.length_take]
              exact lt_line (by omega)
            · rw [upd_same, take_succ_of hc, List.map_append, wdsV_app, ← S_one, S_app]
              rfl
          · obtain ⟨s4, h4⟩ := hp
            have hn : (S A).cps.size = A.length := by simp [S]
            rw [hn, List.take_length] at h4
            refine ⟨ln, D, _, _, rfl, rfl, s4 _ _ hln2, h4, ?_, Same.updN (sy.trans s4) hln, ?_, _, _, rfl⟩
            · rw [List.length_map, List.length_map, List.length_map, longer_len, List.length_take]
              have : min j (lev A i).length * A.length ≤ 300 * 4 := Nat.mul_le_mul (by omega) hA4
              rw [sizeLine_eq]
              omega
            · rw [upd_same, take_succ_of hv]
              unfold longer
              rw [List.flatMap_append, wdsV_app]
              congr 3
              simp
      · obtain ⟨sy, hln2, u6, u7, rfl⟩ := hp
        rw [List.length_map, List.take_length] at hln2
        have h1' := sy _ _ h1
        refine ⟨_, rfl, _, rfl, l1, ln, _, _, rfl, rfl, h1', hln2, ?_, fun q hq => ⟨_, rfl, _, _, rfl, (sx.trans sy).trans (Same.new hq), q, ln, Same.free (sx.trans sy) hq, ?_, Same.new hq _ _ hln2, _, _, _, _, rfl⟩⟩
        · rw [List.length_map, List.length_map, longer_len]
          have := (hfit i (by omega)).1
          have h3 : (lev A i).length * A.length ≤ 300 * 4 := Nat.mul_le_mul hl3 hA4
          rw [sizeLine_eq]
          omega
        · rw [upd_same, ← wdsV_app]
          rfl
    · obtain ⟨sx, l1, l2, hl1, h1, h2, u4, u5, u6, u7, rfl⟩ := hp
      exact ⟨_, rfl, k l1 Hx hl1 sx h1⟩
end
end K17
end TWB
section TWC
set_option Elab.async false
set_option linter.all false
set_option maxRecDepth 100000
set_option maxHeartbeats 4000000
/-! _law_read. -/
namespace K17
open PySem PySem.Spec PyProof.Rows L2 LamX
/-- the way of a page: the start and the states behind its signs -/
def wayOf (R : M) (w : Wd) : List Nat := R.start :: (R.trace R.start w).map (·.1)
theorem lastOf_snoc {τ : Type} (q : Nat) (l : List (Nat × Option τ)) (x : Nat × Option τ) : lastOf q (l ++ [x]) = x.1 := by
  unfold lastOf
  rw [List.getLast?_concat]
  rfl
section
variable {P : Program} {w : World} {K : PySem.W.Frag} {mg : Str → Option Value} {base : Heap}
def spRead : Sp := fun vs H Q E => ∃ (m : Addr) (R : M) (wd : Wd), vs = [.ref m, .str (S wd)] ∧ ModelAt H m R ∧ R.Ok ∧ wd.length ≤ 900 ∧
  (∀ row p tp wy H', R.read wd = some row → H p = none → Same H H' → H' p = some (.tup [.ref tp, .ref wy]) → H' tp = some (.tup (strV row)) → H' wy = some (.lst (natsV (wayOf R wd))) → Q (.ref p) H') ∧
  (R.read wd = none → ∀ p wy H', H p = none → Same H H' → H' p = some (.tup [.non, .ref wy]) → H' wy = some (.lst []) → Q (.ref p) H')
theorem scRead : FnScope ["_law_model_here", "_law_note", "_law_spot", "_law_told_here", "_law_way", "_law_letter", "_law_thing"] ["_law_model_here", "_law_note"] (defScope (top 55)) := ⟨rfl, rfl, rfl, by decide +kernel, rfl, by decide +kernel, by decide +kernel⟩
theorem d_read (T : Tx K mg) : Def P w K mg base CX0 1 "_law_read" ["_law_model_here", "_law_note"] spRead := by
  refine def_of T 37 55 ["_law_model_here", "_law_note", "_law_spot", "_law_told_here", "_law_way", "_law_letter", "_law_thing"] rfl scRead (fun _ _ _ _ _ _ us hl => match us, hl with | [_, _], _ => rfl) (fun vs H Q E h => ?_) (fun f cdv A outer s H vs Q E hr h => ?_)
  · obtain ⟨m, R, wd, rfl, _⟩ := h; rfl
  · obtain ⟨m, R, wd, rfl, hM, ok, hl, k1, k2⟩ := h
    have nd := scRead.nd
    have hu := hu_of hr
    refine ⟨_, PSs.nox (pss_cons (ps_par3 (i := 2) (j := 3) (l := 4) rfl nd rfl rfl rfl (by decide) (by decide) (by decide) rfl rfl rfl (pa_cons (pe_ix ix_tup (pv 0) pe_int (fun _ _ => rfl)) (pa_cons (pe_lst pa_nil) (pa1 (pe_lst (pa1 (pe_ix ix_tup (pv 0) pe_int (fun _ _ => rfl))))))) (by rfl))
      (pss_cons (ps_for PassesOwn.never rfl (pi_str (pv 1)) (g := gName 5) (pg_name (i := 5) nd rfl (Or.inl rfl))
        (pss_cons (ps_if (pt_cmp (pc_dnotin hu (pv 5) (pe_ix ix_list (pe_ix ix_tup (pv 0) pe_int (fun _ _ => rfl)) (pv 2) (fun _ _ => rfl)))) (pss_one (ps_ret (pe_tup (pa_cons pe_non (pa1 (pe_lst pa_nil)))))) pss_nil)
        (pss_cons (ps_asg (pe_dget hu (pe_ix ix_list (pe_ix ix_tup (pv 0) pe_int (fun _ _ => rfl)) (pv 2) (fun _ _ => rfl)) (pv 5) (fun _ _ => rfl)) (g := gTup K 2 (gCons (gName 2) (gCons (gName 6) gNil))) (pg_tup rfl (pgs_cons (pg_name (i := 2) nd rfl (Or.inl rfl)) (pgs_cons (pg_name (i := 6) nd rfl (Or.inl rfl)) pgs_nil))))
        (pss_cons (ps_set (i := 3) nd rfl (Or.inl rfl) (pe_op op_cat (pv 3) (pe_ifExp (pt_cmpR op_notN (pv 6) pe_non (nomark _)) (pe_lst (pa1 (pv 6))) (pe_lst pa_nil))))
        (pss_one (ps_expr (pe_bm PySem.F.plainAttrs_list PySem.F.slot_list_append PySem.F.type_list_append mt_append (pv 4) (pa1 (pv 2)))))))))
      (pss_one (ps_ret (pe_ifExp (pt_cmpR op_in_seq (pv 2) (pe_ix ix_tup (pv 0) pe_int (fun _ _ => rfl)) (by rfl)) (pe_tup (pa_cons (pT T b_tuple call_tuple_of (pa1 (pv 3))) (pa1 (pv 4)))) (pe_tup (pa_cons pe_non (pa1 (pe_lst pa_nil))))))))), ?_⟩
    obtain ⟨ml, sl, ds, o1, o2, hm, hml, hsl, hds⟩ := hM.ex
    refine ⟨_, rfl, m, _, (2 : Int), _, rfl, rfl, SqT.of hm, rfl, Nat.zero_le _, fun tl htl => ?_⟩
    have s1 : Same H (upd H tl (.lst [])) := Same.new htl
    refine ⟨_, rfl, m, _, (2 : Int), _, rfl, rfl, SqT.of (s1 _ _ hm), rfl, by show 1 ≤ sizeLine; decide, fun wy hwy => ⟨_, _, _, rfl, ?_⟩⟩
    have s2 := s1.trans (Same.new (o := .lst [.int (R.start : Int)]) hwy)
    have hwyH : H wy = none := Same.free s1 hwy
    have htw : tl ≠ wy := fun z => by rw [← z, upd_same] at hwy; cases hwy
    refine ⟨_, rfl, S wd, rfl, ?_⟩
    refine for_it (walk_str (z := S wd)) (fun i σ Hx => Same H Hx ∧ ∃ (q : Nat) (tl : Addr) (done : List (Nat × Option Str)) (u5 u6 : Option V), σ = [some (.ref m), some (.str (S wd)), some (.int (q : Int)), some (.ref tl), some (.ref wy), u5, u6] ∧ q < R.rows.length ∧ q = lastOf R.start done ∧ done.length = i ∧
        R.trace R.start wd = done ++ R.trace q (wd.drop i) ∧ Hx tl = some (.lst (strV (done.filterMap (·.2)))) ∧ tl ≠ wy ∧ Hx wy = some (.lst (natsV (R.start :: done.map (·.1)))))
      ⟨s2, R.start, tl, [], none, none, rfl, ok.start, rfl, rfl, rfl, Same.new hwy _ _ upd_same, htw, upd_same⟩ (fun _ _ _ _ _ => trivial) (fun i x σ Hx Hx' hi hp hy => ?_) (fun σ Hx hp => ?_)
    · obtain ⟨sx, q, tl, done, u5, u6, rfl, hq, hql, hdl, htr, htl, htw, hwy2⟩ := hp
      obtain ⟨rfl, c, hc, rfl⟩ := hy
      have hc' : wd[i]? = some c := by
        have e : (S wd).cps[i]? = wd[i]? := by simp [S]
        rw [← e]
        exact hc
      have hil : i < wd.length := (List.getElem?_eq_some_iff.mp hc').1
      have hdrop : wd.drop i = c :: wd.drop (i + 1) := by
        rw [List.drop_eq_getElem_cons hil]
        congr 1
        exact (List.getElem?_eq_some_iff.mp hc').2
      obtain ⟨d, row, hd1, hd2, o, kvs, hd3, hk⟩ := row_at (RowsAt.same sx hds) hq
      have hdv : (ds.map V.ref)[q]? = some (.ref d) := by rw [List.getElem?_map, hd1]; rfl
      have hmv := mv_at hd2 c
      have hmx := sx _ _ hm
      have hmlx := sx _ _ hml
      refine ⟨_, rfl, _, rfl, m, _, (0 : Int), _, rfl, rfl, SqT.of hmx, rfl, _, rfl, ml, _, (q : Int), _, rfl, rfl, .inl (.inr ⟨o1, hmlx⟩), atI_nat hdv, d, _, rfl, .inl ⟨kvs, Sum.inr (sg c), .inr ⟨o, hd3⟩, rfl, rfl⟩, ?_⟩
      rcases hk.val c with ⟨e1, e2⟩ | ⟨e, mm, e1, e2, e3⟩
      · rw [e2]
        refine ⟨true, rfl, iteT ?_⟩
        have hnone : R.read wd = none := by
          rw [trace_read, htr, hdrop, trace_none (hmv.trans e1), List.append_nil, if_neg fun z => by have := z.1; omega]
        refine ⟨Nat.zero_le _, fun wl hwl => ⟨by show 2 ≤ sizeLine; decide, fun p hp => ?_⟩⟩
        have s3 := sx.trans (Same.new (o := .lst []) hwl)
        have hpw : wl ≠ p := fun z => by rw [← z, upd_same] at hp; cases hp
        exact k2 hnone p wl _ (Same.free s3 hp) (s3.trans (Same.new hp)) upd_same (Same.new hp _ _ upd_same)
      · rw [e2]
        refine ⟨false, rfl, iteF ?_⟩
        refine ⟨_, rfl, m, _, (0 : Int), _, rfl, rfl, SqT.of hmx, rfl, _, rfl, ml, _, (q : Int), _, rfl, rfl, .inl (.inr ⟨o1, hmlx⟩), atI_nat hdv, _, rfl, d, .ref mm, rfl, .inl ⟨kvs, Sum.inr (sg c), .inr ⟨o, hd3⟩, rfl, e2.symm⟩, ?_⟩
        refine ⟨mm, _, rfl, SqT.of e3, rfl, _, _, rfl, _, _, rfl, rfl, ?_⟩
        obtain ⟨g, t⟩ := e
        have hlen : (strV (done.filterMap (·.2))).length ≤ i := by
          rw [List.length_map]
          have := List.length_filterMap_le (fun e : Nat × Option Str => e.2) done
          omega
        have hwx : wy ≠ tl := htw.symm
        have hwl : (natsV (R.start :: done.map (·.1))).length < sizeLine := by
          rw [List.length_map, List.length_cons, List.length_map]
          exact lt_line (by omega)
        have hgl : g < R.rows.length := mv_goal ok (hmv.trans e1)
        have htr' : R.trace R.start wd = (done ++ [(g, t)]) ++ R.trace g (wd.drop (i + 1)) := by
          rw [htr, hdrop, trace_some (hmv.trans e1), List.append_assoc]
          rfl
        have hlo : g = lastOf R.start (done ++ [(g, t)]) := by rw [lastOf_snoc]
        have hdl' : (done ++ [(g, t)]).length = i + 1 := by rw [List.length_append, hdl]; rfl
        have hwv : natsV (R.start :: done.map (·.1)) ++ [V.int (g : Int)] = natsV (R.start :: (done ++ [(g, t)]).map (·.1)) := by
          rw [List.map_append, ← List.cons_append, natsV_app]
          rfl
        have tok : ∀ (H4 : Hp) (x : List V), Same Hx' H4 → H4 tl = some (.lst (strV (done.filterMap (·.2)))) := fun H4 x s => s _ _ htl
        cases t with
        | none =>
          have hfm : (done ++ [(g, (none : Option Str))]).filterMap (·.2) = done.filterMap (·.2) := by simp
          refine ⟨_, rfl, _, rfl, rfl, false, rfl, iteF ⟨Nat.zero_le _, fun q1 hq1 => ?_⟩⟩
          have s3 : Same Hx' (upd Hx' q1 (.lst [])) := Same.new hq1
          refine ⟨tl, q1, _, _, rfl, rfl, s3 _ _ htl, upd_same, ?_, fun q2 hq2 => ?_⟩
          · rw [List.length_nil]
            exact Nat.le_of_lt (lt_line (by omega))
          have s4 := s3.trans (Same.new (o := .lst (strV (done.filterMap (·.2)) ++ [])) hq2)
          have hq2w : q2 ≠ wy := fun z2 => by
            have h1 := s3 _ _ hwy2
            rw [z2] at hq2
            have h2 := h1.symm.trans hq2
            cases h2
          refine ⟨_, rfl, .inl ⟨rfl, _, SqL.of (s4 _ _ hwy2)⟩, _, rfl, wy, _, _, rfl, rfl, s4 _ _ hwy2, hwl, Same.updN (sx.trans s4) hwyH, g, q2, done ++ [(g, none)], _, _, rfl, hgl, hlo, hdl', htr', ?_, hq2w, ?_⟩
          · rw [upd_ne hq2w, upd_same, hfm, List.append_nil]
          · rw [upd_same, hwv]
        | some z =>
          have hfm : (done ++ [(g, some z)]).filterMap (·.2) = done.filterMap (·.2) ++ [z] := by simp
          refine ⟨_, rfl, _, rfl, rfl, true, rfl, iteT ⟨_, rfl, by show 1 ≤ sizeLine; decide, fun q1 hq1 => ?_⟩⟩
          have s3 : Same Hx' (upd Hx' q1 (.lst [.str z])) := Same.new hq1
          refine ⟨tl, q1, _, _, rfl, rfl, s3 _ _ htl, upd_same, ?_, fun q2 hq2 => ?_⟩
          · exact Nat.le_of_lt (lt_line (by show _ + 1 < _; omega))
          have s4 := s3.trans (Same.new (o := .lst (strV (done.filterMap (·.2)) ++ [.str z])) hq2)
          have hq2w : q2 ≠ wy := fun z2 => by
            have h1 := s3 _ _ hwy2
            rw [z2] at hq2
            have h2 := h1.symm.trans hq2
            cases h2
          refine ⟨_, rfl, .inl ⟨rfl, _, SqL.of (s4 _ _ hwy2)⟩, _, rfl, wy, _, _, rfl, rfl, s4 _ _ hwy2, hwl, Same.updN (sx.trans s4) hwyH, g, q2, done ++ [(g, some z)], _, _, rfl, hgl, hlo, hdl', htr', ?_, hq2w, ?_⟩
          · rw [upd_ne hq2w, upd_same, hfm, strV_app]
            rfl
          · rw [upd_same, hwv]
    · obtain ⟨sx, q, tl, done, u5, u6, rfl, hq, hql, hdl, htr, htl, htw, hwy2⟩ := hp
      have hn : (S wd).cps.size = wd.length := by simp [S]
      rw [hn] at hdl htr
      rw [List.drop_length] at htr
      have htr : R.trace R.start wd = done := by rw [htr]; exact List.append_nil _
      have hmx := sx _ _ hm
      have hslx := sx _ _ hsl
      refine ⟨_, rfl, _, rfl, m, _, (1 : Int), _, rfl, rfl, SqT.of hmx, rfl, sl, _, rfl, .inl (.inl (.inr ⟨o2, hslx⟩)), rfl, flat_ints R.ends, ?_⟩
      rw [if_neg Bool.false_ne_true, inV_ints]
      by_cases he : q ∈ R.ends
      · rw [decide_eq_true he]
        refine ⟨true, rfl, iteT ?_⟩
        have hread : R.read wd = some (done.filterMap (·.2)) := by rw [trace_read, htr, if_pos ⟨hdl, by rw [← hql]; exact he⟩]
        refine ⟨_, rfl, tl, _, rfl, .inl ⟨SqL.of htl, fun tp htp => ⟨_, rfl, by show 2 ≤ sizeLine; decide, fun p hp => ?_⟩⟩⟩
        have s3 := sx.trans (Same.new (o := .tup (strV (done.filterMap (·.2)))) htp)
        have s4 := Same.new (o := .tup [.ref tp, .ref wy]) hp
        refine k1 _ p tp wy _ hread (Same.free s3 hp) (s3.trans s4) upd_same (s4 _ _ upd_same) ?_
        unfold wayOf
        rw [htr]
        exact s4 _ _ (Same.new htp _ _ hwy2)
      · rw [decide_eq_false he]
        refine ⟨false, rfl, iteF ⟨Nat.zero_le _, fun wl hwl => ⟨by show 2 ≤ sizeLine; decide, fun p hp => ?_⟩⟩⟩
        have hread : R.read wd = none := by rw [trace_read, htr, if_neg fun z => he (by rw [hql]; exact z.2)]
        have s3 := sx.trans (Same.new (o := .lst []) hwl)
        have s4 := Same.new (o := .tup [.non, .ref wl]) hp
        exact k2 hread p wl _ (Same.free s3 hp) (s3.trans s4) upd_same (s4 _ _ upd_same)
end
end K17
end TWC
section TWD
set_option Elab.async false
set_option linter.all false
set_option maxRecDepth 100000
set_option maxHeartbeats 4000000
/-! _law_told. -/
namespace K17
open PySem PySem.Spec PyProof.Rows L2 LamX
section
variable {P : Program} {w : World} {K : PySem.W.Frag} {mg : Str → Option Value} {base : Heap}
def spTold (K : PySem.W.Frag) : Sp := fun vs H Q E => ∃ (r : Addr) (R : M) (wd : Wd), vs = [.ref r, .str (S wd)] ∧ ReaderAt (RC K) H r R ∧ R.Ok ∧ isWd (S wd) = true ∧ wd.length ≤ 900 ∧
  (∀ row p H', R.read wd = some row → H p = none → Same H H' → H' p = some (.tup (strV row)) → Q (.ref p) H') ∧ (R.read wd = none → ∀ H', Same H H' → Q .non H')
theorem scTold2 : FnScope ["_law_made", "_law_note", "_law_found"] ["_law_made", "_law_note"] (defScope (top 56)) := ⟨rfl, rfl, rfl, by decide +kernel, rfl, by decide +kernel, by decide +kernel⟩
theorem d_told (T : Tx K mg) (X : Rx K mg) (U : Ux K mg) : Def P w K mg base CX0 8 "_law_told" ["_law_made", "_law_note"] (spTold K) := by
  have Rd : Def P w K mg base (CX P w) 7 "reading" ["reader", "page"] (spReading K) := d_reading T X U
  obtain ⟨fr, fdr, FR, hmr, hkr, hbr⟩ := Rd.ex
  refine def_of T 38 56 ["_law_made", "_law_note", "_law_found"] rfl scTold2 (fun _ _ _ _ _ _ us hl => match us, hl with | [_, _], _ => rfl) (fun vs H Q E h => ?_) (fun f cdv A outer s H vs Q E hr h => ?_)
  · obtain ⟨r, R, wd, rfl, _⟩ := h; rfl
  · obtain ⟨r, R, wd, rfl, hR, ok, hwd, hl, k1, k2⟩ := h
    have nd := scTold2.nd
    refine ⟨_, PSs.nox (pss_cons (ps_try_only rfl rfl ⟨rfl, by decide, .inl U.gC⟩ L2.takes0
        (fun W pn xe tk _ => pss_one (ps_set (i := 2) nd rfl (Or.inl rfl) (pe_callS FR hr rfl hmr hkr hbr (fun σ => passAt tk σ) (pa_cons (pv 0) (pa1 (pv 1))))))
        (fun a oe cls d pn _ _ => pss_one (ps_set (i := 2) nd rfl (Or.inl rfl) pe_non)))
      (pss_one (ps_ret (pv 2)))), ?_⟩
    refine ⟨_, rfl, _, rfl, r, R, wd, rfl, hR, ok, hwd, hl, fun row p H' hr' s hp h => ⟨_, rfl, k1 row p H' hr' hp s h⟩, fun hn d H' s => ⟨true, U.exm, fun _ a ha => ⟨_, rfl, k2 hn H' s⟩, fun q => nomatch q⟩⟩
end
end K17
end TWD
section TWE
set_option Elab.async false
set_option linter.all false
set_option maxRecDepth 100000
set_option maxHeartbeats 4000000
/-! _law_notes. -/
namespace K17
open PySem PySem.Spec PyProof.Rows L2 LamX
section
variable {P : Program} {w : World} {K : PySem.W.Frag} {mg : Str → Option Value} {base : Heap}
/-- one of a text's signs -/
def spChoiceS : Sp := fun vs H Q E => ∃ (g : Addr) (A : List Nat), vs = [.ref g, .str (S A)] ∧ RngAt H g ∧ 0 < A.length ∧ A.length < 1000 ∧ ∀ c H', c ∈ A → Dr g H H' → Q (.str (sg c)) H'
theorem d_choiceS (T : Tx K mg) : Def P w K mg base CX0 2 "_law_choice" ["_law_rng_here", "_law_some"] spChoiceS := by
  have Dw : Def P w K mg base CX0 1 "_law_draw" ["_law_rng_here", "_law_many"] spDraw := d_draw T
  refine def_of T 26 44 ["_law_rng_here", "_law_some"] rfl scChoice (fun _ _ _ _ _ _ us hl => match us, hl with | [_, _], _ => rfl) (fun vs H Q E h => ?_) (fun f cdv A outer s H vs Q E hr h => ?_)
  · obtain ⟨g, A, rfl, _⟩ := h; rfl
  · obtain ⟨g, B, rfl, hg, h0, h1, k⟩ := h
    refine ⟨_, pss_one (ps_ret (pe_ix ix_str (pv 1) (pd0 Dw hr (pa_cons (pv 0) (pa1 (pB T b_len call_len_str (pa1 (pv 1)))))) (fun _ _ => rfl))), ?_⟩
    have hsl : (S B).length ≤ sizeLine := by rw [S_len]; exact Nat.le_of_lt (lt_line h1)
    refine ⟨_, rfl, _, rfl, _, rfl, S B, rfl, hsl, g, (S B).length, rfl, hg, by rw [S_len]; exact h0, by rw [S_len]; exact h1, fun d H' hd dr => ?_⟩
    rw [S_len] at hd
    have hx : (S B).cps.toList[d]? = some B[d] := by rw [S_list]; exact List.getElem?_eq_getElem hd
    exact ⟨S B, (d : Int), B[d], rfl, rfl, hsl, atI_nat hx, k _ H' (List.getElem_mem hd) dr⟩
def capOf (A : List Nat) : Nat := if A.length = 3 then 5 else 4
def spNotes : Sp := fun vs H Q E => ∃ (g : Addr) (A : List Nat), vs = [.ref g, .str (S A)] ∧ RngAt H g ∧ (A.length = 3 ∨ A.length = 4) ∧
  ∀ l H' ws, H l = none → Dr g H H' → H' l = some (.lst (wdsV (allW A (capOf A) ++ ws))) → ws.length ≤ 6 → (∀ v ∈ ws, v.length ≤ 40 ∧ ∀ c ∈ v, c ∈ A) → Q (.ref l) H'
theorem scNotes : FnScope ["_law_rng_here", "_law_abc", "_law_found", "_law_turn", "_law_k"] ["_law_rng_here", "_law_abc"] (defScope (top 57)) := ⟨rfl, rfl, rfl, by decide +kernel, rfl, by decide +kernel, by decide +kernel⟩
theorem d_notes (T : Tx K mg) : Def P w K mg base CX0 3 "_law_notes" ["_law_rng_here", "_law_abc"] spNotes := by
  have Dw : Def P w K mg base CX0 1 "_law_draw" ["_law_rng_here", "_law_many"] spDraw := d_draw T
  have Ch : Def P w K mg base CX0 2 "_law_choice" ["_law_rng_here", "_law_some"] spChoiceS := d_choiceS T
  have Te : Def P w K mg base CX0 1 "_law_texts" ["_law_abc", "_law_cap"] spTexts := d_texts T
  refine def_of T 39 57 ["_law_rng_here", "_law_abc", "_law_found", "_law_turn", "_law_k"] rfl scNotes (fun _ _ _ _ _ _ us hl => match us, hl with | [_, _], _ => rfl) (fun vs H Q E h => ?_) (fun f cdv A outer s H vs Q E hr h => ?_)
  · obtain ⟨g, A, rfl, _⟩ := h; rfl
  · obtain ⟨g, B, rfl, hg, hB, k⟩ := h
    have nd := scNotes.nd
    refine ⟨_, PSs.nox (pss_cons (ps_set (i := 2) nd rfl (Or.inl rfl) (pd0 Te hr (pa_cons (pv 1) (pa1 (pe_ix ix_list (pe_lst (pa_cons pe_int (pa1 pe_int))) (pe_op op_sub (pB T b_len call_len_str (pa1 (pv 1))) pe_int) (fun _ _ => rfl))))))
      (pss_cons (ps_for PassesOwn.never rfl (pi_range1 rfl (T.f "range") (pa1 pe_int)) (g := gName 3) (pg_name (i := 3) nd rfl (Or.inl rfl))
        (pss_one (ps_expr (pe_bm PySem.F.plainAttrs_list PySem.F.slot_list_append PySem.F.type_list_append mt_append (pv 2) (pa1 (pe_join pe_str (pe_lc (own := [("_law_k", 4)]) (g := gName 4) (tt := tYes) rfl nd (pi_range1 rfl (T.f "range") (pa1 (pd0 Dw hr (pa_cons (pv 0) (pa1 pe_int))))) (blkOk_by (own := [("_law_k", 4)]) (N := ["_law_rng_here", "_law_abc", "_law_found", "_law_turn", "_law_k"]) (sc := defScope (top 57)) (by decide +kernel))
            (fun _ _ _ _ _ => pg_name (i := 4) nd rfl (Or.inl rfl)) (fun _ _ _ _ _ => pts_nil) (fun _ _ _ _ _ => pd0 Ch hr (pa_cons (pv 0) (pa1 (pv 1)))))))))))
      (pss_one (ps_ret (pv 2))))), ?_⟩
    have hB4 : B.length ≤ 4 := by omega
    have hsl : (S B).length ≤ sizeLine := by rw [S_len]; exact Nat.le_of_lt (lt_line (by omega))
    have hcap : (B.length = 3 ∧ capOf B = 5) ∨ (B.length = 4 ∧ capOf B = 4) := by
      unfold capOf
      rcases hB with z | z
      · exact .inl ⟨z, by rw [if_pos z]⟩
      · exact .inr ⟨z, by rw [if_neg (by omega)]⟩
    have hat : atI [V.int 5, V.int 4] (((S B).length : Nat) - 3 : Int) = some (.int (capOf B : Int)) := by
      rw [S_len]
      rcases hcap with ⟨z1, z2⟩ | ⟨z1, z2⟩
      · rw [z1, z2]; rfl
      · rw [z1, z2]; rfl
    refine ⟨_, rfl, by show 2 ≤ sizeLine; decide, fun q hq => ?_⟩
    have s1 : Same H (upd H q (.lst [.int 5, .int 4])) := Same.new hq
    refine ⟨_, rfl, S B, rfl, hsl, _, _, rfl, rfl, q, _, _, _, rfl, rfl, SqL.of upd_same, hat, B, capOf B, rfl, hcap, fun l H2 hl s2 hl2 => ?_⟩
    have d2 := Dr.of hg (s1.trans s2)
    have hlH : H l = none := Same.free s1 hl
    have hlg : l ≠ g := ne_g hg hlH
    have hfit := fits B (capOf B) hcap (capOf B) (Nat.le_refl _)
    refine ⟨6, rfl, by omega, by omega, ?_⟩
    refine for_it (walk_range (n := 6)) (fun i σ Hx => Dr g H Hx ∧ (∃ ws : List Wd, Hx l = some (.lst (wdsV (allW B (capOf B) ++ ws))) ∧ ws.length = i ∧ ∀ v ∈ ws, v.length ≤ 40 ∧ ∀ c ∈ v, c ∈ B) ∧ ∃ u3 u4, σ = [some (.ref g), some (.str (S B)), some (.ref l), u3, u4])
      ⟨d2, ⟨[], by rw [List.append_nil]; exact hl2, rfl, fun _ h => (nomatch h)⟩, none, none, rfl⟩ (fun _ _ _ _ _ => trivial) (fun i x σ Hx Hx' hi hp hy => ?_) (fun σ Hx hp => ?_)
    · obtain ⟨dx, ⟨ws, hws, hwl, hwa⟩, u3, u4, rfl⟩ := hp
      obtain ⟨rfl, _⟩ := hy
      refine ⟨_, rfl, .inl ⟨rfl, _, SqL.of hws⟩, ⟨_, rfl⟩, ?_⟩
      refine ⟨_, rfl, g, 41, rfl, dx.rng, by decide, by decide, fun n H3 hn d3 => ⟨(n : Int), rfl, by omega, by omega, fun D hD => ?_⟩⟩
      have dx3 := dx.trans d3
      have hDg : D ≠ g := ne_g dx3.rng hD
      have hws3 := d3.keep hlg hws
      refine lc_it (walk_range (n := n)) (fun j H4 => Dr g H3 H4 ∧ ∃ cs : List Nat, H4 D = some (.lst (strV (cs.map sg))) ∧ cs.length = j ∧ ∀ c ∈ cs, c ∈ B)
        ⟨(Dr.refl dx3.rng).new hD, [], upd_same, rfl, fun _ h => (nomatch h)⟩ (fun _ _ _ _ => trivial) (fun j x H4 H5 hj hp hy => ?_) (fun H4 hp => ?_)
      · obtain ⟨d4, cs, hcs, hcl, hca⟩ := hp
        obtain ⟨rfl, _⟩ := hy
        refine ⟨rfl, _, rfl, _, rfl, g, B, rfl, d4.rng, by omega, by omega, fun c H6 hc d6 => ?_⟩
        refine ⟨_, d6.keep hDg hcs, by rw [List.length_map, List.length_map]; exact lt_line (by omega), (d4.trans d6).upd hD hDg, cs ++ [c], ?_, ?_, ?_⟩
        · rw [upd_same, List.map_append, strV_app]
          rfl
        · rw [List.length_append, hcl]
          rfl
        · intro e he
          rcases List.mem_append.mp he with z | z
          · exact hca e z
          · rw [List.mem_singleton] at z
            rw [z]; exact hc
      · obtain ⟨d4, cs, hcs, hcl, hca⟩ := hp
        refine ⟨_, D, cs.map sg, rfl, rfl, .inl (SqL.of hcs), ?_, ?_⟩
        · rw [sum_sgs, List.length_map]
          show cs.length + cs.length * 0 ≤ _
          omega
        rw [join_sgs]
        refine ⟨l, _, _, rfl, rfl, d4.keep hlg hws3, ?_, ((dx3.trans d4).upd hlH hlg), ⟨ws ++ [cs], ?_, by rw [List.length_append, hwl]; rfl, fun v hv => ?_⟩, _, _, rfl⟩
        · rw [List.length_map, List.length_append]
          exact lt_line (by omega)
        · rw [upd_same, ← List.append_assoc, wdsV_app (allW B (capOf B) ++ ws)]
          rfl
        · rcases List.mem_append.mp hv with z | z
          · exact hwa v z
          · rw [List.mem_singleton] at z
            rw [z]
            exact ⟨by omega, hca⟩
    · obtain ⟨dx, ⟨ws, hws, hwl, hwa⟩, u3, u4, rfl⟩ := hp
      exact ⟨_, rfl, k l Hx ws hlH dx hws (by omega) hwa⟩
end
end K17
end TWE
section TWF
set_option Elab.async false
set_option linter.all false
set_option maxRecDepth 100000
set_option maxHeartbeats 4000000
/-! d.setdefault(k, x), keys tuples. -/
namespace K17
open PySem PySem.Spec PyProof.Rows L2 LamX
def rSetdT : V → List V → Hp → VK → Prop := fun x xs H Q => ∃ (a b : Addr) (kvs : List (List Key × V)) (k : List Key) (y : V), x = .ref a ∧ xs = [.ref b, y] ∧ H a = some (.dT kvs) ∧ H b = some (.tup (k.map kV)) ∧ kvs.length < sizeLine ∧
  (∀ v, valV kvs k = some v → Q v H) ∧ (valV kvs k = none → Q y (upd H a (.dT (putK kvs k y))))
theorem mt_setdT {X : Cx} (hu : X.A.units + 16 < cLine) : MtR X "dict.setdefault" rSetdT := by
  intro pins s σ H x xs v us Q I rx rxs h
  obtain ⟨a, b, kvs, k, y, rfl, rfl, ha, hb, hz, q1, q2⟩ := h
  cases rx
  obtain ⟨u1, u2, rfl, r1, r2⟩ := vals2 rxs
  cases r1
  obtain ⟨z, hd, ys, rel, dd⟩ := dt_of I.hok ha
  have hl : kvs.length = ys.length := Paired.length rel
  refine call_setdefault_heap (knd := tupleKind (mixKind X.prog X.w)) (k := k) (tupleKind_room_in1 (by omega)) (key_of I.hok hb) hd dd (hsz := by rw [← hl]; exact z) (fun p hp => ?_) fun hn h' dd' hs => ?_
  · have r := rel.val k
    rw [hp] at r
    cases e : valV kvs k with
    | none => rw [e] at r; exact (show False from r).elim
    | some v0 =>
      rw [e] at r
      exact ⟨v0, H, I.tok _, r, q1 v0 e⟩
  · have r := rel.val k
    rw [hn] at r
    have e : valV kvs k = none := by
      cases ev : valV kvs k with
      | none => rfl
      | some v0 => rw [ev] at r; exact (show False from r).elim
    obtain ⟨q', es, ep, hq, h2, h3, h4, _, h5⟩ := dd'
    have hl2 := length_putK kvs k y
    refine ⟨y, _, d_write (ob := .dT (putK kvs k y)) (t' := _) I (by rw [ha]; exact True.intro) hs ⟨q', hq⟩ ⟨by omega, hd, _, (rel.put k hb r2).keeps fun c ys ec => ?_, q', es, ep, hq, h2, h3, h4, h5⟩, r2, q2 e⟩
    rw [upd_ne (ne_of ec ha (fun z => nomatch z))]
    exact ec
end K17
end TWF
section TWG
set_option Elab.async false
set_option linter.all false
set_option maxRecDepth 100000
set_option maxHeartbeats 4000000
/-! for k, v in d.items(), keys tuples. Turned from the layer's proof for keys that are numbers and texts. -/
namespace K17
open PySem PySem.Spec PyProof.Rows L2 LamX
def ItiT (d : Addr) (o : Obj) (kvs : List (List Key × V)) : It :=
  ⟨fun i H => H d = some (.frz o (.dT kvs)) ∧ i < kvs.length, fun i H x H' => ∃ T q k v, kvs[i]? = some (k, v) ∧ x = .ref T ∧ H T = none ∧ H q = some (.tup (k.map kV)) ∧ H' = upd H T (.tup [.ref q, v]), fun i H => H d = some (.frz o (.dT kvs)) ∧ kvs.length ≤ i⟩
section
variable {X : Cx} {pins : List (Addr × Obj)} {σ : L2.St} {H : Hp} {s : Shared} {d : Addr} {o : Obj}
theorem frzT2 {kvs : List (List Key × V)} (I : Inv X pins σ H s) (h : H d = some (.frz o (.dT kvs))) :
    (d == sysModules) = false ∧ s.heap.get? d = some o ∧ o.ExactDict ∧ ∃ (es : Array DictEntry) (ep : Nat), o.data = .dict es ep ∧ es.size = kvs.length ∧
      ∀ (i : Nat) (k : List Key) (v : V), kvs[i]? = some (k, v) → ∃ (en : DictEntry) (q : Addr), es[i]? = some en ∧ en.key = .ref q ∧ H q = some (.tup (k.map kV)) ∧ RelV v en.val := by
  obtain ⟨hd, z, hs, xs, pr, o', es, ep, ho, hx, hdt, he, _⟩ := I.hok d _ h
  rw [hd] at ho
  cases ho
  refine ⟨hs, hd, hx, es, ep, hdt, ?_, fun i k v e => ?_⟩
  · have l1 := congrArg List.length he
    rw [List.length_map, Array.length_toList] at l1
    have l2 : kvs.length = xs.length := Paired.length pr
    omega
  · obtain ⟨b, hb, e1, e2, e3⟩ := Paired.get1 pr e
    have q := entry_at he i
    rw [hb] at q
    exact ⟨_, b.2.1, q, rfl, e2, e3⟩
end
section
variable {P : Program} {w : World} {K : PySem.W.Frag} {d : Addr} {o : Obj} {es : Array DictEntry} {ep : Nat}
theorem turn_itemsT {kvs : List (List Key × V)} {elts : List Expr} {kk : Nat} {tpos : Pos} (it : Addr) (hod : o.data = .dict es ep) :
    Turn P w K (.Tuple elts kk tpos) (ItiT d o kvs) [it] it (fun i h => ∃ ok ov, IsItemIter h it d i es.size ep ok ov) where
  mem := by simp
  obj := fun i h st b hb => by
    have e : b = it := by simpa using hb
    subst e
    obtain ⟨ok, ov, e⟩ := st
    exact ⟨_, e, fun v z => nomatch z⟩
  keep := fun i h h' st k => let ⟨ok, ov, e⟩ := st; ⟨ok, ov, k it (by simp) _ e⟩
  item := by
    intro X hP hw hK hc i pins s σ H E I hf st hg
    subst hP hw hK
    obtain ⟨hd, hi⟩ := hg
    obtain ⟨hs, hgd, hx, es', ep', hdt, hsz, ent⟩ := frzT2 I hd
    obtain ⟨rfl, rfl⟩ := dict_ep hod hdt
    obtain ⟨⟨k, v⟩, hkv⟩ : ∃ p, kvs[i]? = some p := ⟨kvs[i], List.getElem?_eq_getElem hi⟩
    obtain ⟨en, q, hen, hkey, hq, rv⟩ := ent i k v hkv
    obtain ⟨ok, ov, he⟩ := st
    have hlt : it < s.heap.objs.size := Heap.lt_size he
    have hie : i < es'.size := by omega
    have hee : es'[i] = en := (Array.getElem?_eq_some_iff.mp hen).2
    refine DT.nextI he ⟨o, hgd, hx, hod⟩ hie fun h' ho hT hz hk => ?_
    rw [hee] at ho hT
    refine ⟨_, rfl, wpAny_letOwnedTupleGo_items (s := { s with heap := h' }) ho fun h'' he' sb => ?_⟩
    have hT2 : h''.get? s.heap.objs.size = some { cls := .type "tuple", data := .seq #[en.key, en.val] } := (sb.2 _ (Nat.ne_of_gt hlt)).trans hT
    have new : ObjOk X.prog X.w (upd H s.heap.objs.size (.tup [.ref q, v])) h'' s.heap.objs.size (.tup [.ref q, v]) :=
      ⟨by show 2 ≤ sizeLine; decide, [en.key, en.val], .cons (show en.key = Value.ref q from hkey) (.cons rv .nil), ⟨_, hT2, rfl, _, rfl⟩⟩
    have I1 : Inv X pins σ (upd H s.heap.objs.size (.tup [.ref q, v])) { s with heap := h'' } :=
      I.turnedNew (t' := s.toks) (ch := [it]) (fun b ob hb e => (sb.2 b (by simpa using hb)).trans (hk b ob (by simpa using hb) e)) hf (Nat.le_refl _) new
    refine ⟨.ref s.heap.objs.size, _, I1, rfl, ⟨_, q, k, v, hkv, rfl, I.hok.fresh (Nat.le_refl _), hq, rfl⟩, ⟨en.key, en.val, he'⟩, fun b hb => ?_⟩
    have e : b = it := by simpa using hb
    rw [e, upd_ne (Nat.ne_of_lt hlt)]
    exact (hf it (by simp)).1
  done := by
    intro X hP hw hK hc i pins s σ H E I hf st hg
    subst hP hw hK
    obtain ⟨hd, hi⟩ := hg
    obtain ⟨f0, f1, f2, f3, f4, f5⟩ := hf it (by simp)
    obtain ⟨hs, hgd, hx, es', ep', hdt, hsz, ent⟩ := frzT2 I hd
    obtain ⟨rfl, rfl⟩ := dict_ep hod hdt
    obtain ⟨ok, ov, he⟩ := st
    exact DT.endI (I.ok.hd hc) he ⟨o, hgd, hx, hod⟩ (by omega) fun h' eb => ⟨rfl, I.turned (t' := s.toks) (fun b ob hb e => eb b ob hb e) f0 f1 f3 f4 f5⟩
  self := fun A i s Q E st h => let ⟨_, _, e⟩ := st; PySem.W.kcp_self e h
end
def iItemsT (td : TE) : TI := fun σ H R => td σ H fun x H1 => ∃ d o kvs, x = .ref d ∧ H1 d = some (.frz o (.dT kvs)) ∧ R (ItiT d o kvs) H1
theorem pi_itemsT {X : Cx} {e : Expr} {td : TE} {apos cpos : Pos} {elts : List Expr} {kk : Nat} {tpos : Pos} (he : PE X e td) (hbase : attributeBase e "items" X.env (eval e X.env) = eval e X.env := by rfl) (hline : (apos.endLine == cpos.line) = true := by rfl) :
    PI X (.Tuple elts kk tpos) (.Call (.Attribute e "items" apos) [] [] cpos) (iItemsT td) := by
  refine ⟨fun pins s σ H R I h => ?_⟩
  refine wpAny_Call_method (T := "dict") (id := "dict.items") hbase rfl hline PySem.F.plainAttrs_dict PySem.F.slot_dict_items PySem.F.type_dict_items (thn (he.run pins s σ H _ I h) fun u s1 ⟨x, H1, I1, rx, d, o, kvs, ex, hd, q⟩ => ?_)
  subst ex
  obtain rfl : u = Value.ref d := rx
  obtain ⟨hs, hgd, hx, es, ep, hdt, hsz, ent⟩ := frzT2 I1 hd
  have raw : DT.Raw s1.heap d es ep := ⟨o, hgd, hx, hdt⟩
  refine ⟨raw.typeIs, fun a e => by cases e; exact ⟨o, hgd, hx.2.1⟩, ?_⟩
  have I2 : Inv X pins σ H1 { s1 with heap := s1.heap.push { cls := .type "dict_items", data := .fields #[.ref d] } } := I1.kept (t' := s1.toks) fun b ob q => Heap.get?_push_of_some _ q
  have fin : wpAny (model X.prog X.w) X.A (pyIter (.ref s1.heap.objs.size)) (PIE X pins σ (.Tuple elts kk tpos) R) X.xe { s1 with heap := s1.heap.push { cls := .type "dict_items", data := .fields #[.ref d] } } := by
    refine DT.iterI (d := d) ⟨_, Heap.get?_push_size _ rfl, rfl, rfl⟩ (raw.push _) (pi_one (tk := s1.toks) I2 _ (turn_itemsT _ hdt) ⟨.none, .none, ?_⟩ q)
    exact Heap.get?_push_size _ rfl
  show wpAny _ _ (callWith cpos (.builtin "dict.items") [.ref d] [] []) _ X.xe s1
  exact method_meetsIn PySem.F.slot_dict_items PySem.F.entry_dict_items rfl (PySem.evalArgs_none ⟨rfl, raw.typeIs, PySem.F.args_dict_items_1 _, _, DT.meetsItems (es := es) (ep := ep) hs, ⟨raw, fin⟩⟩)
end K17
end TWG
section TWH
set_option Elab.async false
set_option linter.all false
set_option maxRecDepth 100000
set_option maxHeartbeats 4000000
/-! _law_least. -/
namespace K17
open PySem PySem.Spec PyProof.Rows L2 LamX
/-- each reading with its first text -/
structure Firsts (R : M) (ws : List Wd) (L : List (List Str × Wd)) : Prop where
  all : ∀ p ∈ L, ∃ a b, ws = a ++ p.2 :: b ∧ R.read p.2 = some p.1 ∧ ∀ v ∈ a, R.read v ≠ some p.1
  has : ∀ v ∈ ws, ∀ row, R.read v = some row → ∃ p ∈ L, p.1 = row
theorem Firsts.nil {R : M} : Firsts R [] [] := ⟨fun _ h => (nomatch h), fun _ h => (nomatch h)⟩
theorem Firsts.skip {R : M} {ws : List Wd} {L : List (List Str × Wd)} (f : Firsts R ws L) {w : Wd} (h : ∀ row, R.read w = some row → ∃ p ∈ L, p.1 = row) : Firsts R (ws ++ [w]) L := ⟨fun p hp => by
  obtain ⟨a, b, e, h1, h2⟩ := f.all p hp
  exact ⟨a, b ++ [w], by rw [e]; simp, h1, h2⟩, fun v hv row hr => by
  rcases List.mem_append.mp hv with z | z
  · exact f.has v z row hr
  · rw [List.mem_singleton] at z
    rw [z] at hr
    exact h row hr⟩
theorem Firsts.more {R : M} {ws : List Wd} {L : List (List Str × Wd)} (f : Firsts R ws L) {w : Wd} {row : List Str} (hr : R.read w = some row) (hn : ∀ p ∈ L, p.1 ≠ row) : Firsts R (ws ++ [w]) (L ++ [(row, w)]) := ⟨fun p hp => by
  rcases List.mem_append.mp hp with z | z
  · obtain ⟨a, b, e, h1, h2⟩ := f.all p z
    exact ⟨a, b ++ [w], by rw [e]; simp, h1, h2⟩
  · rw [List.mem_singleton] at z
    subst z
    refine ⟨ws, [], rfl, hr, fun v hv z => ?_⟩
    obtain ⟨p, hp, e⟩ := f.has v hv row z
    exact hn p hp e, fun v hv r2 h2 => by
  rcases List.mem_append.mp hv with z | z
  · obtain ⟨p, hp, e⟩ := f.has v z r2 h2
    exact ⟨p, List.mem_append_left _ hp, e⟩
  · rw [List.mem_singleton] at z
    rw [z, hr] at h2
    cases h2
    exact ⟨(row, w), List.mem_append_right _ (List.mem_singleton.mpr rfl), rfl⟩⟩
abbrev rowK (r : List Str) : List Key := r.map Sum.inr
theorem rowK_inj {a b : List Str} (h : rowK a = rowK b) : a = b := by
  induction a generalizing b with
  | nil => cases b with
    | nil => rfl
    | cons _ _ => cases h
  | cons x a ih =>
    cases b with
    | nil => cases h
    | cons y b =>
      have h1 := (List.cons.inj h).1
      have h2 := (List.cons.inj h).2
      rw [Sum.inr.inj h1, ih h2]
abbrev firstV (p : List Str × Wd) : List Key × V := (rowK p.1, .str (S p.2))
theorem first_val (row : List Str) : ∀ L : List (List Str × Wd), (valV (L.map firstV) (rowK row) = none ∧ ∀ p ∈ L, p.1 ≠ row) ∨ ∃ p ∈ L, p.1 = row ∧ valV (L.map firstV) (rowK row) = some (.str (S p.2))
  | [] => .inl ⟨rfl, fun _ h => nomatch h⟩
  | p :: L => by
    by_cases h : p.1 = row
    · exact .inr ⟨p, List.mem_cons_self, h, by rw [List.map_cons, valV_pos (p := firstV p) (by show rowK p.1 = _; rw [h])]⟩
    · have hn : valV ((p :: L).map firstV) (rowK row) = valV (L.map firstV) (rowK row) := by
        rw [List.map_cons, valV_neg (p := firstV p) fun z => h (rowK_inj z)]
      rw [hn]
      rcases first_val row L with ⟨a, b⟩ | ⟨x, a, b, c⟩
      · exact .inl ⟨a, fun x hx => (List.mem_cons.mp hx).elim (fun z => z ▸ h) (b x)⟩
      · exact .inr ⟨x, List.mem_cons_of_mem _ a, b, c⟩
theorem row_kV (r : List Str) : (rowK r).map kV = strV r := kV_strs r
section
variable {P : Program} {w : World} {K : PySem.W.Frag} {mg : Str → Option Value} {base : Heap}
def spLeastL : Sp := fun vs H Q E => ∃ (m nl : Addr) (R : M) (ws : List Wd), vs = [.ref m, .ref nl] ∧ ModelAt H m R ∧ R.Ok ∧ H nl = some (.lst (wdsV ws)) ∧ ws.length ≤ 450 ∧ (∀ v ∈ ws, v.length ≤ 900) ∧
  ∀ d H' o L, H d = none → Same H H' → H' d = some (.frz o (.dT (L.map firstV))) → Firsts R ws L → L.length ≤ ws.length → Q (.ref d) H'
theorem scLeastL : FnScope ["_law_model_here", "_law_notes_here", "_law_found", "_law_note", "_law_told_here"] ["_law_model_here", "_law_notes_here"] (defScope (top 58)) := ⟨rfl, rfl, rfl, by decide +kernel, rfl, by decide +kernel, by decide +kernel⟩
theorem d_leastL (T : Tx K mg) : Def P w K mg base CX0 2 "_law_least" ["_law_model_here", "_law_notes_here"] spLeastL := by
  have Rd : Def P w K mg base CX0 1 "_law_read" ["_law_model_here", "_law_note"] spRead := d_read T
  refine def_of T 40 58 ["_law_model_here", "_law_notes_here", "_law_found", "_law_note", "_law_told_here"] rfl scLeastL (fun _ _ _ _ _ _ us hl => match us, hl with | [_, _], _ => rfl) (fun vs H Q E h => ?_) (fun f cdv A outer s H vs Q E hr h => ?_)
  · obtain ⟨m, nl, R, ws, rfl, _⟩ := h; rfl
  · obtain ⟨m, nl, R, ws, rfl, hM, ok, hnl, hwl, hw9, k⟩ := h
    have nd := scLeastL.nd
    have hu16 := hu16_of hr
    refine ⟨_, PSs.nox (pss_cons (ps_set (i := 2) nd rfl (Or.inl rfl) pe_dnewT)
      (pss_cons (ps_for PassesOwn.never rfl (pi_list (pv 1)) (g := gName 3) (pg_name (i := 3) nd rfl (Or.inl rfl))
        (pss_cons (ps_set (i := 4) nd rfl (Or.inl rfl) (pe_ix ix_tup (pd0 Rd hr (pa_cons (pv 0) (pa1 (pv 3)))) pe_int (fun _ _ => rfl)))
        (pss_one (ps_if (pt_cmpR op_notN (pv 4) pe_non (nomark _)) (pss_one (ps_expr (pe_bm PySem.F.plainAttrs_dict PySem.F.slot_dict_setdefault PySem.F.type_dict_setdefault (mt_setdT hu16) (pv 2) (pa_cons (pv 4) (pa1 (pv 3)))))) pss_nil))))
      (pss_one (ps_ret (pe_frz (pv 2)))))), ?_⟩
    intro d hd
    have s0 : Same H (upd H d (.dT [])) := Same.new hd
    refine ⟨_, rfl, nl, rfl, ⟨_, SqL.of (s0 _ _ hnl)⟩, ?_⟩
    refine for_it (walk_list (xs := wdsV ws)) (fun i σ Hx => Same H Hx ∧ (∃ L : List (List Str × Wd), Hx d = some (.dT (L.map firstV)) ∧ Firsts R (ws.take i) L ∧ L.length ≤ i) ∧ ∃ u3 u4, σ = [some (.ref m), some (.ref nl), some (.ref d), u3, u4])
      ⟨s0, ⟨[], upd_same, Firsts.nil, Nat.le_refl _⟩, none, none, rfl⟩ (fun i σ Hx _ hp => SqL.of (hp.1 _ _ hnl)) (fun i x σ Hx Hx' hi hp hy => ?_) (fun σ Hx hp => ?_)
    · obtain ⟨sx, ⟨L, hL, hF, hLl⟩, u3, u4, rfl⟩ := hp
      obtain ⟨rfl, hx⟩ := hy
      rw [List.getElem?_map] at hx
      cases hv : ws[i]? with
      | none => rw [hv] at hx; cases hx
      | some v =>
        rw [hv] at hx
        obtain rfl : V.str (S v) = x := Option.some.inj hx
        have hvm := List.mem_of_getElem? hv
        have hil : i < ws.length := (List.getElem?_eq_some_iff.mp hv).1
        have tk : ws.take (i + 1) = ws.take i ++ [v] := take_succ_of hv
        refine ⟨_, rfl, _, rfl, m, R, v, rfl, hM.same sx, ok, hw9 v hvm, fun row p tp wy H2 hread hp s2 hpt htp hwy => ?_, fun hread p wy H2 hp s2 hpt hwy => ?_⟩
        · refine ⟨p, _, (0 : Int), _, rfl, rfl, SqT.of hpt, rfl, ?_⟩
          refine ⟨_, rfl, rfl, true, rfl, iteT ?_⟩
          have hL2 := s2 _ _ hL
          refine ⟨_, rfl, .inr (.inr (.inl ⟨rfl, .inr ⟨_, hL2⟩⟩)), _, rfl, _, rfl, d, tp, _, rowK row, _, rfl, rfl, hL2, by rw [row_kV]; exact htp, by rw [List.length_map]; exact lt_line (by omega), fun v0 hv0 => ?_, fun hv0 => ?_⟩
          · rcases first_val row L with ⟨z, _⟩ | ⟨q, hq, hq1, hq2⟩
            · rw [z] at hv0; cases hv0
            · refine ⟨sx.trans s2, ⟨L, hL2, ?_, by omega⟩, _, _, rfl⟩
              rw [tk]
              exact hF.skip fun r2 h2 => by
                rw [hread] at h2
                cases h2
                exact ⟨q, hq, hq1⟩
          · rcases first_val row L with ⟨z, hno⟩ | ⟨q, hq, hq1, hq2⟩
            · refine ⟨Same.updN (sx.trans s2) hd, ⟨L ++ [(row, v)], ?_, ?_, by rw [List.length_append]; show _ + 1 ≤ _; omega⟩, _, _, rfl⟩
              · rw [upd_same, put_new hv0, List.map_append]
                rfl
              · rw [tk]
                exact hF.more hread hno
            · rw [hq2] at hv0; cases hv0
        · refine ⟨p, _, (0 : Int), _, rfl, rfl, SqT.of hpt, rfl, ?_⟩
          refine ⟨_, rfl, rfl, false, rfl, iteF ⟨sx.trans s2, ⟨L, s2 _ _ hL, ?_, by omega⟩, _, _, rfl⟩⟩
          rw [tk]
          exact hF.skip fun r2 h2 => by rw [hread] at h2; cases h2
    · obtain ⟨sx, ⟨L, hL, hF, hLl⟩, u3, u4, rfl⟩ := hp
      rw [List.length_map] at hF hLl
      rw [List.take_length] at hF
      refine ⟨_, rfl, [d], _, hL, trivial, fun od => ?_⟩
      exact k d _ od L hd (Same.updN sx hd) upd_same hF hLl
end
end K17
end TWH
section TWI
set_option Elab.async false
set_option linter.all false
set_option maxRecDepth 100000
set_option maxHeartbeats 4000000
/-! _law_rng. -/
namespace K17
open PySem PySem.Spec PyProof.Rows L2 LamX
section
variable {P : Program} {w : World} {K : PySem.W.Frag} {mg : Str → Option Value} {base : Heap}
def spRng (K : PySem.W.Frag) : Sp := fun vs H Q E => ∃ (sl : Addr) (ns : List Int) (k : Nat), vs = [.ref sl, .int (k : Int)] ∧ SqL K H sl (ns.map V.int) ∧ k < 10 ∧ ∀ l H', H l = none → Same H H' → RngAt H' l → Q (.ref l) H'
theorem scRng : FnScope ["_law_script", "_law_k", "_law_cell"] ["_law_script", "_law_k"] (defScope (top 42)) := ⟨rfl, rfl, rfl, by decide +kernel, rfl, by decide +kernel, by decide +kernel⟩
theorem d_rng (T : Tx K mg) : Def P w K mg base CX0 1 "_law_rng" ["_law_script", "_law_k"] (spRng K) := by
  refine def_of T 24 42 ["_law_script", "_law_k", "_law_cell"] rfl scRng (fun _ _ _ _ _ _ us hl => match us, hl with | [_, _], _ => rfl) (fun vs H Q E h => ?_) (fun f cdv A outer s H vs Q E hr h => ?_)
  · obtain ⟨sl, ns, k, rfl, _⟩ := h; rfl
  · obtain ⟨sl, ns, k, rfl, hsl, hk, q⟩ := h
    have nd := scRng.nd
    refine ⟨_, pss_cons (ps_set (i := 2) nd rfl (Or.inl rfl) (pe_op op_add (pe_op op_mul pe_int (pv 1)) pe_int))
      (pss_cons (ps_if (pt_cmpR op_lt (pv 1) (pB T b_len call_len_seq (pa1 (pv 0))) (nomark _)) (pss_one (ps_set (i := 2) nd rfl (Or.inl rfl) (pe_ix ix_list (pv 0) (pv 1) (fun _ _ => rfl)))) pss_nil)
      (pss_one (ps_ret (pe_lst (pa_cons (pB T b_max (call_max2 rfl) (pa_cons pe_int (pa1 (pe_op op_sub (pB T b_abs call_abs (pa1 (pv 2))) (pe_op op_pow pe_int pe_int)))))
        (pa1 (pe_op op_add (pe_op op_mod (pe_op op_mul (pT T b_int call_int1 (pa1 (pe_op op_add (pe_op op_mod (pT T b_int call_int1 (pa1 (pB T b_abs call_abs (pa1 (pv 2))))) pe_int) pe_int))) (pe_op op_pow (pe_op op_add (pe_op op_mul pe_int (pv 1)) pe_int) pe_int)) pe_int) pe_int))))))), ?_⟩
    have fin : ∀ c : Int, tRet (tLst (tCons (tCB (fun xs H Q => ∃ i j, xs = [V.int i, V.int j] ∧ Q (V.int (if j > i then j else i)) H) (tCons (tC (.int 0)) (tCons (tOp (rI0 fun i j => .int (i - j)) (tCB (fun xs H Q => ∃ i, xs = [V.int i] ∧ Q (V.int (if i < 0 then -i else i)) H) (tCons (tVar 2) tNil)) (tOp (rI CPow fun i j => .int (i ^ j.toNat)) (tC (.int 10)) (tC (.int 18)))) tNil)))
        (tCons (tOp (rI0 fun i j => .int (i + j)) (tOp (rI (fun _ j => 0 < j) fun i j => .int (i % j)) (tOp (rI CMul fun i j => .int (i * j)) (tCB (fun xs H Q => (∃ i, xs = [V.int i] ∧ Q (V.int i) H) ∨ ∃ k, xs = [V.bl k] ∧ Q (V.int (if k then 1 else 0)) H) (tCons (tOp (rI0 fun i j => .int (i + j)) (tOp (rI (fun _ j => 0 < j) fun i j => .int (i % j)) (tCB (fun xs H Q => (∃ i, xs = [V.int i] ∧ Q (V.int i) H) ∨ ∃ k, xs = [V.bl k] ∧ Q (V.int (if k then 1 else 0)) H) (tCons (tCB (fun xs H Q => ∃ i, xs = [V.int i] ∧ Q (V.int (if i < 0 then -i else i)) H) (tCons (tVar 2) tNil)) tNil)) (tC (.int 2147483549))) (tC (.int 1))) tNil)) (tOp (rI CPow fun i j => .int (i ^ j.toNat)) (tOp (rI0 fun i j => .int (i + j)) (tOp (rI CMul fun i j => .int (i * j)) (tC (.int 2)) (tVar 1)) (tC (.int 3))) (tC (.int 3)))) (tC (.int 2147483543))) (tC (.int 1))) tNil)))
        { nx := fun _ H' => Q .non H', rt := Q } [some (.ref sl), some (.int (k : Int)), some (.int c)] H := by
      intro c
      have hm0 := Int.emod_nonneg (if c < 0 then -c else c) (show (2147483549 : Int) ≠ 0 by decide)
      have hm1 := Int.emod_lt_of_pos (if c < 0 then -c else c) (show (0 : Int) < 2147483549 by decide)
      have hk2 : (2 * (k : Int) + 3).natAbs < 2 ^ 64 := by omega
      refine ⟨_, rfl, _, rfl, _, _, rfl, rfl, ⟨by decide, by decide, by decide⟩, _, _, rfl, rfl, _, _, rfl, ?_⟩
      refine ⟨_, rfl, _, rfl, .inl ⟨_, rfl, _, _, rfl, rfl, (by decide : (0 : Int) < 2147483549), _, _, rfl, rfl, .inl ⟨_, rfl, _, rfl, _, _, rfl, rfl, .inl ⟨by decide, by decide⟩, _, _, rfl, rfl, _, _, rfl, rfl, ⟨by decide, by decide, hk2⟩,
        _, _, rfl, rfl, .inl ⟨by omega, by omega⟩, _, _, rfl, rfl, (by decide : (0 : Int) < 2147483543), _, _, rfl, rfl, by show 2 ≤ sizeLine; decide, fun p hp => ?_⟩⟩⟩
      exact q p _ hp (Same.new hp) ⟨_, _, upd_same⟩
    refine ⟨_, rfl, _, _, rfl, rfl, .inl ⟨by decide, by decide⟩, _, _, rfl, rfl, ?_⟩
    refine ⟨_, rfl, _, rfl, sl, _, rfl, .inl hsl, _, _, rfl, rfl, ?_⟩
    rw [List.length_map]
    by_cases hkl : (k : Int) < (ns.length : Int)
    · refine ⟨true, congrArg V.bl (decide_eq_true hkl), iteT ?_⟩
      have hx : (ns.map V.int)[k]? = some (.int ns[k]) := by rw [List.getElem?_map, List.getElem?_eq_getElem (by omega)]; rfl
      exact ⟨_, rfl, _, rfl, sl, _, (k : Int), _, rfl, rfl, hsl, atI_nat hx, fin _⟩
    · exact ⟨false, congrArg V.bl (decide_eq_false hkl), iteF (fin _)⟩
end
end K17
end TWI
section TWJ
set_option Elab.async false
set_option linter.all false
set_option maxRecDepth 100000
set_option maxHeartbeats 4000000
/-! _law_signs. -/
namespace K17
open PySem PySem.Spec PyProof.Rows L2 LamX
/-- the alphabet of a model -/
structure Abc (R : M) (A : List Nat) : Prop where
  inc : A.Pairwise (· < ·)
  len : A.length = 3 ∨ A.length = 4
  az : ∀ c ∈ A, c ∈ az
  all : ∀ c ∈ signsOf R.rows, c ∈ A
theorem sgs_str (X : List Nat) : sgsV X = strV (X.map sg) := by unfold sgsV strV; rw [List.map_map]; rfl
theorem inV_sgs (c : Nat) (X : List Nat) : inV (.str (sg c)) (sgsV X) = decide (c ∈ X) := by
  rw [sgs_str, inV_strs]
  by_cases z : c ∈ X
  · rw [decide_eq_true z, decide_eq_true (List.mem_map_of_mem z)]
  · rw [decide_eq_false z, decide_eq_false fun y => by
      obtain ⟨c', hc, ec⟩ := List.mem_map.mp y
      exact z (sg_inj ec ▸ hc)]
theorem flat_sgs (X : List Nat) : (sgsV X).all flatV = true := by
  rw [List.all_map]
  exact List.all_eq_true.mpr fun _ _ => rfl
def abcde : List Nat := [97, 98, 99, 100, 101]
theorem az_of {c : Nat} (h : isSg (sg c) = true) : c ∈ az := by
  unfold isSg at h
  have h1 := (Bool.and_eq_true_iff.mp h).1
  rw [← S_one] at h1
  exact wd_of.mp h1 c (by simp)
section
variable {P : Program} {w : World} {K : PySem.W.Frag} {mg : Str → Option Value} {base : Heap}
def spSigns2 : Sp := fun vs H Q E => ∃ (m : Addr) (R : M), vs = [.ref m] ∧ ModelAt H m R ∧ Mdl R ∧ ∀ A H', Same H H' → Abc R A → Q (.str (S A)) H'
theorem scSigns2 : FnScope ["_law_model_here", "_law_found", "_law_line", "_law_letter", "_law_spare"] ["_law_model_here"] (defScope (top 61)) := ⟨rfl, rfl, rfl, by decide +kernel, rfl, by decide +kernel, by decide +kernel⟩
theorem d_signs2 (T : Tx K mg) : Def P w K mg base CX0 1 "_law_signs" ["_law_model_here"] spSigns2 := by
  refine def_of T 43 61 ["_law_model_here", "_law_found", "_law_line", "_law_letter", "_law_spare"] rfl scSigns2 (fun _ _ _ _ _ _ us hl => match us, hl with | [_], _ => rfl) (fun vs H Q E h => ?_) (fun f cdv A outer s H vs Q E hr h => ?_)
  · obtain ⟨m, R, rfl, _⟩ := h; rfl
  · obtain ⟨m, R, rfl, hM, D0, k⟩ := h
    have nd := scSigns2.nd
    have hu := hu_of hr
    refine ⟨_, PSs.nox (pss_cons (ps_set (i := 1) nd rfl (Or.inr rfl) (pe_lst pa_nil))
      (pss_cons (ps_for PassesOwn.never rfl (pi_list (pe_ix ix_tup (pv 0) pe_int (fun _ _ => rfl))) (g := gName 2) (pg_name (i := 2) nd rfl (Or.inl rfl))
        (pss_one (ps_set (i := 1) nd rfl (Or.inr rfl) (pe_op op_cat (pv 1) (pe_lc (own := [("_law_letter", 3)]) (g := gName 3) rfl nd (pi_keys (pv 2)) (blkOk_by (own := [("_law_letter", 3)]) (N := ["_law_model_here", "_law_found", "_law_line", "_law_letter", "_law_spare"]) (sc := defScope (top 61)) (by decide +kernel))
            (fun _ _ _ _ _ => pg_name (i := 3) nd rfl (Or.inl rfl)) (fun _ _ _ _ _ => pts_one (pt_cmpR (r := rIn K true) op_notIn_seq (pv 3) (pv 1) (by rfl))) (fun _ _ _ _ _ => pv 3))))))
      (pss_cons (ps_setLc (i := 4) (own := [("_law_letter", 3)]) (g := gName 3) rfl nd rfl rfl (sw_true rfl rfl rfl (by decide +kernel)) (pi_str pe_str) (blkOk_by (own := [("_law_letter", 3)]) (N := ["_law_model_here", "_law_found", "_law_line", "_law_letter", "_law_spare"]) (sc := defScope (top 61)) (by decide +kernel))
          (fun _ _ _ _ _ => pg_name (i := 3) nd rfl (Or.inl rfl)) (fun _ _ _ _ _ => pts_one (pt_cmpR (r := rIn K true) op_notIn_seq (pv 3) (pv 1) (by rfl))) (fun _ _ _ _ _ => pv 3))
      (pss_one (ps_ret (pe_join pe_str (pB T b_sorted cr_sortedS (pa1 (pe_slice sl_list (pe_op op_cat (pv 1) (pv 4)) po_none (po_some (pB T b_max (call_max2 rfl) (pa_cons pe_int (pa1 (pB T b_len call_len_seq (pa1 (pv 1)))))))))))))))), ?_⟩
    obtain ⟨ml, sl, ds, o1, o2, hm, hml, hsl, hds⟩ := hM.ex
    obtain ⟨Al, hA4, hAa⟩ := D0.few
    have F := D0.fit
    have h6 := F.six
    have hdl : ds.length = R.rows.length := Paired.len hds
    have insg : ∀ r ∈ R.rows, ∀ e ∈ r, e.1 ∈ signsOf R.rows := fun r hr e he => List.mem_flatMap.mpr ⟨r, hr, List.mem_map.mpr ⟨e, he, rfl⟩⟩
    have four : ∀ X : List Nat, X.Nodup → (∀ c ∈ X, c ∈ signsOf R.rows) → X.length ≤ 4 := fun X nd h => Nat.le_trans (nodup_le nd fun c hc => hAa c (h c hc)) hA4
    refine ⟨Nat.zero_le _, fun f0 hf0 => ?_⟩
    have s0 : Same H (upd H f0 (.lst [])) := Same.new hf0
    refine ⟨_, rfl, m, _, (0 : Int), _, rfl, rfl, SqT.of (s0 _ _ hm), rfl, ml, rfl, ⟨_, .inl (.inr ⟨o1, s0 _ _ hml⟩)⟩, ?_⟩
    refine for_it (walk_list (xs := ds.map V.ref)) (fun i σ Hx => Same H Hx ∧ (∃ (fa : Addr) (X : List Nat), Hx fa = some (.lst (sgsV X)) ∧ X.Nodup ∧ (∀ c ∈ X, c ∈ signsOf R.rows) ∧ (∀ r ∈ R.rows.take i, ∀ e ∈ r, e.1 ∈ X) ∧ ∃ u2 u3, σ = [some (.ref m), some (.ref fa), u2, u3, none]))
      ⟨s0, f0, [], upd_same, .nil, fun _ h => (nomatch h), fun _ h => by simp at h, none, none, rfl⟩ (fun i σ Hx _ hp => .inl (.inr ⟨o1, hp.1 _ _ hml⟩)) (fun i x σ Hx Hx' hi hp hy => ?_) (fun σ Hx hp => ?_)
    · obtain ⟨sx, fa, X, hfa, hXn, hXs, hXa, u2, u3, rfl⟩ := hp
      obtain ⟨rfl, hx⟩ := hy
      rw [List.getElem?_map] at hx
      cases hd : ds[i]? with
      | none => rw [hd] at hx; cases hx
      | some d =>
        rw [hd] at hx
        obtain rfl : V.ref d = x := Option.some.inj hx
        obtain ⟨row, hrow, o, kvs, hdk, hk⟩ := Paired.get1 hds hd
        have hrm := List.mem_of_getElem? hrow
        have hrn := F.ok.keys row hrm
        have hr6 := F.rlen hrm
        have hkl : kvs.length = row.length := Paired.len hk
        have hX4 := four X hXn hXs
        refine ⟨_, rfl, _, rfl, d, o, rfl, .inl ⟨kvs, sx _ _ hdk, fun D hD => ?_⟩⟩
        refine lc_it (walk_keys (kvs := kvs)) (fun j H3 => Same Hx' H3 ∧ H3 D = some (.lst (sgsV (((row.take j).map (·.1)).filter fun c => decide (c ∉ X)))))
          ⟨Same.new hD, upd_same⟩ (fun j H3 _ hp => hp.1 _ _ (sx _ _ hdk)) (fun j x H3 H4 hj hp hy => ?_) (fun H3 hp => ?_)
        · obtain ⟨s3, h3⟩ := hp
          obtain ⟨rfl, key, v, hkv, rfl⟩ := hy
          obtain ⟨e, he, hkey, _⟩ := Paired.get1 hk hkv
          have hkey : key = Sum.inr (sg e.1) := hkey
          subst hkey
          have hinv : inV (.str (sg e.1)) (sgsV X) = decide (e.1 ∈ X) := by
            have : sgsV X = strV (X.map sg) := by unfold sgsV strV; rw [List.map_map]; rfl
            rw [this, inV_strs]
            by_cases z : e.1 ∈ X
            · rw [decide_eq_true z, decide_eq_true (List.mem_map_of_mem z)]
            · rw [decide_eq_false z, decide_eq_false fun y => by
                obtain ⟨c, hc, ec⟩ := List.mem_map.mp y
                exact z (sg_inj ec ▸ hc)]
          have hfl : (sgsV X).all flatV = true := by
            rw [List.all_map]
            exact List.all_eq_true.mpr fun _ _ => rfl
          refine ⟨rfl, _, rfl, _, rfl, fa, _, rfl, .inl (SqL.of (s3 _ _ hfa)), rfl, hfl, ?_⟩
          rw [if_pos rfl]
          show ∃ b, V.bl (!inV (.str (sg e.1)) (sgsV X)) = V.bl b ∧ _
          rw [hinv, take_succ_of he, List.map_append, List.filter_append]
          by_cases z : e.1 ∈ X
          · rw [decide_eq_true z]
            have : ([e].map (·.1)).filter (fun c => decide (c ∉ X)) = [] := by simp [z]
            rw [this, List.append_nil]
            exact ⟨false, rfl, iteF ⟨s3, h3⟩⟩
          · rw [decide_eq_false z]
            have : ([e].map (·.1)).filter (fun c => decide (c ∉ X)) = [e.1] := by simp [z]
            rw [this]
            refine ⟨true, rfl, iteT ⟨_, rfl, _, h3, ?_, Same.updN s3 hD, by rw [upd_same, sgsV_app]; rfl⟩⟩
            have := List.length_filter_le (fun c => decide (c ∉ X)) ((row.take j).map (·.1))
            rw [List.length_map, List.length_take] at this
            rw [List.length_map]
            exact lt_line (by omega)
        · obtain ⟨s3, h3⟩ := hp
          rw [hkl, List.take_length] at h3
          have hfl := List.length_filter_le (fun c => decide (c ∉ X)) (row.map (·.1))
          rw [List.length_map] at hfl
          refine ⟨fa, D, _, _, rfl, rfl, s3 _ _ hfa, h3, by rw [List.length_map, List.length_map]; exact Nat.le_of_lt (lt_line (by omega)), fun q hq => ?_⟩
          refine ⟨(sx.trans s3).trans (Same.new hq), q, X ++ (row.map (·.1)).filter (fun c => decide (c ∉ X)), by rw [upd_same, sgsV_app], ?_, fun c hc => ?_, fun r hr e he => ?_, _, _, rfl⟩
          · rw [List.nodup_append]
            refine ⟨hXn, hrn.filter _, fun a ha b hb z => ?_⟩
            have := of_decide_eq_true (List.mem_filter.mp hb).2
            exact this (z ▸ ha)
          · rcases List.mem_append.mp hc with z | z
            · exact hXs c z
            · obtain ⟨e, he, rfl⟩ := List.mem_map.mp (List.mem_filter.mp z).1
              exact insg row hrm e he
          · rw [take_succ_of hrow] at hr
            rcases List.mem_append.mp hr with z | z
            · exact List.mem_append_left _ (hXa r z e he)
            · rw [List.mem_singleton] at z
              subst z
              by_cases y : e.1 ∈ X
              · exact List.mem_append_left _ y
              · exact List.mem_append_right _ (List.mem_filter.mpr ⟨List.mem_map_of_mem (f := (·.1)) he, decide_eq_true y⟩)
    · obtain ⟨sx, fa, X, hfa, hXn, hXs, hXa, u2, u3, rfl⟩ := hp
      rw [List.length_map, hdl, List.take_length] at hXa
      have hX4 := four X hXn hXs
      refine ⟨_, rfl, fun D hD => ?_⟩
      refine lc_it (walk_str (z := ("abcde" : Str))) (fun j H3 => Same Hx H3 ∧ H3 D = some (.lst (sgsV ((abcde.take j).filter fun c => decide (c ∉ X)))))
        ⟨Same.new hD, upd_same⟩ (fun _ _ _ _ => trivial) (fun j x H3 H4 hj hp hy => ?_) (fun H3 hp => ?_)
      · obtain ⟨s3, h3⟩ := hp
        obtain ⟨rfl, c, hc, rfl⟩ := hy
        have hc : abcde[j]? = some c := by
          have e : ("abcde" : Str).cps.toList = abcde := by decide +kernel
          rw [← e, Array.getElem?_toList]
          exact hc
        refine ⟨rfl, _, rfl, _, rfl, fa, _, rfl, .inl (SqL.of (s3 _ _ hfa)), rfl, flat_sgs X, ?_⟩
        rw [if_pos rfl]
        show ∃ b, V.bl (!inV (.str (sg c)) (sgsV X)) = V.bl b ∧ _
        rw [inV_sgs, take_succ_of hc, List.filter_append]
        by_cases z : c ∈ X
        · rw [decide_eq_true z]
          have : [c].filter (fun c => decide (c ∉ X)) = [] := by simp [z]
          rw [this, List.append_nil]
          exact ⟨false, rfl, iteF ⟨s3, h3⟩⟩
        · rw [decide_eq_false z]
          have : [c].filter (fun c => decide (c ∉ X)) = [c] := by simp [z]
          rw [this]
          refine ⟨true, rfl, iteT ⟨_, rfl, _, h3, ?_, Same.updN s3 hD, by rw [upd_same, sgsV_app]; rfl⟩⟩
          have := List.length_filter_le (fun c => decide (c ∉ X)) (abcde.take j)
          rw [List.length_take] at this
          rw [List.length_map]
          exact lt_line (by have : abcde.length = 5 := rfl; omega)
      · obtain ⟨s3, h3⟩ := hp
        have htk : abcde.take ("abcde" : Str).cps.size = abcde := by
          have : ("abcde" : Str).cps.size = abcde.length := by decide +kernel
          rw [this, List.take_length]
        rw [htk] at h3
        have hspm : ∀ c, c ∈ abcde.filter (fun c => decide (c ∉ X)) ↔ c ∈ abcde ∧ c ∉ X := fun c => by rw [List.mem_filter, decide_eq_true_iff]
        have hspn : (abcde.filter (fun c => decide (c ∉ X))).Nodup := (by decide : abcde.Nodup).filter _
        have hspl := List.length_filter_le (fun c => decide (c ∉ X)) abcde
        generalize abcde.filter (fun c => decide (c ∉ X)) = sp at h3 hspm hspn hspl
        have hl5 : abcde.length = 5 := rfl
        have hXsn : (X ++ sp).Nodup := by
          rw [List.nodup_append]
          exact ⟨hXn, hspn, fun a ha b hb z => ((hspm b).mp hb).2 (z ▸ ha)⟩
        have h5 : 5 ≤ (X ++ sp).length := nodup_le (by decide : abcde.Nodup) fun c hc => by
          by_cases z : c ∈ X
          · exact List.mem_append_left _ z
          · exact List.mem_append_right _ ((hspm c).mpr ⟨hc, z⟩)
        obtain ⟨n, hn, hn2⟩ : ∃ n : Nat, (if (X.length : Int) > 3 then (X.length : Int) else 3) = (n : Int) ∧ n = max 3 X.length := by
          by_cases z : (X.length : Int) > 3
          · exact ⟨X.length, if_pos z, by omega⟩
          · exact ⟨3, if_neg z, by omega⟩
        have hfa3 := s3 _ _ hfa
        refine ⟨⟨_, rfl⟩, _, rfl, _, rfl, fa, D, _, _, rfl, rfl, hfa3, h3, by rw [List.length_map, List.length_map]; exact Nat.le_of_lt (lt_line (by omega)), fun q hq => ?_⟩
        have s4 : Same H3 (upd H3 q (.lst (sgsV X ++ sgsV sp))) := Same.new hq
        refine ⟨_, rfl, fa, _, rfl, .inl (SqL.of (s4 _ _ hfa3)), 3, _, rfl, _, rfl, q, _, rfl, SqL.of upd_same, fun q2 hq2 => ?_⟩
        rw [List.length_map, hn, cut_take]
        have e1 : (sgsV X ++ sgsV sp).take n = strV (((X ++ sp).take n).map sg) := by
          rw [← sgsV_app, ← sgs_str]
          unfold sgsV
          rw [List.map_take]
        rw [e1]
        have hBl : ((X ++ sp).take n).length = n := by rw [List.length_take]; omega
        have hBn : ((X ++ sp).take n).Nodup := hXsn.sublist (List.take_sublist _ _)
        have hXB : ∀ c ∈ X, c ∈ (X ++ sp).take n := fun c hc => by
          have e2 : (X ++ sp).take n = X ++ sp.take (n - X.length) := by
            rw [List.take_append]
            rw [List.take_of_length_le (by omega)]
          rw [e2]
          exact List.mem_append_left _ hc
        refine ⟨q2, ((X ++ sp).take n).map sg, rfl, SqL.of upd_same, by rw [List.length_map, hBl]; omega, fun ys p hperm hsort hp => ?_⟩
        obtain ⟨cs, rfl, hinc, hcm⟩ := signsBy hperm hsort hBn
        have hcl : cs.length = n := by
          have := hperm.length_eq
          rw [List.length_map, List.length_map, hBl] at this
          exact this
        refine ⟨_, p, cs.map sg, rfl, rfl, .inl (SqL.of upd_same), ?_, ?_⟩
        · rw [sum_sgs, List.length_map]
          show cs.length + cs.length * 0 ≤ _
          omega
        rw [join_sgs]
        refine k cs _ ((((sx.trans s3).trans s4).trans (Same.new hq2)).trans (Same.new hp)) ⟨hinc, by omega, fun c hc => ?_, fun c hc => ?_⟩
        · have := List.mem_of_mem_take ((hcm c).mp hc)
          rcases List.mem_append.mp this with z | z
          · obtain ⟨r, hr, hc⟩ := List.mem_flatMap.mp (hXs c z)
            obtain ⟨e, he, rfl⟩ := List.mem_map.mp hc
            exact az_of (F.row r hr e he).1
          · have h1 : ∀ c ∈ abcde, c ∈ az := by decide +kernel
            exact h1 c ((hspm c).mp z).1
        · obtain ⟨r, hr, hc⟩ := List.mem_flatMap.mp hc
          obtain ⟨e, he, rfl⟩ := List.mem_map.mp hc
          exact (hcm _).mpr (hXB _ (hXa r hr e he))
end
end K17
end TWJ
section TWK
set_option Elab.async false
set_option linter.all false
set_option maxRecDepth 100000
set_option maxHeartbeats 4000000
/-! Reader.marks. -/
namespace K17
open PySem PySem.Spec PyProof.Rows L2 LamX
section
variable {P : Program} {w : World} {K : PySem.W.Frag} {mg : Str → Option Value} {base : Heap}
def spRMarks (K : PySem.W.Frag) : Sp := fun vs H Q _ => ∃ (r : Addr) (R : M), vs = [.ref r] ∧ ReaderAt (RC K) H r R ∧ Fit R ∧ ∀ l H' ms, H l = none → Same H H' → H' l = some (.lst (strV ms)) → ms.length ≤ 6 → (∀ z ∈ ms, isMk z = true) → Q (.ref l) H'
theorem scRMarks : FnScope ["self", "thing"] ["self"] (defScope (mth 9)) := ⟨rfl, rfl, rfl, by decide +kernel, rfl, by decide +kernel, by decide +kernel⟩
theorem f_rmarks (T : Tx K mg) (X : Rx K mg) : ∃ fd : FuncData, FnOk P w K mg base CX0 3 (He.ma K (RC K) "marks") fd ["self"] (spRMarks K) ∧ Binds K fd ["self"] [] := by
  have To : Def P w K mg base CX0 1 "told_in" ["rows"] (spToldIn K) := d_told_in T
  have Mk : Def P w K mg base CX0 2 "is_mark" ["value"] (spTxt isMk) := d_is_mark T
  obtain ⟨fd, F⟩ := X.marksD
  refine ⟨fd, F.ok scRMarks (fun vs H Q E h => ?_) (fun cdv A outer s H vs Q E hr h => ?_), F.bindsN fun _ _ _ _ _ _ us hl => match us, hl with | [_], _ => rfl⟩
  · obtain ⟨r, R, rfl, _⟩ := h; rfl
  · obtain ⟨r, R, rfl, hR, Ft, k⟩ := h
    have nd := scRMarks.nd
    obtain ⟨dx, rt, et, ds, h1, h2, h3, h4⟩ := hR.ex
    refine ⟨_, pss_one (ps_ret (pe_lc (own := [("thing", 1)]) (g := gName 1) rfl nd (pi_list (pd0 To hr (pa1 (pe_fld (pv 0) rfl)))) (blkOk_by (own := [("thing", 1)]) (N := ["self", "thing"]) (sc := defScope (mth 9)) (by decide +kernel))
      (fun _ _ _ _ _ => pg_name (i := 1) nd rfl (Or.inl rfl)) (fun _ _ _ _ _ => pts_one (pt_val (pd0 Mk hr (pa1 (pv 1))))) (fun _ _ _ _ _ => pv 1))), ?_⟩
    refine ⟨_, rfl, r, RC K, dx, _, _, rfl, h1, X.cls, X.nR, rfl, rt, ds, R.rows, rfl, .inr (SqT.of h2), h4, fun r hr => by have := Ft.rlen hr; omega, by have := Ft.tolds; omega, fun ts p H1 s1 hp hts hinc hmem => ?_⟩
    have htn : ts.Nodup := hinc.imp (S := fun a b => a ≠ b) fun {a b} h z => by
      rw [z] at h
      exact lex_irrefl _ h
    have htl : ts.length ≤ 36 := Nat.le_trans (nodup_le htn fun x hx => (hmem x).mp hx) Ft.tolds
    refine ⟨p, rfl, ⟨_, SqL.of hts⟩, fun D hD => ?_⟩
    refine lc_it (walk_list (xs := strV ts)) (fun j H3 => Same H1 H3 ∧ H3 D = some (.lst (strV ((ts.take j).filter isMk))))
      ⟨Same.new hD, upd_same⟩ (fun j H3 _ hp => SqL.of (hp.1 _ _ hts)) (fun j x H3 H4 hj hp hy => ?_) (fun H3 hp => ?_)
    · obtain ⟨s3, h3'⟩ := hp
      obtain ⟨rfl, hx⟩ := hy
      rw [List.getElem?_map] at hx
      cases hz : ts[j]? with
      | none => rw [hz] at hx; cases hx
      | some z =>
        rw [hz] at hx
        obtain rfl : V.str z = x := Option.some.inj hx
        have hnm := Ft.tok ((hmem z).mp (List.mem_of_getElem? hz))
        have hzl := nm_len hnm
        refine ⟨rfl, _, rfl, z, rfl, by omega, fun H5 s5 => ?_⟩
        rw [take_succ_of hz, List.filter_append]
        cases hm : isMk z with
        | true =>
          have : [z].filter isMk = [z] := by simp [hm]
          rw [this]
          refine ⟨true, rfl, iteT ⟨_, rfl, _, s5 _ _ h3', ?_, Same.updN (s3.trans s5) hD, by rw [upd_same, strV_app]; rfl⟩⟩
          have := List.length_filter_le isMk (ts.take j)
          rw [List.length_take] at this
          rw [List.length_map]
          exact lt_line (by omega)
        | false =>
          have : [z].filter isMk = [] := by simp [hm]
          rw [this, List.append_nil]
          exact ⟨false, rfl, iteF ⟨s3.trans s5, s5 _ _ h3'⟩⟩
    · obtain ⟨s3, h3'⟩ := hp
      rw [List.length_map, List.take_length] at h3'
      refine k D H3 _ (Same.free s1 hD) (s1.trans s3) h3' ?_ fun z hz => (List.mem_filter.mp hz).2
      obtain ⟨A, hA, hAm⟩ := Ft.mks
      exact Nat.le_trans (nodup_le (htn.filter _) fun z hz => hAm z ((hmem z).mp (List.mem_filter.mp hz).1) (List.mem_filter.mp hz).2) hA
end
end K17
end TWK
section TWL
set_option Elab.async false
set_option linter.all false
set_option maxRecDepth 100000
set_option maxHeartbeats 4000000
/-! The first text of a reading is its least page. -/
namespace K17
open PySem PySem.Spec PyProof.Rows L2 LamX
theorem run_letters {R : M} : ∀ {w : Wd} {q : Nat} {z : List Str × Nat}, R.run q w = some z → ∀ c ∈ w, c ∈ signsOf R.rows
  | [], _, _, _, _, h => nomatch h
  | x :: w, q, z, h, c, hc => by
    obtain ⟨r, e⟩ := z
    obtain ⟨g, t, r', h1, h2, h3⟩ := run_cons_some.mp h
    rcases List.mem_cons.mp hc with y | y
    · subst y
      have hm := mem_of_lookup' (show (R.row q).lookup c = some (g, t) from h1)
      exact List.mem_flatMap.mpr ⟨R.row q, (row_mem hm).2, List.mem_map.mpr ⟨_, hm, rfl⟩⟩
    · exact run_letters h2 c y
theorem read_letters {R : M} {w : Wd} {row : List Str} (h : R.read w = some row) : ∀ c ∈ w, c ∈ signsOf R.rows := by
  obtain ⟨e, h1, _⟩ := read_some.mp h
  exact run_letters h1
theorem read_inW {R : M} {A : List Nat} (a : Abc R A) {n : Nat} {w : Wd} {row : List Str} (h : R.read w = some row) (hl : w.length ≤ n) : w ∈ allW A n := allW_mem.mpr ⟨hl, fun c hc => a.all c (read_letters h c hc)⟩
theorem first_least {R : M} {A : List Nat} (ab : Abc R A) {cap : Nat} {ex a b : List Wd} {v : Wd} {P : Wd → Prop} (hP : ∀ u, P u → ∃ row, R.read u = some row) (e : allW A cap ++ ex = a ++ v :: b) (hv : P v) (hl : v.length ≤ cap) (hn : ∀ u ∈ a, ¬ P u) : Least P v := by
  refine ⟨hv, fun u hu hlt => ?_⟩
  have hul : u.length ≤ cap := by
    rcases hlt with z | ⟨z, _⟩
    · omega
    · omega
  obtain ⟨ru, hru⟩ := hP u hu
  obtain ⟨rv, hrv⟩ := hP v hv
  have hui := read_inW ab hru hul
  have hvi := read_inW ab hrv hl
  have hinc := allW_inc ab.inc cap
  rcases List.append_eq_append_iff.mp e with ⟨a', h1, h2⟩ | ⟨c', h1, h2⟩
  · exact hn v (by rw [h1]; exact List.mem_append_left _ hvi) hv
  · cases c' with
    | nil =>
      rw [List.append_nil] at h1
      exact hn v (by rw [← h1]; exact hvi) hv
    | cons x c' =>
      have hx : v = x := (List.cons.inj h2).1
      subst hx
      rw [h1] at hui hinc
      rcases List.mem_append.mp hui with z | z
      · exact hn u z hu
      · rcases List.mem_cons.mp z with y | y
        · rw [y] at hlt
          exact wlt_irrefl _ hlt
        · have := (List.pairwise_cons.mp (List.pairwise_append.mp hinc).2.1).1 u y
          exact wlt_irrefl _ (wlt_trans hlt this)
theorem firsts_least {R : M} {A : List Nat} (ab : Abc R A) {cap : Nat} {ex : List Wd} {L : List (List Str × Wd)} (f : Firsts R (allW A cap ++ ex) L) {p : List Str × Wd} (hp : p ∈ L) (hl : p.2.length ≤ cap) : Least (fun u => R.read u = some p.1) p.2 := by
  obtain ⟨a, b, e, h1, h2⟩ := f.all p hp
  exact first_least ab (fun u h => ⟨_, h⟩) e h1 hl h2
/-- a least word is no longer than another -/
theorem least_len {P : Wd → Prop} {w v : Wd} (h : Least P w) (hv : P v) : w.length ≤ v.length := Nat.le_of_not_lt fun z => h.2 v hv (.inl z)
end K17
end TWL
section TWM
set_option Elab.async false
set_option linter.all false
set_option maxRecDepth 100000
set_option maxHeartbeats 4000000
/-! _law_pages_right. -/
namespace K17
open PySem PySem.Spec PyProof.Rows L2 LamX
theorem run_tolds {R : M} : ∀ {w : Wd} {q : Nat} {z : List Str × Nat}, R.run q w = some z → (∀ x ∈ z.1, x ∈ tolds R.rows) ∧ z.1.length ≤ w.length
  | [], q, z, h => by
    cases h
    exact ⟨fun _ h => (nomatch h), Nat.le_refl _⟩
  | c :: w, q, z, h => by
    obtain ⟨r, e⟩ := z
    obtain ⟨g, t, r', h1, h2, h3⟩ := run_cons_some.mp h
    obtain ⟨i1, i2⟩ := run_tolds h2
    have h3 : r = t.toList ++ r' := h3
    refine ⟨fun x hx => ?_, ?_⟩
    · have hx : x ∈ r := hx
      rw [h3] at hx
      rcases List.mem_append.mp hx with y | y
      · have ht : t = some x := by simpa using y
        have hm := mem_of_lookup' (show (R.row q).lookup c = some (g, t) from h1)
        exact List.mem_flatMap.mpr ⟨R.row q, (row_mem hm).2, List.mem_filterMap.mpr ⟨_, hm, ht⟩⟩
      · exact i1 x y
    · show r.length ≤ (c :: w).length
      rw [h3, List.length_append, List.length_cons]
      have i2 : r'.length ≤ w.length := i2
      have : t.toList.length ≤ 1 := by cases t <;> simp
      omega
theorem read_row {R : M} (F : Fit R) {w : Wd} {row : List Str} (h : R.read w = some row) : (∀ x ∈ row, isNm x = true) ∧ row.length ≤ w.length := by
  obtain ⟨e, h1, _⟩ := read_some.mp h
  obtain ⟨a, b⟩ := run_tolds h1
  exact ⟨fun x hx => F.tok (a x hx), b⟩
/-- a reading as a value -/
def rdD : Option (List Str) → PyData
  | none => .none
  | some row => .tuple (row.map .str)
def RdAt (H : Hp) (v : V) : Option (List Str) → Prop
  | none => v = .non
  | some row => ∃ p, v = .ref p ∧ H p = some (.tup (strV row))
theorem RdAt.same {H H' : Hp} (s : Same H H') {v : V} : ∀ {o : Option (List Str)}, RdAt H v o → RdAt H' v o
  | none, h => h
  | some _, ⟨p, e, h⟩ => ⟨p, e, s _ _ h⟩
theorem RdAt.dp {K : PySem.W.Frag} {H : Hp} {v : V} : ∀ {o : Option (List Str)}, RdAt H v o → Dp K H v (rdD o)
  | none, h => by
    have h : v = .non := h
    rw [h]
    exact .non
  | some row, ⟨p, e, h⟩ => by
    rw [e]
    exact .tup (SqT.of h) (dpAll_strs row)
theorem eqv_strs : ∀ l : List Str, PyData.eqvAll (l.map PyData.str) (l.map PyData.str) = true
  | [] => rfl
  | x :: l => by
    show ((x == x) && PyData.eqvAll (l.map PyData.str) (l.map PyData.str)) = true
    rw [eqv_strs l]
    simp
theorem eqv_rd : ∀ o, PyData.eqv (rdD o) (rdD o) = true
  | none => rfl
  | some row => eqv_strs row
theorem eqv_rd2 (o p : Option (List Str)) : PyData.eqv (.list [rdD o, rdD p]) (.list [rdD o, rdD p]) = true := by
  show (PyData.eqv (rdD o) (rdD o) && (PyData.eqv (rdD p) (rdD p) && true)) = true
  rw [eqv_rd, eqv_rd]
  rfl
def RowOk2 : Option (List Str) → Prop
  | none => True
  | some row => ∀ x ∈ row, isNm x = true
theorem rd_lay : ∀ {o : Option (List Str)}, RowOk2 o → PyData.canLay0 (rdD o) = true ∧ PyData.depth (rdD o) ≤ 10
  | none, _ => ⟨rfl, by show PyData.depth .none ≤ 10; unfold PyData.depth; decide⟩
  | some row, h => by
    have := shaped_strs h
    unfold SeqAt.shaped at this
    have h1 := Bool.and_eq_true_iff.mp this
    refine ⟨h1.1, ?_⟩
    have h2 : PyData.depthAll (row.map PyData.str) ≤ 3 := by
      clear this h1 h
      induction row with
      | nil => simp [PyData.depthAll]
      | cons x l ih =>
        rw [List.map_cons]
        simp [PyData.depthAll, PyData.depth]
        omega
    show PyData.depth (.tuple (row.map PyData.str)) ≤ 10
    simp [PyData.depth]
    omega
theorem shaped_rd2 {o p : Option (List Str)} (ho : RowOk2 o) (hp : RowOk2 p) : SeqAt.shaped (.list [rdD o, rdD p]) = true := by
  obtain ⟨a1, a2⟩ := rd_lay ho
  obtain ⟨b1, b2⟩ := rd_lay hp
  unfold SeqAt.shaped
  have h1 : PyData.canLay0 (.list [rdD o, rdD p]) = true := by
    show (PyData.canLay0 (rdD o) && (PyData.canLay0 (rdD p) && true)) = true
    rw [a1, b1]
    rfl
  rw [h1, Bool.true_and]
  refine decide_eq_true ?_
  simp [PyData.depth, PyData.depthAll]
  omega
theorem shaped_rd {o : Option (List Str)} (ho : RowOk2 o) : SeqAt.shaped (rdD o) = true := by
  obtain ⟨a1, a2⟩ := rd_lay ho
  unfold SeqAt.shaped
  rw [a1, Bool.true_and]
  exact decide_eq_true (by omega)
end K17
end TWM
section TWN
set_option Elab.async false
set_option linter.all false
set_option maxRecDepth 100000
set_option maxHeartbeats 4000000
/-! _law_pages_right. -/
namespace K17
open PySem PySem.Spec PyProof.Rows L2 LamX NdefX
section
variable {P : Program} {w : World} {K : PySem.W.Frag} {mg : Str → Option Value} {base : Heap}
/-- a reader that reads as the model -/
structure Alk (K : PySem.W.Frag) (H : Hp) (r : Addr) (R R1 : M) : Prop where
  at_ : ReaderAt (RC K) H r R1
  ok : R1.Ok
  small : ∃ SG, Small R1 SG
  read : ∀ u, R1.read u = R.read u
theorem Alk.xt {H H' : Hp} (s : ExtN H H') {r : Addr} {R R1 : M} (a : Alk K H r R R1) : Alk K H' r R R1 := ⟨a.at_.xt s, a.ok, a.small, a.read⟩
theorem spTold_of {H : Hp} {Q : VK} {E : XK} {r : Addr} {R R1 : M} {v : Wd} (a : Alk K H r R R1) (hwd : isWd (S v) = true) (hl : v.length ≤ 900) (k : ∀ x H', Same H H' → RdAt H' x (R.read v) → Q x H') : spTold K [.ref r, .str (S v)] H Q E :=
  ⟨r, R1, v, rfl, a.at_, a.ok, hwd, hl, fun row p H' hr hp s h => k _ H' s (by rw [← a.read, hr]; exact ⟨p, rfl, h⟩), fun hn H' s => k _ H' s (by rw [← a.read, hn]; rfl)⟩
theorem spRead_of {H : Hp} {Q : VK} {E : XK} {m : Addr} {R : M} {v : Wd} (hM : ModelAt H m R) (ok : R.Ok) (hl : v.length ≤ 900) (k : ∀ p x y H', Same H H' → H' p = some (.tup [x, y]) → RdAt H' x (R.read v) → Q (.ref p) H') : spRead [.ref m, .str (S v)] H Q E :=
  ⟨m, R, v, rfl, hM, ok, hl, fun row p tp wy H' hr hp s hpt htp hwy => k p _ _ H' s hpt (by rw [hr]; exact ⟨tp, rfl, htp⟩), fun hn p wy H' hp s hpt hwy => k p _ _ H' s hpt (by rw [hn]; rfl)⟩
theorem walk_itemsT {d : Addr} {o : Obj} {kvs : List (List Key × V)} : Walk (ItiT d o kvs) kvs.length (fun H => H d = some (.frz o (.dT kvs))) (fun i H x H' => ∃ T q k v, kvs[i]? = some (k, v) ∧ x = .ref T ∧ H T = none ∧ H q = some (.tup (k.map kV)) ∧ H' = upd H T (.tup [.ref q, v])) :=
  ⟨fun _ _ hi q => ⟨q, hi⟩, fun _ q => ⟨q, Nat.le_refl _⟩, fun _ _ _ _ _ _ y => y⟩
theorem spLeast_of {H : Hp} {Q : VK} {E : XK} {r q : Addr} {R R1 : M} {row : List Str} {v : Wd} (a : Alk K H r R R1) (hq : H q = some (.tup (strV row))) (hn : ∀ x ∈ row, isNm x = true) (hl : row.length ≤ 48) (hv : R.read v = some row) (hT : TabsN (TT K) H)
    (k : ∀ wd H', Least (fun u => R.read u = some row) wd → ExtN H H' → TabsN (TT K) H' → Q (.str (S wd)) H') : spLeast K [.ref r, .ref q] H Q E := by
  obtain ⟨SG, sm⟩ := a.small
  refine ⟨r, q, R1, row, SG, rfl, a.at_, hq, a.ok, sm, hn, hl, hT, fun wd H' hL => k wd H' (hL.imp fun u => by rw [a.read]), fun hno => absurd (by rw [a.read]; exact hv) (hno v)⟩
def spPages (K : PySem.W.Frag) : Sp := fun vs H Q E => ∃ (m r1 r2 nl : Addr) (R R1 R2 : M) (A : List Nat) (ex : List Wd), vs = [.ref m, .ref r1, .ref r2, .ref nl, .int (capOf A : Int)] ∧ ModelAt H m R ∧ Fit R ∧ Alk K H r1 R R1 ∧ Alk K H r2 R R2 ∧ Abc R A ∧
  H nl = some (.lst (wdsV (allW A (capOf A) ++ ex))) ∧ ex.length ≤ 6 ∧ (∀ v ∈ ex, v.length ≤ 40 ∧ ∀ c ∈ v, c ∈ A) ∧ TabsN (TT K) H ∧ ∀ H', ExtN H H' → TabsN (TT K) H' → Q (.bl true) H'
theorem scPages : FnScope ["_law_model_here", "_law_made", "_law_fresh", "_law_notes_here", "_law_cap", "_law_note", "_law_due", "_law_told_here", "_law_pair"] ["_law_model_here", "_law_made", "_law_fresh", "_law_notes_here", "_law_cap"] (defScope (top 59)) := ⟨rfl, rfl, rfl, by decide +kernel, rfl, by decide +kernel, by decide +kernel⟩
theorem d_pages (T : Tx K mg) (X : Rx K mg) (U : Ux K mg) (B : Tt K mg base) : Def P w K mg base CX0 11 "_law_pages_right" ["_law_model_here", "_law_made", "_law_fresh", "_law_notes_here", "_law_cap"] (spPages K) := by
  have Rd : Def P w K mg base CX0 1 "_law_read" ["_law_model_here", "_law_note"] spRead := d_read T
  have To : Def P w K mg base CX0 8 "_law_told" ["_law_made", "_law_note"] (spTold K) := d_told T X U
  have Ll : Def P w K mg base CX0 2 "_law_least" ["_law_model_here", "_law_notes_here"] spLeastL := d_leastL T
  have Lp : Def P w K mg base CX0 10 "least_page" ["reader", "row"] (spLeast K) := d_least T X B
  refine def_of T 41 59 ["_law_model_here", "_law_made", "_law_fresh", "_law_notes_here", "_law_cap", "_law_note", "_law_due", "_law_told_here", "_law_pair"] rfl scPages (fun _ _ _ _ _ _ us hl => match us, hl with | [_, _, _, _, _], _ => rfl) (fun vs H Q E h => ?_) (fun f cdv A outer s H vs Q E hr h => ?_)
  · obtain ⟨m, r1, r2, nl, R, R1, R2, A, ex, rfl, _⟩ := h; rfl
  · obtain ⟨m, r1, r2, nl, R, R1, R2, Ab, ex, rfl, hM, F, a1, a2, ab, hnl, hexl, hex, hT, k⟩ := h
    have nd := scPages.nd
    have hu64 := hr.units
    refine ⟨_, PSs.nox (pss_cons (ps_for PassesOwn.never rfl (pi_list (pv 3)) (g := gName 5) (pg_name (i := 5) nd rfl (Or.inl rfl))
        (pss_cons (ps_set (i := 6) nd rfl (Or.inl rfl) (pe_ix ix_tup (pd0 Rd hr (pa_cons (pv 0) (pa1 (pv 5)))) pe_int (fun _ _ => rfl)))
        (pss_one (ps_if (pt_cmpR (op_neD hu64) (pe_lst (pa_cons (pd0 To hr (pa_cons (pv 1) (pa1 (pv 5)))) (pa1 (pd0 To hr (pa_cons (pv 2) (pa1 (pv 5))))))) (pe_lst (pa_cons (pv 6) (pa1 (pv 6)))) (nomark _)) (pss_one ps_never) pss_nil))))
      (pss_cons (ps_for PassesOwn.never rfl (pi_itemsT (pd0 Ll hr (pa_cons (pv 0) (pa1 (pv 3))))) (g := gTup K 2 (gCons (gName 7) (gCons (gName 5) gNil))) (pg_tup rfl (pgs_cons (pg_name (i := 7) nd rfl (Or.inl rfl)) (pgs_cons (pg_name (i := 5) nd rfl (Or.inl rfl)) pgs_nil)))
        (pss_cons (ps_set (i := 8) nd rfl (Or.inl rfl) (pe_lst (pa_cons (pd0 Lp hr (pa_cons (pv 1) (pa1 (pv 7)))) (pa1 (pd0 Lp hr (pa_cons (pv 2) (pa1 (pv 7))))))))
        (pss_one (ps_if (PW.pt (pw_or (pt_cmpR op_ne (pe_ix ix_list (pv 8) pe_int (fun _ _ => rfl)) (pe_ix ix_list (pv 8) pe_int (fun _ _ => rfl)) (nomark _))
            (pw_or (PW.pt (pw_and (pt_cmpR op_le (pB T b_len call_len_str (pa1 (pv 5))) (pv 4) (nomark _)) (pw_and1 (pt_cmpR op_ne (pe_ix ix_list (pv 8) pe_int (fun _ _ => rfl)) (pv 5) (nomark _)))))
            (pw_or1 (pt_cmpR (op_neD hu64) (pe_ix ix_tup (pd0 Rd hr (pa_cons (pv 0) (pa1 (pe_ix ix_list (pv 8) pe_int (fun _ _ => rfl))))) pe_int (fun _ _ => rfl)) (pv 7) (nomark _)))))) (pss_one ps_never) pss_nil))))
      (pss_one (ps_ret pe_bl)))), ?_⟩
    have hfit := fits Ab (capOf Ab) (by unfold capOf; rcases ab.len with z | z; exact .inl ⟨z, if_pos z⟩; exact .inr ⟨z, if_neg (by omega)⟩) (capOf Ab) (Nat.le_refl _)
    have hcap5 : capOf Ab ≤ 5 := by unfold capOf; split <;> omega
    have hall : ∀ v ∈ allW Ab (capOf Ab) ++ ex, v.length ≤ 40 ∧ ∀ c ∈ v, c ∈ Ab := fun v hv => by
      rcases List.mem_append.mp hv with z | z
      · have := allW_mem.mp z
        exact ⟨by omega, this.2⟩
      · exact hex v z
    have hwsl : (allW Ab (capOf Ab) ++ ex).length ≤ 450 := by rw [List.length_append]; omega
    have hok2 : ∀ v, RowOk2 (R.read v) := fun v => by
      cases e : R.read v with
      | none => trivial
      | some row => exact (read_row F e).1
    refine ⟨_, rfl, nl, rfl, ⟨_, SqL.of hnl⟩, ?_⟩
    refine for_it (walk_list (xs := wdsV (allW Ab (capOf Ab) ++ ex))) (fun i σ Hx => Same H Hx ∧ ∃ u5 u6, σ = [some (.ref m), some (.ref r1), some (.ref r2), some (.ref nl), some (.int (capOf Ab : Int)), u5, u6, none, none])
      ⟨fun _ _ e => e, none, none, rfl⟩ (fun i σ Hx _ hp => SqL.of (hp.1 _ _ hnl)) (fun i x σ Hx Hx' hi hp hy => ?_) (fun σ Hx hp => ?_)
    · obtain ⟨sx, u5, u6, rfl⟩ := hp
      obtain ⟨rfl, hx⟩ := hy
      rw [List.getElem?_map] at hx
      cases hv : (allW Ab (capOf Ab) ++ ex)[i]? with
      | none => rw [hv] at hx; cases hx
      | some v =>
        rw [hv] at hx
        obtain rfl : V.str (S v) = x := Option.some.inj hx
        obtain ⟨hvl, hva⟩ := hall v (List.mem_of_getElem? hv)
        have hwd : isWd (S v) = true := isWd_S fun c hc => ab.az c (hva c hc)
        refine ⟨_, rfl, _, rfl, ?_⟩
        refine tNil_of ?_
        refine spRead_of (v := v) (hM.same sx) F.ok (by omega) fun p x y H2 s2 hp hx => ?_
        refine ⟨p, _, (0 : Int), _, rfl, rfl, SqT.of hp, rfl, ?_⟩
        have s02 := sx.trans s2
        refine ⟨_, rfl, _, rfl, ?_⟩
        refine tNil_of ?_
        refine spTold_of (v := v) (a1.xt (ExtN.of s02)) hwd (by omega) fun x1 H3 s3 h1 => ?_
        have s03 := s02.trans s3
        refine ⟨_, rfl, _, rfl, ?_⟩
        refine tNil_of ?_
        refine spTold_of (v := v) (a2.xt (ExtN.of s03)) hwd (by omega) fun x2 H4 s4 h2 => ?_
        refine ⟨by show 2 ≤ sizeLine; decide, fun q1 hq1 => ?_⟩
        have s5 := s4.trans (Same.new (o := .lst [x1, x2]) hq1)
        refine ⟨_, rfl, _, rfl, by show 2 ≤ sizeLine; decide, fun q2 hq2 => ?_⟩
        have s6 := Same.new (o := .lst [x, x]) hq2
        have s56 := s5.trans s6
        refine ⟨_, _, .lst (SqL.of (s6 _ _ upd_same)) (.cons (h1.same s56).dp (.cons (h2.same ((Same.new hq1).trans s6)).dp .nil)), .lst (SqL.of upd_same) (.cons (hx.same (s3.trans s56)).dp (.cons (hx.same (s3.trans s56)).dp .nil)), shaped_rd2 (hok2 v) (hok2 v), shaped_rd2 (hok2 v) (hok2 v), ?_⟩
        rw [eqv_rd2]
        exact ⟨false, rfl, iteF ⟨s03.trans s56, _, _, rfl⟩⟩
    · obtain ⟨sx, u5, u6, rfl⟩ := hp
      have hMx := hM.same sx
      have hnlx := sx _ _ hnl
      have hTx := hT.ext sx
      have a1x := a1.xt (ExtN.of sx)
      have a2x := a2.xt (ExtN.of sx)
      refine ⟨_, rfl, _, rfl, m, nl, R, _, rfl, hMx, F.ok, hnlx, hwsl, fun v hv => by have := (hall v hv).1; omega, fun d H1 o L hd s1 hdL hFi hLl => ?_⟩
      refine ⟨d, o, _, rfl, hdL, ?_⟩
      have xt1 : ExtN H H1 := ExtN.of (sx.trans s1)
      have hT1 := hTx.ext s1
      refine for_it (walk_itemsT (kvs := L.map firstV)) (fun i σ Hz => ExtN H1 Hz ∧ TabsN (TT K) Hz ∧ ∃ u5 u6 u7 u8, σ = [some (.ref m), some (.ref r1), some (.ref r2), some (.ref nl), some (.int (capOf Ab : Int)), u5, u6, u7, u8])
        ⟨ExtN.refl _, hT1, _, _, _, _, rfl⟩ (fun i σ Hz _ hp => hp.1 _ _ hdL fun _ z => (nomatch z)) (fun i x σ Hz Hz' hi hp hy => ?_) (fun σ Hz hp => ?_)
      · obtain ⟨xz, tz, u5, u6, u7, u8, rfl⟩ := hp
        obtain ⟨T1, q, kk, vv, hkv, rfl, hT1n, hq, rfl⟩ := hy
        rw [List.getElem?_map] at hkv
        cases hp : L[i]? with
        | none => rw [hp] at hkv; cases hkv
        | some p =>
          rw [hp] at hkv
          obtain ⟨row, v⟩ := p
          have hkv : (rowK row, V.str (S v)) = (kk, vv) := Option.some.inj hkv
          cases hkv
          rw [row_kV] at hq
          have hpm := List.mem_of_getElem? hp
          obtain ⟨aa, bb, eab, hread, _⟩ := hFi.all (row, v) hpm
          have hread : R.read v = some row := hread
          have hvm : v ∈ allW Ab (capOf Ab) ++ ex := by rw [eab]; simp
          have hv40 := (hall v hvm).1
          obtain ⟨hnm, hrl⟩ := read_row F hread
          have s2 : Same Hz (upd Hz T1 (.tup [.ref q, .str (S v)])) := Same.new hT1n
          refine ⟨T1, _, rfl, SqT.of upd_same, rfl, _, _, rfl, _, _, rfl, rfl, ?_⟩
          have x02 : ExtN H (upd Hz T1 (.tup [.ref q, .str (S v)])) := (xt1.trans xz).trans (ExtN.of s2)
          refine ⟨_, rfl, _, rfl, ?_⟩
          refine tNil_of ?_
          refine spLeast_of (v := v) (a1.xt x02) (s2 _ _ hq) hnm (by omega) hread (tz.ext s2) fun w1 H3 hL1 x3 t3 => ?_
          have x03 := x02.trans x3
          have hq3 := x3 _ _ (s2 _ _ hq) fun _ z => (nomatch z)
          refine ⟨_, rfl, _, rfl, ?_⟩
          refine tNil_of ?_
          refine spLeast_of (v := v) (a2.xt x03) hq3 hnm (by omega) hread t3 fun w2 H4 hL2 x4 t4 => ?_
          have hw : w2 = w1 := hL2.eq hL1
          subst hw
          have x04 := x03.trans x4
          have hq4 := x4 _ _ hq3 fun _ z => (nomatch z)
          refine ⟨by show 2 ≤ sizeLine; decide, fun pl hpl => ?_⟩
          have s5 : Same H4 (upd H4 pl (.lst [.str (S w2), .str (S w2)])) := Same.new hpl
          have hpl5 : (upd H4 pl (.lst [.str (S w2), .str (S w2)])) pl = some (.lst [.str (S w2), .str (S w2)]) := upd_same
          generalize upd H4 pl (.lst [.str (S w2), .str (S w2)]) = H5 at s5 hpl5
          refine ⟨_, rfl, pl, _, (0 : Int), _, rfl, rfl, SqL.of hpl5, rfl, _, rfl, pl, _, (1 : Int), _, rfl, rfl, SqL.of hpl5, rfl, rfl, false, by rw [decide_eq_true rfl]; rfl, iteF ?_⟩
          have hwl : w2.length ≤ v.length := least_len hL2 hread
          have hsv : (S v).length ≤ sizeLine := by rw [S_len]; exact Nat.le_of_lt (lt_line (by omega))
          have x05 := x04.trans (ExtN.of s5)
          have hM5 := hM.xt x05
          have hq5 := s5 _ _ hq4
          have hr2 : R.read w2 = some row := hL2.1
          have xz5 : ExtN H1 H5 := xz.trans ((ExtN.of s2).trans (x3.trans (x4.trans (ExtN.of s5))))
          have t5 := t4.ext s5
          refine ⟨_, rfl, S v, rfl, hsv, _, rfl, _, _, rfl, rfl, ?_⟩
          by_cases hc : v.length ≤ capOf Ab
          · refine ⟨true, congrArg V.bl (decide_eq_true (by rw [S_len]; omega)), iteT ?_⟩
            have hwv : w2 = v := hL2.eq (firsts_least ab hFi hpm hc)
            refine ⟨_, rfl, pl, _, (0 : Int), _, rfl, rfl, SqL.of hpl5, rfl, _, rfl, rfl, false, by rw [decide_eq_true (by rw [hwv])]; rfl, iteF ?_⟩
            refine ⟨_, rfl, _, rfl, pl, _, (0 : Int), _, rfl, rfl, SqL.of hpl5, rfl, ?_⟩
            refine tNil_of ?_
            refine spRead_of (v := w2) hM5 F.ok (by omega) fun p6 x6 y6 H6 s6 hp6 hx6 => ?_
            rw [hr2] at hx6
            refine ⟨p6, _, (0 : Int), _, rfl, rfl, SqT.of hp6, rfl, _, rfl, _, _, hx6.dp, .tup (SqT.of (s6 _ _ hq5)) (dpAll_strs row), shaped_rd (o := some row) hnm, shaped_strs hnm, false, ?_, iteF ⟨xz5.trans (ExtN.of s6), t5.ext s6, _, _, _, _, rfl⟩⟩
            have := eqv_rd (some row)
            exact congrArg V.bl (by show (!PyData.eqv (rdD (some row)) (rdD (some row))) = false; rw [this]; rfl)
          · refine ⟨false, congrArg V.bl (decide_eq_false (by rw [S_len]; omega)), iteF (iteF ?_)⟩
            refine ⟨_, rfl, _, rfl, pl, _, (0 : Int), _, rfl, rfl, SqL.of hpl5, rfl, ?_⟩
            refine tNil_of ?_
            refine spRead_of (v := w2) hM5 F.ok (by omega) fun p6 x6 y6 H6 s6 hp6 hx6 => ?_
            rw [hr2] at hx6
            refine ⟨p6, _, (0 : Int), _, rfl, rfl, SqT.of hp6, rfl, _, rfl, _, _, hx6.dp, .tup (SqT.of (s6 _ _ hq5)) (dpAll_strs row), shaped_rd (o := some row) hnm, shaped_strs hnm, false, ?_, iteF ⟨xz5.trans (ExtN.of s6), t5.ext s6, _, _, _, _, rfl⟩⟩
            have := eqv_rd (some row)
            exact congrArg V.bl (by show (!PyData.eqv (rdD (some row)) (rdD (some row))) = false; rw [this]; rfl)
      · obtain ⟨xz, tz, u5, u6, u7, u8, rfl⟩ := hp
        exact k Hz (xt1.trans xz) tz
end
end K17
end TWN
section TWO
set_option Elab.async false
set_option linter.all false
set_option maxRecDepth 100000
set_option maxHeartbeats 4000000
/-! Plain mathematics for _law_met: the states on a way, short last pages, rounds that meet all states. -/
namespace K17
variable {τ : Type}
def pathS (R : Rdr τ) (q : Nat) (w : Wd) : List Nat := q :: (R.trace q w).map (·.1)
theorem pathS_cons {R : Rdr τ} {q c g : Nat} {t : Option τ} {w : Wd} (h : R.mv q c = some (g, t)) : pathS R q (c :: w) = q :: pathS R g w := by
  unfold pathS
  rw [trace_some h]
  rfl
theorem path_split {R : Rdr τ} : ∀ {w : Wd} {q : Nat} {r : List τ} {z x : Nat}, R.run q w = some (r, z) → x ∈ pathS R q w → ∃ u v r1 r2, w = u ++ v ∧ R.run q u = some (r1, x) ∧ R.run x v = some (r2, z)
  | [], q, r, z, x, h, hx => by
    have e : x = q := by simpa [pathS, Rdr.trace] using hx
    subst e
    exact ⟨[], [], [], r, rfl, rfl, h⟩
  | c :: w, q, r, z, x, h, hx => by
    obtain ⟨g, t, r', h1, h2, h3⟩ := run_cons_some.mp h
    rw [pathS_cons h1] at hx
    rcases List.mem_cons.mp hx with e | hx
    · subst e
      exact ⟨[], c :: w, [], r, rfl, rfl, h⟩
    · obtain ⟨u, v, r1, r2, e1, e2, e3⟩ := path_split h2 hx
      exact ⟨c :: u, v, t.toList ++ r1, r2, by rw [e1]; rfl, run_cons_some.mpr ⟨g, t, r1, h1, e2, rfl⟩, e3⟩
theorem path_mem {R : Rdr τ} : ∀ {u v : Wd} {q : Nat} {r : List τ} {x : Nat}, R.run q u = some (r, x) → x ∈ pathS R q (u ++ v)
  | [], v, q, r, x, h => by
    cases h
    exact List.mem_cons_self
  | c :: u, v, q, r, x, h => by
    obtain ⟨g, t, r', h1, h2, h3⟩ := run_cons_some.mp h
    rw [List.cons_append, pathS_cons h1]
    exact List.mem_cons_of_mem _ (path_mem h2)
theorem path_len {R : Rdr τ} : ∀ {w : Wd} {q : Nat} {z : List τ × Nat}, R.run q w = some z → (pathS R q w).length = w.length + 1
  | [], q, z, h => rfl
  | c :: w, q, (r, z), h => by
    obtain ⟨g, t, r', h1, h2, h3⟩ := run_cons_some.mp h
    rw [pathS_cons h1, List.length_cons, path_len h2]
    rfl
theorem path_nodup {R : Rdr τ} {G : Nat → Prop} : ∀ {w : Wd} {q : Nat} {r : List τ} {z : Nat}, R.run q w = some (r, z) → G z → (∀ v r' e, R.run q v = some (r', e) → G e → w.length ≤ v.length) → (pathS R q w).Nodup
  | [], q, r, z, h, _, _ => by simp [pathS, Rdr.trace]
  | c :: w, q, r, z, h, hz, hm => by
    obtain ⟨g, t, r', h1, h2, h3⟩ := run_cons_some.mp h
    rw [pathS_cons h1, List.nodup_cons]
    refine ⟨fun hx => ?_, path_nodup h2 hz fun v r2 e hv he => ?_⟩
    · obtain ⟨u, v, r1, r2, e1, e2, e3⟩ := path_split h2 hx
      have := hm v r2 z e3 hz
      have e4 : w.length = u.length + v.length := by rw [e1, List.length_append]
      rw [List.length_cons] at this
      omega
    · have := hm (c :: v) _ e (run_cons_some.mpr ⟨g, t, r2, h1, hv, rfl⟩) he
      rw [List.length_cons, List.length_cons] at this
      omega
/-- the same reader from another state -/
def Rdr.from_ (R : Rdr τ) (q : Nat) : Rdr τ := ⟨R.rows, R.ends, q⟩
theorem from_run (R : Rdr τ) (s : Nat) : ∀ (w : Wd) (q : Nat), (R.from_ s).run q w = R.run q w
  | [], q => rfl
  | c :: w, q => by
    rw [run_cons, run_cons]
    have : (R.from_ s).mv q c = R.mv q c := rfl
    rw [this]
    congr 1
    funext m
    rw [from_run R s w]
theorem from_read {R : Rdr τ} {q : Nat} {w : Wd} {r : List τ} : (R.from_ q).read w = some r ↔ ∃ e, R.run q w = some (r, e) ∧ e ∈ R.ends := by
  rw [read_some]
  show (∃ e, (R.from_ q).run q w = some (r, e) ∧ e ∈ R.ends) ↔ _
  rw [from_run]
theorem from_ok {R : Rdr τ} (ok : R.Ok) {q : Nat} (hq : q < R.rows.length) : (R.from_ q).Ok := ⟨ok.pos, ok.keys, ok.goal, ok.ends, ok.nd, hq⟩
theorem tail_short {R : Rdr τ} (ok : R.Ok) {q : Nat} (hq : q < R.rows.length) {w : Wd} (h : Least (fun u => ∃ row, (R.from_ q).read u = some row) w) : w.length < R.rows.length := by
  obtain ⟨row, hr⟩ := h.1
  obtain ⟨e, h1, h2⟩ := from_read.mp hr
  have nd := path_nodup (G := fun e => e ∈ R.ends) h1 h2 fun v r' e' hv he => least_len h ⟨r', from_read.mpr ⟨e', hv, he⟩⟩
  have := nodup_le nd (U := List.range R.rows.length) fun x hx => by
    obtain ⟨u, v, r1, r2, _, e2, _⟩ := path_split h1 hx
    exact List.mem_range.mpr (run_lt ok hq e2)
  rw [List.length_range, path_len h1] at this
  omega
/-- a page through q: all its states are useful, q is one of them -/
theorem way_all {R : M} {u v : Wd} {q : Nat} {r1 r2 : List PySem.Str} {e : Nat} (h1 : R.run R.start u = some (r1, q)) (h2 : R.run q v = some (r2, e)) (he : e ∈ R.ends) :
    (∃ row, R.read (u ++ v) = some row) ∧ q ∈ wayOf R (u ++ v) ∧ ∀ x ∈ wayOf R (u ++ v), Useful R x := by
  have h3 : R.run R.start (u ++ v) = some (r1 ++ r2, e) := run_append.mpr ⟨r1, q, r2, h1, h2, rfl⟩
  refine ⟨⟨_, read_some.mpr ⟨e, h3, he⟩⟩, path_mem h1, fun x hx => ?_⟩
  obtain ⟨a, b, s1, s2, _, e2, e3⟩ := path_split h3 hx
  exact ⟨⟨a, s1, e2⟩, .inl ⟨b, s2, e, e3, he⟩⟩
theorem way_len {R : M} {w : Wd} : (wayOf R w).length ≤ w.length + 1 := by
  unfold wayOf
  rw [List.length_cons, List.length_map]
  have := trace_len (R := R) (w := w) (q := R.start)
  omega
/-! ### rounds -/
structure Bfs (R : Rdr τ) (F : List (Nat × Wd)) (L : List (Wd × Nat)) (i : Nat) : Prop where
  nd : (F.map (·.1)).Nodup
  snd : ∀ p ∈ F, p.2.length ≤ i ∧ ∃ r, R.run R.start p.2 = some (r, p.1)
  st : R.start ∈ F.map (·.1)
  lat : ∀ l ∈ L, (l.2, l.1) ∈ F
  cl : ∀ p ∈ F, (p.2, p.1) ∉ L → ∀ c g t, R.mv p.1 c = some (g, t) → g ∈ F.map (·.1)
  pr : L = [] ∨ i < F.length
structure Mid2 (R : Rdr τ) (n0 i : Nat) (L : List (Wd × Nat)) (F : List (Nat × Wd)) (N : List (Wd × Nat)) : Prop where
  nd : (F.map (·.1)).Nodup
  snd : ∀ p ∈ F, p.2.length ≤ i + 1 ∧ ∃ r, R.run R.start p.2 = some (r, p.1)
  st : R.start ∈ F.map (·.1)
  lat : ∀ l ∈ N, (l.2, l.1) ∈ F
  cl : ∀ p ∈ F, (p.2, p.1) ∉ N → (p.2, p.1) ∉ L → ∀ c g t, R.mv p.1 c = some (g, t) → g ∈ F.map (·.1)
  ln : F.length = n0 + N.length
  pr0 : N = [] ∨ i < n0
theorem bfs_zero (R : Rdr τ) : Bfs R [(R.start, [])] [([], R.start)] 0 where
  nd := by simp
  snd := fun p hp => by
    have := List.mem_singleton.mp hp
    subst this
    exact ⟨Nat.le_refl _, [], rfl⟩
  st := by simp
  lat := fun l hl => by
    have := List.mem_singleton.mp hl
    subst this
    exact List.mem_cons_self
  cl := fun p hp hn => by
    have := List.mem_singleton.mp hp
    subst this
    exact absurd List.mem_cons_self hn
  pr := .inr (by simp)
theorem Bfs.begin {R : Rdr τ} {F : List (Nat × Wd)} {L : List (Wd × Nat)} {i : Nat} (b : Bfs R F L i) : Mid2 R F.length i L F [] where
  nd := b.nd
  snd := fun p hp => ⟨Nat.le_succ_of_le (b.snd p hp).1, (b.snd p hp).2⟩
  st := b.st
  lat := fun l hl => nomatch hl
  cl := fun p hp _ h => b.cl p hp h
  ln := rfl
  pr0 := .inl rfl
theorem Mid2.add {R : Rdr τ} {n0 i : Nat} {L N : List (Wd × Nat)} {F : List (Nat × Wd)} (m : Mid2 R n0 i L F N) (hi : i < n0) {w : Wd} {q c g : Nat} {t : Option τ} {r : List τ} (hw : w.length ≤ i) (hr : R.run R.start w = some (r, q))
    (hm : R.mv q c = some (g, t)) (hn : g ∉ F.map (·.1)) : Mid2 R n0 i L (F ++ [(g, w ++ [c])]) (N ++ [(w ++ [c], g)]) where
  nd := by
    rw [List.map_append, List.nodup_append]
    refine ⟨m.nd, by simp, fun a ha b hb e => ?_⟩
    have : b = g := by simpa using hb
    exact hn (by rw [← this, ← e]; exact ha)
  snd := fun p hp => by
    rcases List.mem_append.mp hp with h | h
    · exact m.snd p h
    · have := List.mem_singleton.mp h
      subst this
      refine ⟨by rw [List.length_append]; show w.length + 1 ≤ i + 1; omega, r ++ t.toList, run_snoc.mpr ⟨r, q, t, hr, hm, rfl⟩⟩
  st := by rw [List.map_append]; exact List.mem_append_left _ m.st
  lat := fun l hl => by
    rcases List.mem_append.mp hl with h | h
    · exact List.mem_append_left _ (m.lat l h)
    · have := List.mem_singleton.mp h
      subst this
      exact List.mem_append_right _ List.mem_cons_self
  cl := fun p hp h1 h2 d x s hd => by
    rw [List.map_append]
    rcases List.mem_append.mp hp with h | h
    · exact List.mem_append_left _ (m.cl p h (fun z => h1 (List.mem_append_left _ z)) h2 d x s hd)
    · have := List.mem_singleton.mp h
      subst this
      exact absurd (List.mem_append_right _ List.mem_cons_self) h1
  ln := by rw [List.length_append, List.length_append, m.ln]; rfl
  pr0 := .inr hi
theorem Mid2.done {R : Rdr τ} {n0 i : Nat} {L N : List (Wd × Nat)} {F : List (Nat × Wd)} {w : Wd} {q : Nat} (m : Mid2 R n0 i ((w, q) :: L) F N) (h : ∀ c g t, R.mv q c = some (g, t) → g ∈ F.map (·.1)) : Mid2 R n0 i L F N where
  nd := m.nd
  snd := m.snd
  st := m.st
  lat := m.lat
  cl := fun p hp h1 h2 => by
    by_cases e : (p.2, p.1) = (w, q)
    · have e2 : p.1 = q := (Prod.mk.inj e).2
      rw [e2]
      exact h
    · exact m.cl p hp h1 fun z => by
        rcases List.mem_cons.mp z with y | y
        · exact e y
        · exact h2 y
  ln := m.ln
  pr0 := m.pr0
theorem Mid2.fin {R : Rdr τ} {n0 i : Nat} {N : List (Wd × Nat)} {F : List (Nat × Wd)} (m : Mid2 R n0 i [] F N) : Bfs R F N (i + 1) where
  nd := m.nd
  snd := m.snd
  st := m.st
  lat := m.lat
  cl := fun p hp h => m.cl p hp h fun z => (nomatch z)
  pr := by
    rcases N with _ | ⟨x, N⟩
    · exact .inl rfl
    · refine .inr ?_
      have h1 := m.ln
      rw [List.length_cons] at h1
      rcases m.pr0 with h | h
      · cases h
      · omega
theorem Mid2.lt {R : Rdr τ} (ok : R.Ok) {n0 i : Nat} {L N : List (Wd × Nat)} {F : List (Nat × Wd)} (m : Mid2 R n0 i L F N) : F.length ≤ R.rows.length := by
  have := nodup_le m.nd (U := List.range R.rows.length) fun q hq => by
    obtain ⟨p, hp, rfl⟩ := List.mem_map.mp hq
    obtain ⟨_, r, hr⟩ := m.snd p hp
    exact List.mem_range.mpr (run_lt ok ok.start hr)
  rwa [List.length_range, List.length_map] at this
theorem Bfs.len {R : Rdr τ} (ok : R.Ok) {i : Nat} {L : List (Wd × Nat)} {F : List (Nat × Wd)} (b : Bfs R F L i) : F.length ≤ R.rows.length := b.begin.lt ok
/-- after the rounds: all reached states, each once -/
theorem Bfs.all {R : Rdr τ} (ok : R.Ok) {i : Nat} {L : List (Wd × Nat)} {F : List (Nat × Wd)} (b : Bfs R F L i) (hi : R.rows.length ≤ i) (q : Nat) : q ∈ F.map (·.1) ↔ Reached R q := by
  have hl : L = [] := by
    rcases b.pr with h | h
    · exact h
    · have := b.len ok
      omega
  subst hl
  constructor
  · intro h
    obtain ⟨p, hp, rfl⟩ := List.mem_map.mp h
    obtain ⟨_, r, hr⟩ := b.snd p hp
    exact ⟨p.2, r, hr⟩
  · intro h
    exact reached_all (F.map (·.1)) b.st (fun q hq c g t hm => by
      obtain ⟨p, hp, rfl⟩ := List.mem_map.mp hq
      exact b.cl p hp (fun z => (nomatch z)) c g t hm) h
end K17
end TWO
section TWP
set_option Elab.async false
set_option linter.all false
set_option maxRecDepth 100000
set_option maxHeartbeats 4000000
/-! _law_met. -/
namespace K17
open PySem PySem.Spec PyProof.Rows L2 LamX NdefX
def entF (p : Nat × Wd) : Key × V := (Sum.inl (p.1 : Int), .str (S p.2))
def NtAt (H : Hp) (x : V) (l : Wd × Nat) : Prop := ∃ p, x = .ref p ∧ H p = some (.tup [.str (S l.1), .int (l.2 : Int)])
theorem NtAt.fx {H H' : Hp} (s : Fx H H') {xs : List V} {L : List (Wd × Nat)} (h : Paired (NtAt H) xs L) : Paired (NtAt H') xs L := Paired.mapP h fun _ _ ⟨p, a, b⟩ => ⟨p, a, s _ _ b trivial⟩
theorem entF_val (q : Nat) : ∀ F : List (Nat × Wd), (q ∈ F.map (·.1) ∧ (valV (F.map entF) (Sum.inl (q : Int) : Key)).isSome = true) ∨ (q ∉ F.map (·.1) ∧ valV (F.map entF) (Sum.inl (q : Int) : Key) = none)
  | [] => .inr ⟨fun h => (nomatch h), rfl⟩
  | p :: F => by
    by_cases e : p.1 = q
    · refine .inl ⟨by rw [List.map_cons, e]; exact List.mem_cons_self, ?_⟩
      rw [List.map_cons, valV_pos (show (entF p).1 = (Sum.inl (q : Int) : Key) by rw [← e]; rfl)]
      rfl
    · have ne : ¬ (entF p).1 = (Sum.inl (q : Int) : Key) := fun z => e (natInt_inj _ _ (Sum.inl.inj z))
      rw [List.map_cons, List.map_cons, valV_neg ne]
      rcases entF_val q F with ⟨a, b⟩ | ⟨a, b⟩
      · exact .inl ⟨List.mem_cons_of_mem _ a, b⟩
      · refine .inr ⟨fun z => ?_, b⟩
        rcases List.mem_cons.mp z with y | y
        · exact e y.symm
        · exact a y
theorem Fit.from_ {R : M} (F : Fit R) {q : Nat} (hq : q < R.rows.length) : Fit (R.from_ q) := ⟨from_ok F.ok hq, F.six, F.row, F.sg, F.tx, F.mks⟩
theorem walk_itemsK {d : Addr} {o : Obj} {kvs : List (Key × V)} : Walk (Iti d o kvs) kvs.length (fun H => H d = some (.frz o (.dK kvs))) (fun i H x H' => ∃ T k v, kvs[i]? = some (k, v) ∧ x = .ref T ∧ H T = none ∧ H' = upd H T (.tup [kV k, v])) :=
  ⟨fun _ _ hi q => ⟨q, hi⟩, fun _ q => ⟨q, Nat.le_refl _⟩, fun _ _ _ _ _ _ y => y⟩
/-- set(xs), xs few different keys -/
def rSetU (K : PySem.W.Frag) (w : World) : List V → Hp → VK → Prop := fun vs H Q => ∃ (a : Addr) (ks U : List Key), vs = [V.ref a] ∧ SqL K H a (ks.map kV) ∧ (∀ k ∈ ks, k ∈ U) ∧ ks.length + 1 < scanBound ∧
  ∀ (p : Addr) (c : Nat), c ≤ U.length → H p = none → Q (.ref p) (upd H p (SetK w p (fun k => decide (k ∈ ks)) c))
theorem SetW.card {w : World} {h : Heap} {a : Addr} {ks U : List Key} {c : Nat} (R : SetW w h a (fun k => decide (k ∈ ks)) c) (hu : ∀ k ∈ ks, k ∈ U) : c ≤ U.length := by
  obtain ⟨o, es, ep, t, ho, hx, hd, hg, hn, hm, hb, hf, hs, _⟩ := R
  have := nodup_le hn (U := U) fun k hk => hu k (of_decide_eq_true ((hm k).mpr hk))
  rw [List.length_map, Array.length_toList] at this
  omega
theorem cr_setU {X : Cx} (hc : X.calm = true) : CallR X (.type "set") (rSetU X.K X.w) := by
  intro pins s σ H vs us Q I r h
  obtain ⟨a, ks, U, rfl, ha, hU, hb, q⟩ := h
  obtain ⟨its, rv, hl, hz⟩ := I.list ha
  rw [Vals.ref1 r]
  refine call_set_listK ks (I.ok.hd hc) hl.isList (by simpa using keys_vals rv) hb fun h' tk c hS hcn k => ?_
  have hn : H s.heap.objs.size = none := I.hok.fresh (Nat.le_refl _)
  have J : Inv X pins σ (upd H s.heap.objs.size (SetK X.w s.heap.objs.size (fun k => decide (k ∈ ks)) c)) { s with heap := h', toks := tk } := I.laid (t' := tk) k (Nat.le_refl _) (setK_new hS)
  exact ⟨.ref _, _, J, rfl, q _ c (hS.card hU) hn⟩
theorem dpAll_ints {K : PySem.W.Frag} {H : Hp} : ∀ l : List Int, DpAll K H (l.map V.int) (l.map PyData.int)
  | [] => .nil
  | x :: l => .cons (.int x) (dpAll_ints l)
theorem eqv_ints : ∀ l : List Int, PyData.eqvAll (l.map PyData.int) (l.map PyData.int) = true
  | [] => rfl
  | x :: l => by
    show ((x == x) && PyData.eqvAll (l.map PyData.int) (l.map PyData.int)) = true
    rw [eqv_ints l]
    simp
theorem inc_ext : ∀ {a b : List Nat}, a.Pairwise (· < ·) → b.Pairwise (· < ·) → (∀ q, q ∈ a ↔ q ∈ b) → a = b
  | [], [], _, _, _ => rfl
  | [], y :: b, _, _, h => nomatch (h y).mpr List.mem_cons_self
  | x :: a, [], _, _, h => nomatch (h x).mp List.mem_cons_self
  | x :: a, y :: b, ha, hb, h => by
    obtain ⟨a1, a2⟩ := List.pairwise_cons.mp ha
    obtain ⟨b1, b2⟩ := List.pairwise_cons.mp hb
    have e : x = y := by
      rcases List.mem_cons.mp ((h x).mp List.mem_cons_self) with z | z
      · exact z
      · rcases List.mem_cons.mp ((h y).mpr List.mem_cons_self) with t | t
        · exact t.symm
        · have := b1 x z
          have := a1 y t
          omega
    subst e
    rw [inc_ext a2 b2 fun q => ?_]
    constructor
    · intro hq
      rcases List.mem_cons.mp ((h q).mp (List.mem_cons_of_mem _ hq)) with z | z
      · have := a1 q hq
        omega
      · exact z
    · intro hq
      rcases List.mem_cons.mp ((h q).mpr (List.mem_cons_of_mem _ hq)) with z | z
      · have := b1 q hq
        omega
      · exact z
section
variable {P : Program} {w : World} {K : PySem.W.Frag} {mg : Str → Option Value} {base : Heap}
def spMet (K : PySem.W.Frag) : Sp := fun vs H Q E => ∃ (r kp m : Addr) (R : M) (kept : List Nat), vs = [.ref r, .ref kp, .ref m] ∧ ModelAt H m R ∧ Fit R ∧ TupZ H kp (natsV kept) ∧ kept.Pairwise (· < ·) ∧ (∀ q, q ∈ kept ↔ Useful R q) ∧ TabsN (TT K) H ∧
  ∀ H', ExtN H H' → TabsN (TT K) H' → Q (.bl true) H'
theorem scMet : FnScope ["_law_made", "_law_kept", "_law_model_here", "_law_latest", "_law_seen", "_law_firsts", "_law_turn", "_law_longer", "_law_note", "_law_spot", "_law_letter", "_law_move", "_law_tail"] ["_law_made", "_law_kept", "_law_model_here"] (defScope (top 60)) := ⟨rfl, rfl, rfl, by decide +kernel, rfl, by decide +kernel, by decide +kernel⟩
theorem d_met (T : Tx K mg) (X : Rx K mg) (B : Tt K mg base) : Def P w K mg base CX0 11 "_law_met" ["_law_made", "_law_kept", "_law_model_here"] (spMet K) := by
  have Rd : Def P w K mg base CX0 1 "_law_read" ["_law_model_here", "_law_note"] spRead := d_read T
  have Sh : Def P w K mg base CX0 10 "shortest_page" ["reader"] (spShort K) := d_short T X B
  refine def_of T 42 60 ["_law_made", "_law_kept", "_law_model_here", "_law_latest", "_law_seen", "_law_firsts", "_law_turn", "_law_longer", "_law_note", "_law_spot", "_law_letter", "_law_move", "_law_tail"] rfl scMet (fun _ _ _ _ _ _ us hl => match us, hl with | [_, _, _], _ => rfl) (fun vs H Q E h => ?_) (fun f cdv A outer s H vs Q E hr h => ?_)
  · obtain ⟨r, kp, m, R, kept, rfl, _⟩ := h; rfl
  · obtain ⟨r, kp, m, R, kept, rfl, hM, F, hkp, hinc, hkm, hT, k⟩ := h
    have nd := scMet.nd
    have hu64 := hr.units
    have hu := hu_of hr
    refine ⟨_, PSs.nox (pss_cons (ps_par (i := 3) (j := 4) rfl nd rfl rfl (by decide) rfl rfl (pa_cons (pe_lst (pa1 (pe_tup (pa_cons pe_str (pa1 (pe_ix ix_tup (pv 2) pe_int (fun _ _ => rfl))))))) (pa1 (pe_lst pa_nil))) (by rfl))
      (pss_cons (ps_set (i := 5) nd rfl (Or.inl rfl) (pe_disp (pps_cons (pe_ix ix_tup (pv 2) pe_int (fun _ _ => rfl)) pe_str pps_nil) (by rfl) (by rfl) (fun z => by cases z) (by decide)))
      (pss_cons (ps_frz (ps_for PassesOwn.never rfl (pi_range1 rfl (T.f "range") (pa1 pe_int)) (g := gName 6) (pg_name (i := 6) nd rfl (Or.inl rfl))
        (pss_cons (ps_set (i := 7) nd rfl (Or.inl rfl) (pe_lst pa_nil))
        (pss_cons (ps_for PassesOwn.never rfl (pi_list (pv 3)) (g := gTup K 2 (gCons (gName 8) (gCons (gName 9) gNil))) (pg_tup rfl (pgs_cons (pg_name (i := 8) nd rfl (Or.inl rfl)) (pgs_cons (pg_name (i := 9) nd rfl (Or.inl rfl)) pgs_nil)))
          (pss_one (ps_for PassesOwn.never rfl (pi_items (pe_ix ix_list (pe_ix ix_tup (pv 2) pe_int (fun _ _ => rfl)) (pv 9) (fun _ _ => rfl))) (g := gTup K 2 (gCons (gName 10) (gCons (gName 11) gNil))) (pg_tup rfl (pgs_cons (pg_name (i := 10) nd rfl (Or.inl rfl)) (pgs_cons (pg_name (i := 11) nd rfl (Or.inl rfl)) pgs_nil)))
            (pss_one (ps_if (pt_cmp (pc_dnotin hu (pe_ix ix_tup (pv 11) pe_int (fun _ _ => rfl)) (pv 5)))
              (pss_cons (ps_dput hu (pv 5) (pe_ix ix_tup (pv 11) pe_int (fun _ _ => rfl)) (pe_op op_add_str (pv 8) (pv 10)) (by rfl))
              (pss_one (ps_expr (pe_bm PySem.F.plainAttrs_list PySem.F.slot_list_append PySem.F.type_list_append mt_append (pv 7) (pa1 (pe_tup (pa_cons (pe_op op_add_str (pv 8) (pv 10)) (pa1 (pe_ix ix_tup (pv 11) pe_int (fun _ _ => rfl)))))))))) pss_nil)))))
        (pss_one (ps_set (i := 3) nd rfl (Or.inl rfl) (pv 7)))))))
      (pss_cons (ps_for PassesOwn.never rfl (pi_items (pv 5)) (g := gTup K 2 (gCons (gName 9) (gCons (gName 8) gNil))) (pg_tup rfl (pgs_cons (pg_name (i := 9) nd rfl (Or.inl rfl)) (pgs_cons (pg_name (i := 8) nd rfl (Or.inl rfl)) pgs_nil)))
        (pss_cons (ps_set (i := 12) nd rfl (Or.inl rfl) (pd0 Sh hr (pa1 (pe_reader T X hr (pa_cons (pe_ix ix_tup (pv 2) pe_int (fun _ _ => rfl)) (pa1 (pe_ix ix_tup (pv 2) pe_int (fun _ _ => rfl)))) (pk_cons (pv 9) pk_nil)))))
        (pss_one (ps_if (pt_cmpR op_notN (pv 12) pe_non (nomark _)) (pss_one (ps_set (i := 4) nd rfl (Or.inl rfl) (pe_op op_cat (pv 4) (pe_ix ix_tup (pd0 Rd hr (pa_cons (pv 2) (pa1 (pe_op op_add_str (pv 8) (pv 12))))) pe_int (fun _ _ => rfl))))) pss_nil))))
      (pss_one (ps_ret (pe_cmpR (op_eqD hu64) (pB T b_sorted (cr_sortKI rfl) (pa1 (pT T b_set (cr_setU rfl) (pa1 (pe_op op_cat (pv 4) (pe_lst (pa1 (pe_ix ix_tup (pv 2) pe_int (fun _ _ => rfl))))))))) (pT T b_list call_list_of (pa1 (pv 1))) (nomark _)))))))), ?_⟩
    obtain ⟨ml, sl, ds, o1, o2, hm, hml, hsl, hds⟩ := hM.ex
    have ok := F.ok
    have h6 := F.six
    refine ⟨_, rfl, m, _, (2 : Int), _, rfl, rfl, SqT.of hm, rfl, by show 2 ≤ sizeLine; decide, fun p0 hp0 => ⟨by show 1 ≤ sizeLine; decide, fun la hla => ⟨Nat.zero_le _, fun se hse => ⟨_, _, rfl, ?_⟩⟩⟩⟩
    have s1 : Same H (upd H p0 (.tup [.str "", .int (R.start : Int)])) := Same.new hp0
    have s2 := s1.trans (Same.new (o := .lst [.ref p0]) hla)
    have s3 := s2.trans (Same.new (o := .lst []) hse)
    have sb := (Same.new (o := .lst [.ref p0]) hla).trans (Same.new (o := .lst []) hse)
    have hnt : Paired (NtAt (upd (upd (upd H p0 (.tup [.str "", .int (R.start : Int)])) la (.lst [.ref p0])) se (.lst []))) [V.ref p0] [(([] : Wd), R.start)] := .cons ⟨p0, rfl, sb _ _ upd_same⟩ .nil
    have hla3 : (upd (upd (upd H p0 (.tup [.str "", .int (R.start : Int)])) la (.lst [.ref p0])) se (.lst [])) la = some (.lst [.ref p0]) := Same.new hse _ _ upd_same
    have hse3 : (upd (upd (upd H p0 (.tup [.str "", .int (R.start : Int)])) la (.lst [.ref p0])) se (.lst [])) se = some (.lst (natsV [])) := upd_same
    generalize upd (upd (upd H p0 (.tup [.str "", .int (R.start : Int)])) la (.lst [.ref p0])) se (.lst []) = H1 at s3 hnt hla3 hse3
    have hlaH := Same.free s1 hla
    have hseH := Same.free s2 hse
    clear sb s1 s2 hp0 hla hse
    intro fd hfd
    have s4 : Same H1 (upd H1 fd (.dK [])) := Same.new hfd
    have s5 : Same H1 (upd (upd H1 fd (.dK [])) fd (.dK ([(R.start, ([] : Wd))].map entF))) := Same.updN s4 hfd
    refine ⟨_, rfl, m, _, (2 : Int), _, rfl, rfl, SqT.of (s4 _ _ (s3 _ _ hm)), rfl, upd_same, [(R.start, ([] : Wd))].map entF, rfl, by show 1 ≤ 15; decide, ?_⟩
    have hfd2 : (upd (upd H1 fd (.dK [])) fd (.dK (mergeK [] ([(R.start, ([] : Wd))].map entF)))) fd = some (.dK ([(R.start, ([] : Wd))].map entF)) := upd_same
    have s5 : Same H1 (upd (upd H1 fd (.dK [])) fd (.dK (mergeK [] ([(R.start, ([] : Wd))].map entF)))) := Same.updN s4 hfd
    generalize upd (upd H1 fd (.dK [])) fd (.dK (mergeK [] ([(R.start, ([] : Wd))].map entF))) = H2 at hfd2 s5
    have hfdH : H fd = none := Same.free s3 hfd
    have s02 := s3.trans s5
    have hla2 := s5 _ _ hla3
    have hse2 := s5 _ _ hse3
    have hnt2 := NtAt.fx (Same.fx s5) hnt
    clear s4 hla3 hse3 hnt hfd s3 s5
    refine ⟨(12 : Int), rfl, by decide, by decide, ?_⟩
    refine for_it (walk_range (n := 12)) (fun i σ Hx => Same H Hx ∧ (∃ (la : Addr) (xs : List V) (Fr : List (Nat × Wd)) (L : List (Wd × Nat)), Bfs R Fr L i ∧ H la = none ∧ Hx la = some (.lst xs) ∧ Paired (NtAt Hx) xs L ∧ Hx fd = some (.dK (Fr.map entF)) ∧ Hx se = some (.lst (natsV [])) ∧
        ∃ u6 u7 u8 u9 u10 u11, σ = [some (.ref r), some (.ref kp), some (.ref m), some (.ref la), some (.ref se), some (.ref fd), u6, u7, u8, u9, u10, u11, none]))
      ⟨s02, la, _, _, _, bfs_zero R, hlaH, hla2, hnt2, hfd2, hse2, none, none, none, none, none, none, rfl⟩ (fun _ _ _ _ _ => trivial) (fun i x σ Hx Hx' hi hp hy => ?_) (fun σ Hx hp => ?_)
    · obtain ⟨sx, la, xs, Fr, L, hB, hlaH, hla, hnt, hfx, hsx, u6, u7, u8, u9, u10, u11, rfl⟩ := hp
      obtain ⟨rfl, _⟩ := hy
      have hFl := hB.len ok
      refine ⟨Nat.zero_le _, fun lo hlo => ?_⟩
      have hloH := Same.free sx hlo
      have s1 : Same Hx' (upd Hx' lo (.lst [])) := Same.new hlo
      have hlo1 : (upd Hx' lo (.lst [])) lo = some (.lst []) := upd_same
      have hlal : la ≠ lo := fun z => by rw [z, hlo] at hla; cases hla
      have hfdl : fd ≠ lo := fun z => by rw [z, hlo] at hfx; cases hfx
      have hsel : se ≠ lo := fun z => by rw [z, hlo] at hsx; cases hsx
      have hlaf : la ≠ fd := fun z => by rw [z, hfx] at hla; cases hla
      have hsef : se ≠ fd := fun z => by rw [z, hfx] at hsx; cases hsx
      generalize hH1 : upd Hx' lo (.lst []) = H1 at s1 hlo1
      refine ⟨_, rfl, la, rfl, ⟨_, SqL.of (s1 _ _ hla)⟩, ?_⟩
      have hnt1 := NtAt.fx (Same.fx s1) hnt
      have hxl : xs.length = L.length := Paired.len hnt
      refine for_it (walk_list (xs := xs)) (fun j σ Hy => Same H Hy ∧ Fx H1 Hy ∧ Hy la = some (.lst xs) ∧ Hy se = some (.lst (natsV [])) ∧ (∃ (F2 : List (Nat × Wd)) (N : List (Wd × Nat)) (ys : List V), Mid2 R Fr.length i (L.drop j) F2 N ∧ Hy fd = some (.dK (F2.map entF)) ∧ Hy lo = some (.lst ys) ∧ Paired (NtAt Hy) ys N) ∧
          ∃ u8 u9 u10 u11, σ = [some (.ref r), some (.ref kp), some (.ref m), some (.ref la), some (.ref se), some (.ref fd), some x, some (.ref lo), u8, u9, u10, u11, none])
        ⟨sx.trans s1, Fx.refl, s1 _ _ hla, s1 _ _ hsx, ⟨Fr, [], [], hB.begin, s1 _ _ hfx, hlo1, .nil⟩, _, _, _, _, rfl⟩ (fun j σ Hy _ hp => SqL.of hp.2.2.1) (fun j y σ Hy Hy' hj hp hy => ?_) (fun σ Hy hp => ?_)
      · obtain ⟨sy, fy, hlay, hsey, ⟨F2, N, ys, hM2, hfy, hloy, hny⟩, v8, v9, v10, v11, rfl⟩ := hp
        obtain ⟨rfl, hy⟩ := hy
        obtain ⟨⟨wd, q⟩, hLj, p1, rfl, hp1⟩ := Paired.get1 hnt1 hy
        have hp1 : H1 p1 = some (.tup [.str (S wd), .int (q : Int)]) := hp1
        have hLm := List.mem_of_getElem? hLj
        have hiF : i < Fr.length := by
          rcases hB.pr with z | z
          · rw [z] at hLm; cases hLm
          · exact z
        obtain ⟨hwl, r0, hrun⟩ := hB.snd _ (hB.lat _ hLm)
        have hwl : wd.length ≤ i := hwl
        have hrun : R.run R.start wd = some (r0, q) := hrun
        have hq := run_lt ok ok.start hrun
        have hdrop : L.drop j = (wd, q) :: L.drop (j + 1) := by
          have hjl : j < L.length := (List.getElem?_eq_some_iff.mp hLj).1
          rw [List.drop_eq_getElem_cons hjl]
          congr 1
          exact (List.getElem?_eq_some_iff.mp hLj).2
        rw [hdrop] at hM2
        refine ⟨p1, _, rfl, SqT.of (fy _ _ hp1 trivial), rfl, _, _, rfl, _, _, rfl, rfl, ?_⟩
        obtain ⟨d, row, hd1, hd2, o, kvs, hd3, hk⟩ := row_at hds hq
        have hdv : (ds.map V.ref)[q]? = some (.ref d) := by rw [List.getElem?_map, hd1]; rfl
        have hrq : R.row q = row := by
          unfold Rdr.row
          rw [List.getD_eq_getElem?_getD, hd2]
          rfl
        refine ⟨_, rfl, m, _, (0 : Int), _, rfl, rfl, SqT.of (sy _ _ hm), rfl, _, rfl, ml, _, (q : Int), _, rfl, rfl, .inl (.inr ⟨o1, sy _ _ hml⟩), atI_nat hdv, d, o, kvs, rfl, sy _ _ hd3, ?_⟩
        refine for_it (row_items hk) (fun n σ Hz => Same H Hz ∧ Fx H1 Hz ∧ Hz la = some (.lst xs) ∧ Hz se = some (.lst (natsV [])) ∧ (∃ (F2 : List (Nat × Wd)) (N : List (Wd × Nat)) (ys : List V), Mid2 R Fr.length i ((wd, q) :: L.drop (j + 1)) F2 N ∧ Hz fd = some (.dK (F2.map entF)) ∧ Hz lo = some (.lst ys) ∧ Paired (NtAt Hz) ys N ∧ ∀ e ∈ row.take n, e.2.1 ∈ F2.map (·.1)) ∧
            ∃ u10 u11, σ = [some (.ref r), some (.ref kp), some (.ref m), some (.ref la), some (.ref se), some (.ref fd), some x, some (.ref lo), some (.str (S wd)), some (.int (q : Int)), u10, u11, none])
          ⟨sy, fy, hlay, hsey, ⟨F2, N, ys, hM2, hfy, hloy, hny, fun e he => by simp at he⟩, _, _, rfl⟩ (fun n σ Hz _ hp => hp.1 _ _ hd3) (fun n z σ Hz Hz' hn hp hz => ?_) (fun σ Hz hp => ?_)
        · obtain ⟨sz, fz, hlaz, hsez, ⟨F3, N3, zs, hM3, hfz, hloz, hnz, hall⟩, v10, v11, rfl⟩ := hp
          obtain ⟨T1, e, mm, he, rfl, hT1, rfl, hmm⟩ := hz
          obtain ⟨c, g, t⟩ := e
          have hmv : R.mv q c = some (g, t) := (mv_iff ok q c (g, t)).mpr (by rw [hrq]; exact List.mem_of_getElem? he)
          have tk : row.take (n + 1) = row.take n ++ [(c, g, t)] := take_succ_of he
          have hF3 := hM3.lt ok
          have sn : Same Hz (upd Hz T1 (.tup [.str (sg c), .ref mm])) := Same.new hT1
          have hT1t : (upd Hz T1 (.tup [.str (sg c), .ref mm])) T1 = some (.tup [.str (sg c), .ref mm]) := upd_same
          generalize upd Hz T1 (.tup [.str (sg c), .ref mm]) = H5 at sn hT1t
          have s5 := sz.trans sn
          have f5 := fz.trans (Same.fx sn)
          have hf5 := sn _ _ hfz
          have hl5 := sn _ _ hloz
          have hmm5 : H5 mm = some (.tup [.int (g : Int), toldV t]) := s5 _ _ hmm
          refine ⟨T1, _, rfl, SqT.of hT1t, rfl, _, _, rfl, _, _, rfl, rfl, ?_⟩
          refine ⟨_, rfl, mm, _, (0 : Int), _, rfl, rfl, SqT.of hmm5, rfl, _, rfl, fd, _, rfl, DGet.k (k := Sum.inl (g : Int)) hf5, ?_⟩
          rcases entF_val g F3 with ⟨gm, gv⟩ | ⟨gm, gv⟩
          · rw [gv]
            refine ⟨false, rfl, iteF ⟨s5, f5, sn _ _ hlaz, sn _ _ hsez, ⟨F3, N3, zs, hM3, hf5, hl5, NtAt.fx (Same.fx sn) hnz, fun e he => ?_⟩, _, _, rfl⟩⟩
            rw [tk] at he
            rcases List.mem_append.mp he with z | z
            · exact hall e z
            · have := List.mem_singleton.mp z
              subst this
              exact gm
          · rw [gv]
            refine ⟨true, rfl, iteT ?_⟩
            have hln : (S wd).length + (sg c).length ≤ sizeLine := by
              rw [S_len]
              show wd.length + 1 ≤ _
              exact Nat.le_of_lt (lt_line (by omega))
            have hwc : S wd ++ sg c = S (wd ++ [c]) := by rw [← S_one, S_app]
            refine ⟨_, rfl, _, rfl, S wd, sg c, rfl, rfl, hln, ?_⟩
            refine ⟨_, rfl, _, rfl, mm, _, (0 : Int), _, rfl, rfl, SqT.of hmm5, rfl, fd, _, rfl, DPut.k (k := Sum.inl (g : Int)) hf5 (by rw [List.length_map]; exact lt_line (by omega)), ?_⟩
            have f6 : Fx H5 (upd H5 fd (.dK (putK (F3.map entF) (Sum.inl (g : Int)) (.str (S wd ++ sg c))))) := Fx.put hf5 id
            have s6 : Same H (upd H5 fd (.dK (putK (F3.map entF) (Sum.inl (g : Int)) (.str (S wd ++ sg c))))) := Same.updN s5 hfdH
            have hf6 : (upd H5 fd (.dK (putK (F3.map entF) (Sum.inl (g : Int)) (.str (S wd ++ sg c))))) fd = some (.dK ((F3 ++ [(g, wd ++ [c])]).map entF)) := by
              rw [upd_same, put_new gv, List.map_append, hwc]
              rfl
            have hl6 : (upd H5 fd (.dK (putK (F3.map entF) (Sum.inl (g : Int)) (.str (S wd ++ sg c))))) lo = some (.lst zs) := by rw [upd_ne hfdl.symm]; exact hl5
            have hla6 : (upd H5 fd (.dK (putK (F3.map entF) (Sum.inl (g : Int)) (.str (S wd ++ sg c))))) la = some (.lst xs) := by rw [upd_ne hlaf]; exact sn _ _ hlaz
            have hse6 : (upd H5 fd (.dK (putK (F3.map entF) (Sum.inl (g : Int)) (.str (S wd ++ sg c))))) se = some (.lst (natsV [])) := by rw [upd_ne hsef]; exact sn _ _ hsez
            generalize upd H5 fd (.dK (putK (F3.map entF) (Sum.inl (g : Int)) (.str (S wd ++ sg c)))) = H6 at f6 s6 hf6 hl6 hla6 hse6
            refine ⟨_, rfl, .inl ⟨rfl, _, SqL.of hl6⟩, _, rfl, _, rfl, S wd, sg c, rfl, rfl, hln, _, rfl, mm, _, (0 : Int), _, rfl, rfl, SqT.of (s6 _ _ hmm), rfl, by show 2 ≤ sizeLine; decide, fun p7 hp7 => ?_⟩
            have s7 : Same H6 (upd H6 p7 (.tup [.str (S wd ++ sg c), .int (g : Int)])) := Same.new hp7
            have hp7t : (upd H6 p7 (.tup [.str (S wd ++ sg c), .int (g : Int)])) p7 = some (.tup [.str (S (wd ++ [c])), .int (g : Int)]) := by rw [upd_same, hwc]
            generalize upd H6 p7 (.tup [.str (S wd ++ sg c), .int (g : Int)]) = H7 at s7 hp7t
            have hl7 := s7 _ _ hl6
            have f8 : Fx H7 (upd H7 lo (.lst (zs ++ [.ref p7]))) := Fx.put hl7 id
            have hM4 := hM3.add hiF hwl hrun hmv gm
            have hM4l := hM4.lt ok
            have hzl : zs.length = N3.length := Paired.len hnz
            have hln4 := hM4.ln
            rw [List.length_append, List.length_append] at hln4
            have f57 := (f6.trans (Same.fx s7)).trans f8
            refine ⟨lo, _, _, rfl, rfl, hl7, ?_, Same.updN (s6.trans s7) hloH, f5.trans f57, by rw [upd_ne hlal]; exact s7 _ _ hla6, by rw [upd_ne hsel]; exact s7 _ _ hse6, ⟨_, _, _, hM4, by rw [upd_ne hfdl]; exact s7 _ _ hf6, upd_same, ?_, fun e he => ?_⟩, _, _, rfl⟩
            · exact lt_line (by rw [List.length_append] at hM4l; have : 1 ≤ 1 := Nat.le_refl _; simp only [List.length_cons, List.length_nil] at hln4 hM4l; omega)
            · exact Paired.app (NtAt.fx ((Same.fx sn).trans f57) hnz) (.cons ⟨p7, rfl, f8 _ _ hp7t trivial⟩ .nil)
            · rw [List.map_append]
              rw [tk] at he
              rcases List.mem_append.mp he with z | z
              · exact List.mem_append_left _ (hall e z)
              · have := List.mem_singleton.mp z
                subst this
                exact List.mem_append_right _ List.mem_cons_self
        · obtain ⟨sz, fz, hlaz, hsez, ⟨F3, N3, zs, hM3, hfz, hloz, hnz, hall⟩, v10, v11, rfl⟩ := hp
          rw [List.take_length] at hall
          exact ⟨sz, fz, hlaz, hsez, ⟨F3, N3, zs, hM3.done fun c g t hm => hall (c, g, t) (by rw [← hrq]; exact (mv_iff ok q c (g, t)).mp hm), hfz, hloz, hnz⟩, _, _, _, _, rfl⟩
      · obtain ⟨sy, fy, hlay, hsey, ⟨F2, N, ys, hM2, hfy, hloy, hny⟩, v8, v9, v10, v11, rfl⟩ := hp
        rw [hxl, List.drop_length] at hM2
        exact ⟨_, rfl, sy, lo, ys, F2, N, hM2.fin, hloH, hloy, hny, hfy, hsey, _, _, _, _, _, _, rfl⟩
    · obtain ⟨sx, la, xs, Fr, L, hB, hlaH, hla, hnt, hfx, hsx, u6, u7, u8, u9, u10, u11, rfl⟩ := hp
      have hall := hB.all ok (show R.rows.length ≤ 12 by omega)
      have hFl := hB.len ok
      refine ⟨[fd], _, hfx, trivial, fun od => ?_⟩
      have s1 : Same H (upd Hx fd (.frz od (.dK (Fr.map entF)))) := Same.updN sx hfdH
      have hfd1 : (upd Hx fd (.frz od (.dK (Fr.map entF)))) fd = some (.frz od (.dK (Fr.map entF))) := upd_same
      have hse1 : (upd Hx fd (.frz od (.dK (Fr.map entF)))) se = some (.lst (natsV [])) := by
        rw [upd_ne fun z => by rw [z, hfx] at hsx; cases hsx]
        exact hsx
      generalize upd Hx fd (.frz od (.dK (Fr.map entF))) = H3 at s1 hfd1 hse1
      refine ⟨_, rfl, fd, od, _, rfl, hfd1, ?_⟩
      refine for_it (walk_itemsK (kvs := Fr.map entF)) (fun i σ Hy => ExtN H Hy ∧ TabsN (TT K) Hy ∧ Hy fd = some (.frz od (.dK (Fr.map entF))) ∧ (∃ (se : Addr) (Z : List Nat), Hy se = some (.lst (natsV Z)) ∧ Z.length ≤ i * 20 ∧ (∀ x ∈ Z, Useful R x) ∧ (∀ p ∈ Fr.take i, CanEnd R p.1 → p.1 ∈ Z) ∧
          ∃ u3 u6 u7 u8 u9 u10 u11 u12, σ = [some (.ref r), some (.ref kp), some (.ref m), u3, some (.ref se), some (.ref fd), u6, u7, u8, u9, u10, u11, u12]))
        ⟨ExtN.of s1, hT.ext s1, hfd1, se, [], hse1, Nat.le_refl _, fun _ h => (nomatch h), fun _ h => by simp at h, _, _, _, _, _, _, _, _, rfl⟩ (fun i σ Hy _ hp => hp.2.2.1) (fun i x σ Hy Hy' hi hp hy => ?_) (fun σ Hy hp => ?_)
      · obtain ⟨xy, ty, hfy, se, Z, hse, hZl, hZu, hZa, u3, u6, u7, u8, u9, u10, u11, u12, rfl⟩ := hp
        obtain ⟨T1, kk, vv, hkv, rfl, hT1, rfl⟩ := hy
        rw [List.getElem?_map] at hkv
        cases hp : Fr[i]? with
        | none => rw [hp] at hkv; cases hkv
        | some p =>
          rw [hp] at hkv
          obtain ⟨q, wd⟩ := p
          have hkv : ((Sum.inl (q : Int) : Key), V.str (S wd)) = (kk, vv) := Option.some.inj hkv
          cases hkv
          obtain ⟨hwl, r0, hrun⟩ := hB.snd _ (List.mem_of_getElem? hp)
          have hwl : wd.length ≤ 12 := hwl
          have hrun : R.run R.start wd = some (r0, q) := hrun
          have hq := run_lt ok ok.start hrun
          have tk : Fr.take (i + 1) = Fr.take i ++ [(q, wd)] := take_succ_of hp
          have hil : i < Fr.length := (List.getElem?_eq_some_iff.mp hp).1
          have s2 : Same Hy (upd Hy T1 (.tup [kV (Sum.inl (q : Int) : Key), .str (S wd)])) := Same.new hT1
          have hT1t : (upd Hy T1 (.tup [kV (Sum.inl (q : Int) : Key), .str (S wd)])) T1 = some (.tup [.int (q : Int), .str (S wd)]) := upd_same
          refine ⟨T1, _, rfl, SqT.of upd_same, rfl, _, _, rfl, _, _, rfl, rfl, ?_⟩
          generalize upd Hy T1 (.tup [kV (Sum.inl (q : Int) : Key), .str (S wd)]) = H4 at s2 hT1t
          have x4 := xy.trans (ExtN.of s2)
          obtain ⟨ml, sl, ds, o1, o2, hm, hml, hsl, hds⟩ := (hM.xt x4).ex
          refine ⟨_, rfl, m, _, (0 : Int), _, rfl, rfl, SqT.of hm, rfl, _, rfl, m, _, (1 : Int), _, rfl, rfl, SqT.of hm, rfl, _, rfl, ?_⟩
          refine ⟨rfl, rfl, fun x dx hx hdx hne => ?_⟩
          have sx5 : Same H4 (upd (upd H4 dx (.own x)) x (.ins (RC K) dx [])) := Same.updN (Same.new hdx) hx
          refine ⟨x, dx, ml, sl, ds, R.from_ q, rfl, upd_same, Same.rd sx5 (.inr ⟨o1, hml⟩), RowsAt.same sx5 hds, Same.rd sx5 (.inr ⟨o2, hsl⟩), F.from_ hq, fun H5 R' ho hR hpm => ⟨rfl, ?_⟩⟩
          have s5 : Same H4 H5 := fun q o e => ho q o (ne_of_none e hx) (sx5 q o e)
          refine tNil_of ?_
          have al := hpm.alike (from_ok ok hq)
          have F' := hpm.fit (F.from_ hq)
          obtain ⟨SG, sm⟩ := F'.small
          have hrd : ∀ u, R'.read u = (R.from_ q).read u := fun u => al.read u
          have x5 := x4.trans (ExtN.of s5)
          have hse5 := s5 _ _ (s2 _ _ hse)
          have hfd5 := s5 _ _ (s2 _ _ hfy)
          refine ⟨x, R', SG, rfl, hR, F'.ok, sm, (ty.ext s2).ext s5, fun tl H6 hL x6 t6 => ?_, fun hno H6 x6 t6 => ?_⟩
          · have hLq : Least (fun u => ∃ row, (R.from_ q).read u = some row) tl := hL.imp fun u => by rw [hrd]
            have htl := tail_short ok hq hLq
            obtain ⟨row0, hr0⟩ := hLq.1
            obtain ⟨e0, hv0, he0⟩ := from_read.mp hr0
            obtain ⟨⟨row1, hw1⟩, hw2, hw3⟩ := way_all hrun hv0 he0
            have x06 := x5.trans x6
            have hwl2 := way_len (R := R) (w := wd ++ tl)
            rw [List.length_append] at hwl2
            refine ⟨_, rfl, rfl, true, rfl, iteT ?_⟩
            refine ⟨_, rfl, _, rfl, _, rfl, _, rfl, S wd, S tl, rfl, rfl, ?_, ?_⟩
            · rw [S_len, S_len]
              exact Nat.le_of_lt (lt_line (by omega))
            refine tNil_of ?_
            refine ⟨m, R, wd ++ tl, by rw [S_app]; rfl, hM.xt x06, ok, by rw [List.length_append]; omega, fun row p tp wy H7 hr7 hp7 s7 hpt htp hwy => ?_, fun hno => by rw [hw1] at hno; cases hno⟩
            refine ⟨p, _, (1 : Int), _, rfl, rfl, SqT.of hpt, rfl, ?_⟩
            have hse6 := s7 _ _ (x6 _ _ hse5 fun _ z => (nomatch z))
            refine ⟨se, wy, _, _, rfl, rfl, hse6, hwy, ?_, fun q9 hq9 => ?_⟩
            · rw [List.length_map, List.length_map]
              exact Nat.le_of_lt (lt_line (by omega))
            have s9 := s7.trans (Same.new (o := .lst (natsV Z ++ natsV (wayOf R (wd ++ tl)))) hq9)
            refine ⟨x06.trans (ExtN.of s9), t6.ext s9, s9 _ _ (x6 _ _ hfd5 fun _ z => (nomatch z)), q9, Z ++ wayOf R (wd ++ tl), by rw [upd_same, natsV_app], ?_, fun y hy => ?_, fun p hp hce => ?_, _, _, _, _, _, _, _, _, rfl⟩
            · rw [List.length_append]
              omega
            · rcases List.mem_append.mp hy with z | z
              · exact hZu y z
              · exact hw3 y z
            · rw [tk] at hp
              rcases List.mem_append.mp hp with z | z
              · exact List.mem_append_left _ (hZa p z hce)
              · have := List.mem_singleton.mp z
                subst this
                exact List.mem_append_right _ hw2
          · have x06 := x5.trans x6
            refine ⟨_, rfl, rfl, false, rfl, iteF ⟨x06, t6, x6 _ _ hfd5 fun _ z => (nomatch z), se, Z, x6 _ _ hse5 fun _ z => (nomatch z), by omega, hZu, fun p hp hce => ?_, _, _, _, _, _, _, _, _, rfl⟩⟩
            rw [tk] at hp
            rcases List.mem_append.mp hp with z | z
            · exact hZa p z hce
            · have := List.mem_singleton.mp z
              subst this
              obtain ⟨v, r2, e, hv, he⟩ := hce
              have hrv : (R.from_ q).read v = some r2 := from_read.mpr ⟨e, hv, he⟩
              rw [← hrd, hno v] at hrv
              cases hrv
      · obtain ⟨xy, ty, hfy, se, Z, hse, hZl, hZu, hZa, u3, u6, u7, u8, u9, u10, u11, u12, rfl⟩ := hp
        rw [List.length_map] at hZl hZa
        rw [List.take_length] at hZa
        have hml := hM.xt xy
        obtain ⟨ml, sl, ds, o1, o2, hm, hml, hsl, hds⟩ := hml.ex
        refine ⟨_, rfl, _, rfl, m, _, (2 : Int), _, rfl, rfl, SqT.of hm, rfl, by show 1 ≤ sizeLine; decide, fun l1 hl1 => ?_⟩
        have s1 : Same Hy (upd Hy l1 (.lst [.int (R.start : Int)])) := Same.new hl1
        refine ⟨se, l1, _, _, rfl, rfl, s1 _ _ hse, upd_same, ?_, fun q1 hq1 => ?_⟩
        · rw [List.length_map]
          exact Nat.le_of_lt (lt_line (by show Z.length + 1 < 1000; omega))
        have s2 := s1.trans (Same.new (o := .lst (natsV Z ++ [V.int (R.start : Int)])) hq1)
        have hZk : natsV Z ++ [V.int (R.start : Int)] = (((Z ++ [R.start]).map fun n : Nat => (n : Int)).map (Sum.inl : Int → Key)).map kV := by
          rw [kV_ints, natsV_int, natsV_app]
          rfl
        have hUs : ∀ x ∈ Z ++ [R.start], Useful R x := fun x hx => by
          rcases List.mem_append.mp hx with z | z
          · exact hZu x z
          · rw [List.mem_singleton.mp z]
            exact ⟨reached_start R, .inr rfl⟩
        refine ⟨q1, ((Z ++ [R.start]).map fun n : Nat => (n : Int)).map Sum.inl, ((List.range 6).map fun n : Nat => (n : Int)).map Sum.inl, rfl, SqL.of ?_, fun k hk => ?_, ?_, fun sp c hc hsp => ?_⟩
        · rw [upd_same, hZk]
        · obtain ⟨i, hi, rfl⟩ := List.mem_map.mp hk
          obtain ⟨n, hn, rfl⟩ := List.mem_map.mp hi
          have := (hUs n hn).1.lt ok
          exact List.mem_map_of_mem (List.mem_map_of_mem (f := fun n : Nat => (n : Int)) (List.mem_range.mpr (by omega)))
        · rw [List.length_map, List.length_map, List.length_append]
          show Z.length + 1 + 1 < 4096
          omega
        · rw [List.length_map, List.length_map, List.length_range] at hc
          refine ⟨sp, _, c, rfl, upd_same, by omega, fun k hk => ?_, fun ns gp hns hmem hnl hgp => ?_⟩
          · obtain ⟨i, _, e⟩ := List.mem_map.mp (of_decide_eq_true hk)
            exact ⟨i, e.symm⟩
          · have hmem2 : ∀ i : Int, i ∈ ns ↔ ∃ g : Nat, i = (g : Int) ∧ g ∈ Z ++ [R.start] := fun i => by
              rw [hmem i, inl_mem, decide_eq_true_iff, List.mem_map]
              constructor
              · rintro ⟨g, hg, rfl⟩
                exact ⟨g, rfl, hg⟩
              · rintro ⟨g, rfl, hg⟩
                exact ⟨g, hg, rfl⟩
            obtain ⟨gs, rfl⟩ := nats_of ns fun i hi => let ⟨g, e, _⟩ := (hmem2 i).mp hi; ⟨g, e⟩
            have hgs : ∀ g, g ∈ gs ↔ g ∈ Z ++ [R.start] := fun g => by
              constructor
              · intro hg
                obtain ⟨g', e, z⟩ := (hmem2 (g : Int)).mp (List.mem_map_of_mem hg)
                rw [natInt_inj _ _ e]
                exact z
              · intro hg
                obtain ⟨g', hg', e⟩ := List.mem_map.mp ((hmem2 (g : Int)).mpr ⟨g, rfl, hg⟩)
                exact natInt_inj _ _ e ▸ hg'
            have hgi : gs.Pairwise (· < ·) := by
              rw [List.pairwise_map] at hns
              exact hns.imp fun {a b} h => by omega
            have hgk : gs = kept := inc_ext hgi hinc fun q => by
              rw [hgs, hkm]
              constructor
              · exact hUs q
              · rintro ⟨h1, h2 | h2⟩
                · obtain ⟨p, hp, e⟩ := List.mem_map.mp ((hall q).mpr h1)
                  subst e
                  exact List.mem_append_left _ (hZa p hp h2)
                · rw [h2]
                  exact List.mem_append_right _ List.mem_cons_self
            subst hgk
            have s3 := s2.trans (Same.new (o := SetK w sp (fun k => decide (k ∈ ((Z ++ [R.start]).map fun n : Nat => (n : Int)).map Sum.inl)) c) hsp)
            have s4 := Same.new (o := .lst ((gs.map fun n : Nat => (n : Int)).map V.int)) hgp
            have hkp4 := (hkp.xt xy).same (s3.trans s4)
            refine ⟨_, rfl, kp, _, rfl, .inr hkp4.sq, fun q5 hq5 => ?_⟩
            have s5 := s4.trans (Same.new (o := .lst (natsV gs)) hq5)
            refine ⟨.list ((gs.map fun n : Nat => (n : Int)).map PyData.int), .list ((gs.map fun n : Nat => (n : Int)).map PyData.int), .lst (SqL.of (Same.new hq5 _ _ upd_same)) (dpAll_ints _), .lst (SqL.of (by rw [upd_same, natsV_int])) (dpAll_ints _), ?_, ?_, ?_⟩
            · exact PySem.W.shaped_ints _
            · exact PySem.W.shaped_ints _
            have hq : PyData.eqv (.list ((gs.map fun n : Nat => (n : Int)).map PyData.int)) (.list ((gs.map fun n : Nat => (n : Int)).map PyData.int)) = true := eqv_ints _
            rw [hq]
            have s6 := s3.trans s5
            exact k _ (xy.trans (ExtN.of s6)) (ty.ext s6)
end
end K17
end TWP
section TWQ
set_option Elab.async false
set_option linter.all false
set_option maxRecDepth 100000
set_option maxHeartbeats 4000000
/-! For _law_right: outcomes of searches, tuples put together, tables that stand. -/
namespace K17
open PySem PySem.Spec PyProof.Rows L2 LamX NdefX
theorem TabN.fx {H H' : Hp} {p : Addr} {nm : Nat → Nat → Str} (t : TabN H p nm) (s : Fx H H') : TabN H' p nm := by
  obtain ⟨ps, h1, h2, h3⟩ := t
  exact ⟨ps, s _ _ h1 trivial, h2, fun pos cv hc => let ⟨c, e1, e2⟩ := h3 pos cv hc; ⟨c, e1, codeO_fx s e2⟩⟩
theorem TabsN.fx {T : List NTab} {H H' : Hp} (t : TabsN T H) (s : Fx H H') : TabsN T H' := fun p hp => TabN.fx (t p hp) s
theorem ExtN.updN {H H' : Hp} {p : Addr} {o : HO} (s : ExtN H H') (h : H p = none) : ExtN H (upd H' p o) := fun b u e n => by
  rw [upd_ne (ne_of_none e h)]
  exact s b u e n
/-- what a search finds: the least word, or none where there is no word -/
def OutO (P : Wd → Prop) : Option Wd → Prop
  | some w => Least P w
  | none => ∀ u, ¬ P u
def vO : Option Wd → V
  | some w => .str (S w)
  | none => .non
theorem OutO.eq {P : Wd → Prop} : ∀ {o o' : Option Wd}, OutO P o → OutO P o' → o = o'
  | none, none, _, _ => rfl
  | none, some w, h, h' => absurd h'.1 (h w)
  | some w, none, h, h' => absurd h.1 (h' w)
  | some w, some v, h, h' => by rw [Least.eq h h']
theorem vO_scal (o o' : Option Wd) : scal (vO o) (vO o') = true := by cases o <;> cases o' <;> rfl
/-- t + u, both made here, u not empty -/
def rCatN : R2 := fun x y H Q => ∃ a b xs ys, x = .ref a ∧ y = .ref b ∧ H a = some (.tup xs) ∧ H b = some (.tup ys) ∧ ys ≠ [] ∧ xs.length + ys.length ≤ sizeLine ∧ ∀ p H', Same H H' → H' p = some (.tup (xs ++ ys)) → Q (.ref p) H'
theorem op_catN {X : Cx} : OpR X (binaryOp .Add) rCatN := by
  intro pins s σ H x y v u Q I rx ry h
  obtain ⟨a, b, xs, ys, rfl, rfl, ha, hb, hy, hz, q⟩ := h
  exact op_catA pins s σ H _ _ v u Q I rx ry ⟨a, b, xs, ys, rfl, rfl, SqT.of ha, SqT.of hb, hz, fun e => q b H (fun _ _ e => e) (by rw [e]; exact hb), fun _ e => absurd e hy, fun _ _ p hp => q p _ (Same.new hp) upd_same⟩
/-- a statement, then the rest: what holds between them -/
theorem seq_cut {t1 t2 : TS} {D : Ends} {σ : L2.St} {H : Hp} (Pm : L2.St → Hp → Prop) (h1 : ∀ nx : L2.St → Hp → Prop, (∀ σ' H', Pm σ' H' → nx σ' H') → t1 { D with nx := nx } σ H) (h2 : ∀ σ' H', Pm σ' H' → t2 D σ' H') : tSeq t1 t2 D σ H := h1 _ h2
theorem name_cut {i : Nat} {v : V} {t1 t2 : TS} {D : Ends} {σ : L2.St} {H : Hp} (Pm : L2.St → Hp → Prop) (h1 : ∀ nx : L2.St → Hp → Prop, (∀ σ' H', Pm σ' H' → nx σ' H') → t1 { D with nx := nx } (σ.set i (some v)) H) (h2 : ∀ σ' H', Pm σ' H' → t2 D σ' H') : gName i v σ H (tSeq t1 t2 D) := h1 _ h2
theorem dpAll_nats {K : PySem.W.Frag} {H : Hp} : ∀ l : List Nat, DpAll K H (natsV l) ((l.map fun n : Nat => (n : Int)).map PyData.int)
  | [] => .nil
  | x :: l => .cons (.int _) (dpAll_nats l)
theorem shapedT_ints (ns : List Int) : SeqAt.shaped (.tuple (ns.map PyData.int)) = true := by
  have := PySem.W.shaped_ints ns
  unfold SeqAt.shaped at this ⊢
  simp only [PyData.canLay0, PyData.depth] at this ⊢
  exact this
section
variable {P : Program} {w : World} {K : PySem.W.Frag} {mg : Str → Option Value} {base : Heap}
theorem spLeast_any {H : Hp} {Q : VK} {E : XK} {r q : Addr} {R R1 : M} {row : List Str} (a : Alk K H r R R1) (hq : H q = some (.tup (strV row))) (hn : ∀ x ∈ row, isNm x = true) (hl : row.length ≤ 48) (hT : TabsN (TT K) H)
    (k : ∀ o H', OutO (fun u => R.read u = some row) o → ExtN H H' → TabsN (TT K) H' → Q (vO o) H') : spLeast K [.ref r, .ref q] H Q E := by
  obtain ⟨SG, sm⟩ := a.small
  refine ⟨r, q, R1, row, SG, rfl, a.at_, hq, a.ok, sm, hn, hl, hT, fun wd H' hL => k (some wd) H' (show Least (fun u => R.read u = some row) wd from Least.imp hL fun u => by rw [a.read]), fun hno H' => k none H' fun u hu => hno u (by rw [a.read]; exact hu)⟩
theorem spShort_any {H : Hp} {Q : VK} {E : XK} {r : Addr} {R R1 : M} (a : Alk K H r R R1) (hT : TabsN (TT K) H)
    (k : ∀ o H', OutO (fun u => ∃ row, R.read u = some row) o → ExtN H H' → TabsN (TT K) H' → Q (vO o) H') : spShort K [.ref r] H Q E := by
  obtain ⟨SG, sm⟩ := a.small
  refine ⟨r, R1, SG, rfl, a.at_, a.ok, sm, hT, fun wd H' hL => k (some wd) H' (show Least (fun u => ∃ row, R.read u = some row) wd from Least.imp hL fun u => by rw [a.read]), fun hno H' => k none H' fun u ⟨row, hu⟩ => ?_⟩
  have := hno u
  rw [a.read, hu] at this
  cases this
end
end K17
end TWQ
section TWR
set_option Elab.async false
set_option linter.all false
set_option maxRecDepth 100000
set_option maxHeartbeats 4000000
/-! _law_right. -/
namespace K17
open PySem PySem.Spec PyProof.Rows L2 LamX NdefX
section
variable {P : Program} {w : World} {K : PySem.W.Frag} {mg : Str → Option Value} {base : Heap}
def spRight (K : PySem.W.Frag) : Sp := fun vs H Q E => ∃ (g : Addr), vs = [.ref g] ∧ RngAt H g ∧ TabsN (TT K) H ∧ ∀ H1 H', Dr g H H1 → ExtN H1 H' → TabsN (TT K) H' → Q (.bl true) H'
def nRight : List Str := ["_law_rng_here", "_law_model_here", "_law_made", "_law_fresh", "_law_kept", "_law_abc", "_law_notes_here", "_law_cap", "_law_strange", "_law_first", "_law_some", "_law_told_here", "_law_note"]
theorem scRight : FnScope ["_law_rng_here", "_law_model_here", "_law_made", "_law_fresh", "_law_kept", "_law_abc", "_law_notes_here", "_law_cap", "_law_strange", "_law_first", "_law_some", "_law_told_here", "_law_note"] ["_law_rng_here"] (defScope (top 62)) := ⟨rfl, rfl, rfl, by decide +kernel, rfl, by decide +kernel, by decide +kernel⟩
theorem d_right (T : Tx K mg) (X : Rx K mg) (U : Ux K mg) (B : Tt K mg base) : Def P w K mg base CX0 12 "_law_right" ["_law_rng_here"] (spRight K) := by
  have Mo : Def P w K mg base CX0 5 "_law_model" ["_law_rng_here"] spModel := d_model T
  have Re : Def P w K mg base CX0 9 "_law_reader" ["_law_model_here"] (spMkReader K) := d_mkReader T X
  have Tr : Def P w K mg base CX0 9 "trimmed" ["reader"] (spTrim K) := d_trimmed T X
  have Si : Def P w K mg base CX0 1 "_law_signs" ["_law_model_here"] spSigns2 := d_signs2 T
  have No : Def P w K mg base CX0 3 "_law_notes" ["_law_rng_here", "_law_abc"] spNotes := d_notes T
  have Pg : Def P w K mg base CX0 11 "_law_pages_right" ["_law_model_here", "_law_made", "_law_fresh", "_law_notes_here", "_law_cap"] (spPages K) := d_pages T X U B
  have Us : Def P w K mg base CX0 4 "useful_states" ["reader"] (spUseful K) := d_useful T X
  have Lp : Def P w K mg base CX0 10 "least_page" ["reader", "row"] (spLeast K) := d_least T X B
  have Sh : Def P w K mg base CX0 10 "shortest_page" ["reader"] (spShort K) := d_short T X B
  have Rd : Def P w K mg base CX0 1 "_law_read" ["_law_model_here", "_law_note"] spRead := d_read T
  have Me : Def P w K mg base CX0 11 "_law_met" ["_law_made", "_law_kept", "_law_model_here"] (spMet K) := d_met T X B
  obtain ⟨mfd, MF, MB⟩ := f_rmarks (P := P) (w := w) (K := K) (mg := mg) (base := base) T X
  refine def_of T 44 62 ["_law_rng_here", "_law_model_here", "_law_made", "_law_fresh", "_law_kept", "_law_abc", "_law_notes_here", "_law_cap", "_law_strange", "_law_first", "_law_some", "_law_told_here", "_law_note"] rfl scRight (fun _ _ _ _ _ _ us hl => match us, hl with | [_], _ => rfl) (fun vs H Q E h => ?_) (fun f cdv A outer s H vs Q E hr h => ?_)
  · obtain ⟨g, rfl, _⟩ := h; rfl
  · obtain ⟨g, rfl, hg, hT, k⟩ := h
    have nd := scRight.nd
    have hu64 := hr.units
    have hu := hu_of hr
    refine ⟨_, PSs.nox (pss_cons (ps_set (i := 1) nd rfl (Or.inr rfl) (pd0 Mo hr (pa1 (pv 0))))
      (pss_cons (ps_set (i := 2) nd rfl (Or.inr rfl) (pd0 Re hr (pa1 (pv 1))))
      (pss_cons (ps_asg (pd0 Tr hr (pa1 (pv 2))) (g := gTup K 2 (gCons (gName 3) (gCons (gName 4) gNil))) (pg_tup rfl (pgs_cons (pg_name (i := 3) nd rfl (Or.inr rfl)) (pgs_cons (pg_name (i := 4) nd rfl (Or.inl rfl)) pgs_nil))))
      (pss_cons (ps_set (i := 5) nd rfl (Or.inl rfl) (pd0 Si hr (pa1 (pv 1))))
      (pss_cons (ps_asg (pe_tup (pa_cons (pd0 No hr (pa_cons (pv 0) (pa1 (pv 5)))) (pa1 (pe_ix ix_list (pe_lst (pa_cons pe_int (pa1 pe_int))) (pe_op op_sub (pB T b_len call_len_str (pa1 (pv 5))) pe_int) (fun _ _ => rfl))))) (g := gTup K 2 (gCons (gName 6) (gCons (gName 7) gNil))) (pg_tup rfl (pgs_cons (pg_name (i := 6) nd rfl (Or.inl rfl)) (pgs_cons (pg_name (i := 7) nd rfl (Or.inr rfl)) pgs_nil))))
      (pss_cons (ps_if (PW.pt (pw_or (pt_not (pt_val (pd0 Pg hr (pa_cons (pv 1) (pa_cons (pv 2) (pa_cons (pv 3) (pa_cons (pv 6) (pa1 (pv 7))))))))) (pw_or1 (pt_cmpR (op_neD hu64) (pd0 Us hr (pa1 (pv 2))) (pv 4) (nomark _))))) (pss_one ps_never) pss_nil)
      (pss_cons (ps_set (i := 8) nd rfl (Or.inl rfl) (pe_lst (pa_cons (pe_tup (pa1 pe_str)) (pa_cons (pe_op op_catN (pT T b_tuple call_tuple_of (pa1 (pe_op op_rep (pe_meth0 (pv 2) X.cls X.marks MF (hr.mono (by decide)) MB .nil pass0) pe_int))) (pe_tup (pa1 pe_str))) (pa1 (pe_tup (pa_cons pe_str (pa1 pe_str))))))))
      (pss_cons (ps_if (pt_val (pB T b_any (cr_any rfl) (pa1 (pe_lc (own := [("_law_told_here", 11)]) (g := gName 11) (tt := tYes) rfl nd (pi_list (pv 8)) (blkOk_by (own := [("_law_told_here", 11)]) (N := ["_law_rng_here", "_law_model_here", "_law_made", "_law_fresh", "_law_kept", "_law_abc", "_law_notes_here", "_law_cap", "_law_strange", "_law_first", "_law_some", "_law_told_here", "_law_note"]) (sc := defScope (top 62)) (by decide +kernel))
          (fun _ _ _ _ _ => pg_name (i := 11) nd rfl (Or.inl rfl)) (fun _ _ _ _ _ => pts_nil)
          (fun _ _ _ _ _ => pe_cmpR op_ne (pd0 Lp hr (pa_cons (pv 2) (pa1 (pv 11)))) (pd0 Lp hr (pa_cons (pv 3) (pa1 (pv 11)))) (nomark _)))))) (pss_one ps_never) pss_nil)
      (pss_cons (ps_set (i := 9) nd rfl (Or.inl rfl) (pd0 Sh hr (pa1 (pv 2))))
      (pss_cons (ps_if (PW.pt (pw_or (pt_cmpR op_ne (pv 9) (pd0 Sh hr (pa1 (pv 3))) (nomark _)) (pw_or1 (PW.pt (pw_and (pt_cmpR op_notN (pv 9) pe_non (nomark _)) (pw_and1 (pt_cmpR op_isN (pe_ix ix_tup (pd0 Rd hr (pa_cons (pv 1) (pa1 (pv 9)))) pe_int (fun _ _ => rfl)) pe_non (nomark _)))))))) (pss_one ps_never) pss_nil)
      (pss_cons (ps_setLc (i := 10) (own := [("_law_note", 12)]) (g := gName 12) (tt := tAnd (tTest (tOp (rI0 fun i j => .bl (decide (i ≤ j))) (tCB (fun xs H Q => ∃ z : Str, xs = [V.str z] ∧ z.length ≤ sizeLine ∧ Q (V.int (z.length : Int)) H) (tCons (tVar 12) tNil)) (tVar 7))) (tTest (tOp (fun x y H Q => y = .non ∧ Q (.bl (!decide (x = .non))) H) (tOp (rIxT K) (tCall spRead [] E0 (tCons (tVar 1) (tCons (tVar 12) tNil))) (tC (.int 0))) (tC .non)))) rfl nd rfl rfl (sw_true rfl rfl rfl (by decide +kernel)) (pi_list (pv 6)) (blkOk_by (own := [("_law_note", 12)]) (N := ["_law_rng_here", "_law_model_here", "_law_made", "_law_fresh", "_law_kept", "_law_abc", "_law_notes_here", "_law_cap", "_law_strange", "_law_first", "_law_some", "_law_told_here", "_law_note"]) (sc := defScope (top 62)) (by decide +kernel))
          (fun _ _ _ _ _ => pg_name (i := 12) nd rfl (Or.inl rfl)) (fun _ _ _ _ _ => pts_one (PW.pt (pw_and (pt_cmpR op_le (pB T b_len call_len_str (pa1 (pv 12))) (pv 7) (nomark _)) (pw_and1 (pt_cmpR op_notN (pe_ix (r := rIxT K) ix_tup (pd0 Rd hr (pa_cons (pv 1) (pa1 (pv 12)))) pe_int (fun _ _ => rfl)) pe_non (nomark _)))))) (fun _ _ _ _ _ => pv 12))
      (pss_cons (ps_if (PW.pt (pw_and (pt_cmpR (op_neNil hu) (pv 10) (pe_lst pa_nil) (nomark _)) (pw_and1 (pt_cmpR op_ne (pv 9) (pe_ix ix_list (pv 10) pe_int (fun _ _ => rfl)) (nomark _))))) (pss_one ps_never) pss_nil)
      (pss_one (ps_ret (pd0 Me hr (pa_cons (pv 2) (pa_cons (pv 4) (pa1 (pv 1))))))))))))))))))), ?_⟩
    refine ⟨_, rfl, g, rfl, hg, fun m H1 R d1 hm1 hMd => ?_⟩
    have F := hMd.fit
    have ok := F.ok
    have T1 := TabsN.fx hT (d1.fx hg)
    refine ⟨_, rfl, m, R, rfl, hm1, F, fun x H2 R1 s2 hx2 hp1 => ?_⟩
    have F1 := hp1.fit F
    have al1 := hp1.alike ok
    refine ⟨_, rfl, x, R1, rfl, hx2, F1, fun p fr kp H3 kept R2 s3 hp3 hfr3 hp2 hkp3 hinc hk => ?_⟩
    have F2 := hp2.fit (F1.trim hk)
    have al2 := hp2.alike (F1.trim hk).ok
    have hkm : ∀ q, q ∈ kept ↔ Useful R q := fun q => (hk.mem q).trans (al1.useful q)
    have s13 := s2.trans s3
    refine ⟨p, _, rfl, SqT.of hp3, rfl, _, _, rfl, _, _, rfl, rfl, ?_⟩
    refine ⟨_, rfl, m, R, rfl, hm1.same s13, hMd, fun Ab H4 s4 hA => ?_⟩
    have s14 := s13.trans s4
    have d4 := d1.trans (Dr.of d1.rng s14)
    refine ⟨_, rfl, _, rfl, g, Ab, rfl, d4.rng, hA.len, fun nl H5 ex hnl d5 hnl5 hexl hexa => ?_⟩
    have hcap : (Ab.length = 3 ∧ capOf Ab = 5) ∨ (Ab.length = 4 ∧ capOf Ab = 4) := by
      unfold capOf
      rcases hA.len with z | z
      · exact .inl ⟨z, by rw [if_pos z]⟩
      · exact .inr ⟨z, by rw [if_neg (by omega)]⟩
    have hat : atI [V.int 5, V.int 4] (((S Ab).length : Nat) - 3 : Int) = some (.int (capOf Ab : Int)) := by
      rw [S_len]
      rcases hcap with ⟨z1, z2⟩ | ⟨z1, z2⟩
      · rw [z1, z2]; rfl
      · rw [z1, z2]; rfl
    have hsl : (S Ab).length ≤ sizeLine := by rw [S_len]; exact Nat.le_of_lt (lt_line (by omega))
    have d05 := d4.trans d5
    refine ⟨by show 2 ≤ sizeLine; decide, fun q hq => ?_⟩
    refine ⟨_, rfl, S Ab, rfl, hsl, _, _, rfl, rfl, q, _, _, _, rfl, rfl, SqL.of upd_same, hat, by show 2 ≤ sizeLine; decide, fun tp htp => ?_⟩
    refine ⟨tp, _, rfl, SqT.of upd_same, rfl, _, _, rfl, _, _, rfl, rfl, ?_⟩
    have s6 : Same H5 (upd (upd H5 q (.lst [.int 5, .int 4])) tp (.tup [.ref nl, .int (capOf Ab : Int)])) := (Same.new hq).trans (Same.new htp)
    generalize upd (upd H5 q (.lst [.int 5, .int 4])) tp (.tup [.ref nl, .int (capOf Ab : Int)]) = H6 at s6
    have f06 : Fx H4 H6 := (d5.fx d4.rng).trans (Same.fx s6)
    have T6 := TabsN.fx (T1.ext s14) f06
    have hm6 : ModelAt H6 m R := (hm1.same s14).fx f06
    have hx6 : ReaderAt (RC K) H6 x R1 := ((hx2.same s3).same s4).fx f06
    have hfr6 : ReaderAt (RC K) H6 fr R2 := (hfr3.same s4).fx f06
    have hkp6 : TupZ H6 kp (natsV kept) := by
      obtain ⟨o, e, z⟩ := hkp3.same s4
      exact ⟨o, f06 _ _ e trivial, z⟩
    have hnl6 := s6 _ _ hnl5
    have a1 : Alk K H6 x R R1 := ⟨hx6, F1.ok, F1.small, fun u => al1.read u⟩
    have a2 : Alk K H6 fr R R2 := ⟨hfr6, F2.ok, F2.small, fun u => by rw [al2.read u, trim_read F1.ok hk u, al1.read u]⟩
    have d06 := d05.trans (Dr.of d05.rng s6)
    clear hat hsl s6 f06
    refine ⟨_, rfl, _, rfl, _, rfl, _, rfl, _, rfl, ?_⟩
    refine tNil_of ?_
    refine ⟨m, x, fr, nl, R, R1, R2, Ab, ex, rfl, hm6, F, a1, a2, hA, hnl6, hexl, hexa, T6, fun H7 x7 T7 => ⟨true, rfl, iteF ?_⟩⟩
    refine ⟨_, rfl, ?_⟩
    refine tNil_of ?_
    obtain ⟨SG, sm1⟩ := F1.small
    refine ⟨x, R1, SG, rfl, hx6.xt x7, F1.ok, sm1, fun p8 H8 qs hp8 s8 hz8 hqi hqm => ?_⟩
    have hqk : qs = kept := inc_ext hqi hinc fun q => (hqm q).trans (hk.mem q).symm
    subst hqk
    have x8 := x7.trans (ExtN.of s8)
    have T8 := T7.ext s8
    refine ⟨_, rfl, _, _, .tup hz8.sq (dpAll_nats qs), .tup ((hkp6.xt x8).sq) (dpAll_nats qs), shapedT_ints _, shapedT_ints _, false, ?_, iteF ?_⟩
    · have := eqv_ints (qs.map fun n : Nat => (n : Int))
      exact congrArg V.bl (by show (!PyData.eqvAll _ _) = false; rw [this]; rfl)
    refine ⟨by show 1 ≤ sizeLine; decide, fun p1 hp1n => ?_⟩
    have s9 : Same H8 (upd H8 p1 (.tup [.str "zzzzzzzz"])) := Same.new hp1n
    have hp1v : (upd H8 p1 (.tup [.str "zzzzzzzz"])) p1 = some (.tup (strV ["zzzzzzzz"])) := upd_same
    generalize upd H8 p1 (.tup [.str "zzzzzzzz"]) = H9 at s9 hp1v
    have x9 := x8.trans (ExtN.of s9)
    have hx9 := hx6.xt x9
    obtain ⟨dx, rt, et, rds, h1, h2, h3, h4⟩ := hx9.ex
    refine ⟨_, rfl, x, dx, _, rfl, h1, rfl, x, R1, rfl, hx9, F1, fun ml H10 ms hml s10 hms hms6 hmsk => ?_⟩
    have hrep : (List.replicate (3 : Int).toNat (strV ms)).flatten = strV (ms ++ (ms ++ ms)) := by
      show strV ms ++ (strV ms ++ (strV ms ++ [])) = _
      unfold strV
      rw [List.append_nil, List.map_append, List.map_append]
    refine ⟨ml, 3, _, rfl, rfl, hms, by decide, by decide, ?_, fun q1 hq1 => ?_⟩
    · rw [List.length_map]
      exact Nat.le_of_lt (lt_line (by show ms.length * 3 < 1000; omega))
    rw [hrep]
    refine ⟨q1, _, rfl, .inl ⟨SqL.of upd_same, fun q2 hq2 => ?_⟩⟩
    have s11 : Same H10 (upd (upd H10 q1 (.lst (strV (ms ++ (ms ++ ms))))) q2 (.tup (strV (ms ++ (ms ++ ms))))) := (Same.new hq1).trans (Same.new hq2)
    have hq2v : (upd (upd H10 q1 (.lst (strV (ms ++ (ms ++ ms))))) q2 (.tup (strV (ms ++ (ms ++ ms))))) q2 = some (.tup (strV (ms ++ (ms ++ ms)))) := upd_same
    generalize upd (upd H10 q1 (.lst (strV (ms ++ (ms ++ ms))))) q2 (.tup (strV (ms ++ (ms ++ ms)))) = H11 at s11 hq2v
    refine ⟨by show 1 ≤ sizeLine; decide, fun q3 hq3 => ?_⟩
    have s12 : Same H11 (upd H11 q3 (.tup [.str "zz"])) := Same.new hq3
    have hq3v : (upd H11 q3 (.tup [.str "zz"])) q3 = some (.tup (strV ["zz"])) := upd_same
    generalize upd H11 q3 (.tup [.str "zz"]) = H12 at s12 hq3v
    refine ⟨q2, q3, _, _, rfl, rfl, s12 _ _ hq2v, hq3v, fun z => (nomatch z), ?_, fun p2 H13 s13' hp2v => ?_⟩
    · rw [List.length_map, List.length_append, List.length_append]
      exact Nat.le_of_lt (lt_line (by show _ + 1 < 1000; omega))
    have hp2v : H13 p2 = some (.tup (strV ((ms ++ (ms ++ ms)) ++ [("zz" : Str)]))) := by
      rw [hp2v]
      unfold strV
      rw [List.map_append (l₁ := ms ++ (ms ++ ms))]
    refine ⟨by show 2 ≤ sizeLine; decide, fun p3 hp3n => ⟨by show 3 ≤ sizeLine; decide, fun sl hsln => ?_⟩⟩
    have s14' : Same H13 (upd H13 p3 (.tup [.str "a", .str "zzz"])) := Same.new hp3n
    have hp3v : (upd H13 p3 (.tup [.str "a", .str "zzz"])) p3 = some (.tup (strV ["a", "zzz"])) := upd_same
    have s15 := Same.new (o := .lst [.ref p1, .ref p2, .ref p3]) hsln
    have s9_13 := ((s10.trans s11).trans s12).trans s13'
    have s9_15 := s9_13.trans (s14'.trans s15)
    have hsl : (upd (upd H13 p3 (.tup [.str "a", .str "zzz"])) sl (.lst [.ref p1, .ref p2, .ref p3])) sl = some (.lst [.ref p1, .ref p2, .ref p3]) := upd_same
    have hpr : Paired (fun v row => ∃ q, v = V.ref q ∧ (upd (upd H13 p3 (.tup [.str "a", .str "zzz"])) sl (.lst [.ref p1, .ref p2, .ref p3])) q = some (.tup (strV row))) [V.ref p1, V.ref p2, V.ref p3] [[("zzzzzzzz" : Str)], (ms ++ (ms ++ ms)) ++ [("zz" : Str)], [("a" : Str), "zzz"]] :=
      .cons ⟨p1, rfl, s9_15 _ _ hp1v⟩ (.cons ⟨p2, rfl, s15 _ _ (s14' _ _ hp2v)⟩ (.cons ⟨p3, rfl, s15 _ _ hp3v⟩ .nil))
    generalize upd (upd H13 p3 (.tup [.str "a", .str "zzz"])) sl (.lst [.ref p1, .ref p2, .ref p3]) = H15 at s9_15 hsl hpr
    have hrow : ∀ row ∈ [[("zzzzzzzz" : Str)], (ms ++ (ms ++ ms)) ++ [("zz" : Str)], [("a" : Str), "zzz"]], (∀ z ∈ row, isNm z = true) ∧ row.length ≤ 48 := by
      have hmn : ∀ z ∈ ms ++ (ms ++ ms), isNm z = true := fun z hz => by
        have hz : z ∈ ms := by
          rcases List.mem_append.mp hz with y | y
          · exact y
          · rcases List.mem_append.mp y with y | y <;> exact y
        unfold isNm
        rw [hmsk z hz, Bool.or_true]
      intro row hr
      rcases List.mem_cons.mp hr with e | hr
      · subst e
        exact ⟨by decide +kernel, by decide⟩
      rcases List.mem_cons.mp hr with e | hr
      · subst e
        refine ⟨fun z hz => ?_, ?_⟩
        · rcases List.mem_append.mp hz with y | y
          · exact hmn z y
          · rw [List.mem_singleton.mp y]
            decide +kernel
        · rw [List.length_append, List.length_append, List.length_append]
          show _ + 1 ≤ 48
          omega
      · rw [List.mem_singleton.mp hr]
        exact ⟨by decide +kernel, by decide⟩
    have x15 := x9.trans (ExtN.of s9_15)
    have T15 := T8.ext (s9.trans s9_15)
    clear s9_13 s10 s11 s12 s13' s14' s15 hq2v hq3v hp2v hp3v hrep h1 h2 h3 h4
    refine ⟨_, rfl, sl, rfl, ⟨_, SqL.of hsl⟩, fun D hD => ?_⟩
    refine lc_it (walk_list (xs := [V.ref p1, V.ref p2, V.ref p3])) (fun j Hy => ExtN H15 Hy ∧ TabsN (TT K) Hy ∧ Hy D = some (.lst ((List.replicate j false).map V.bl)))
      ⟨ExtN.of (Same.new hD), T15.ext (Same.new hD), upd_same⟩ (fun j Hy _ hp => SqL.of (hp.1 _ _ hsl fun _ z => (nomatch z))) (fun j y Hy Hy' hj hp hy => ?_) (fun Hy hp => ?_)
    · obtain ⟨xy, ty, hdy⟩ := hp
      obtain ⟨rfl, hy⟩ := hy
      obtain ⟨row, hrw, q4, rfl, hq4⟩ := Paired.get1 hpr hy
      obtain ⟨hnm, hlen⟩ := hrow row (List.mem_of_getElem? hrw)
      have xy' := x15.trans xy
      refine ⟨rfl, _, rfl, _, rfl, ?_⟩
      refine tNil_of ?_
      refine spLeast_any (a1.xt xy') (xy _ _ hq4 fun _ z => (nomatch z)) hnm hlen ty fun o1 H17 ho1 x17 t17 => ?_
      have xy17 := xy'.trans x17
      refine ⟨_, rfl, _, rfl, ?_⟩
      refine tNil_of ?_
      refine spLeast_any (a2.xt xy17) (x17 _ _ (xy _ _ hq4 fun _ z => (nomatch z)) fun _ z => (nomatch z)) hnm hlen t17 fun o2 H18 ho2 x18 t18 => ?_
      have hoo := ho1.eq ho2
      subst hoo
      have hd18 := (x17.trans x18) _ _ hdy fun _ z => (nomatch z)
      refine ⟨?_, _, hd18, ?_, ExtN.updN (xy.trans (x17.trans x18)) hD, TabsN.fx t18 (Fx.put hd18 id), ?_⟩
      · exact vO_scal _ _
      · rw [List.length_map, List.length_replicate]
        have hj : j < 3 := hj
        exact lt_line (by omega)
      · rw [upd_same, List.replicate_succ', List.map_append, decide_eq_true (rfl : vO o1 = vO o1)]
        rfl
    · obtain ⟨xy, ty, hdy⟩ := hp
      refine ⟨D, List.replicate 3 false, rfl, SqL.of hdy, false, rfl, iteF ?_⟩
      have x16 := x15.trans xy
      refine ⟨_, rfl, ?_⟩
      refine tNil_of ?_
      refine spShort_any (a1.xt x16) ty fun o H17 ho x17 t17 => ?_
      have xx17 := x16.trans x17
      dsimp only
      refine name_cut (t1 := tIfS _ _ _) (D := { nx := fun _ H' => Q .non H', rt := Q }) (fun σ' H' => σ' = [some (.ref g), some (.ref m), some (.ref x), some (.ref fr), some (.ref kp), some (.str (S Ab)), some (.ref nl), some (.int (capOf Ab : Int)), some (.ref sl), some (vO o), none, none, none] ∧ ExtN H6 H' ∧ TabsN (TT K) H') (fun nx hnx => ?_) (fun σ' Hy hp => ?_)
      · refine ⟨_, rfl, _, rfl, ?_⟩
        refine tNil_of ?_
        refine spShort_any (a2.xt xx17) t17 fun o2 H18 ho2 x18 t18 => ?_
        have hoo := ho.eq ho2
        subst hoo
        have xx18 := xx17.trans x18
        refine ⟨vO_scal _ _, false, by rw [decide_eq_true (rfl : vO o = vO o)]; rfl, iteF ?_⟩
        cases o with
        | none => exact ⟨_, rfl, rfl, false, rfl, iteF (iteF (hnx _ _ ⟨rfl, xx18, t18⟩))⟩
        | some v =>
          refine ⟨_, rfl, rfl, true, rfl, iteT ?_⟩
          refine ⟨_, rfl, _, rfl, ?_⟩
          refine tNil_of ?_
          obtain ⟨row, hrow⟩ := ho.1
          have hvl := tail_short ok ok.start (w := v) ho
          have h6 := F.six
          refine spRead_of (v := v) (hm6.xt xx18) ok (by omega) fun p xv yv H19 s19 hp hxv => ?_
          rw [hrow] at hxv
          obtain ⟨q5, rfl, hq5⟩ := hxv
          exact ⟨p, _, (0 : Int), _, rfl, rfl, SqT.of hp, rfl, rfl, false, rfl, iteF (hnx _ _ ⟨rfl, xx18.trans (ExtN.of s19), t18.ext s19⟩)⟩
      · obtain ⟨rfl, xy, ty⟩ := hp
        have hnly := xy _ _ hnl6 fun _ z => (nomatch z)
        have hmy := hm6.xt xy
        have hall : ∀ v ∈ allW Ab (capOf Ab) ++ ex, v.length ≤ 40 := fun v hv => by
          rcases List.mem_append.mp hv with z | z
          · have := (allW_mem.mp z).1
            omega
          · exact (hexa v z).1
        have hfit := fits Ab (capOf Ab) hcap (capOf Ab) (Nat.le_refl _)
        have hwsl : (allW Ab (capOf Ab) ++ ex).length ≤ 450 := by rw [List.length_append]; omega
        generalize hws : allW Ab (capOf Ab) ++ ex = ws at hnly hall hwsl
        refine ⟨_, rfl, nl, rfl, ⟨_, SqL.of hnly⟩, fun ls hls => ?_⟩
        refine lc_it (walk_list (xs := wdsV ws)) (fun j Hz => Same Hy Hz ∧ Hz ls = some (.lst (wdsV ((ws.take j).filter fun v => decide (v.length ≤ capOf Ab) && (R.read v).isSome))))
          ⟨Same.new hls, upd_same⟩ (fun j Hz _ hp => SqL.of (hp.1 _ _ hnly)) (fun j y Hz Hz' hj hp hy => ?_) (fun Hz hp => ?_)
        · obtain ⟨sz, hdz⟩ := hp
          obtain ⟨rfl, hx⟩ := hy
          rw [List.getElem?_map] at hx
          cases hv : ws[j]? with
          | none => rw [hv] at hx; cases hx
          | some v =>
            rw [hv] at hx
            obtain rfl : V.str (S v) = y := Option.some.inj hx
            have hv40 := hall v (List.mem_of_getElem? hv)
            have hsv : (S v).length ≤ sizeLine := by rw [S_len]; exact Nat.le_of_lt (lt_line (by omega))
            have tk : (ws.take (j + 1)).filter (fun v => decide (v.length ≤ capOf Ab) && (R.read v).isSome) = (ws.take j).filter (fun v => decide (v.length ≤ capOf Ab) && (R.read v).isSome) ++ [v].filter (fun v => decide (v.length ≤ capOf Ab) && (R.read v).isSome) := by rw [take_succ_of hv, List.filter_append]
            have hfl := List.length_filter_le (fun v : Wd => decide (v.length ≤ capOf Ab) && (R.read v).isSome) (ws.take j)
            rw [List.length_take] at hfl
            rw [tk]
            refine ⟨rfl, _, rfl, S v, rfl, hsv, _, rfl, _, _, rfl, rfl, ?_⟩
            by_cases hc : v.length ≤ capOf Ab
            · refine ⟨true, congrArg V.bl (decide_eq_true (by rw [S_len]; omega)), iteT ?_⟩
              refine ⟨_, rfl, _, rfl, ?_⟩
              refine tNil_of ?_
              refine spRead_of (v := v) (hmy.same sz) ok (by omega) fun p xv yv Ha sa hpa hxv => ?_
              refine ⟨p, _, (0 : Int), _, rfl, rfl, SqT.of hpa, rfl, rfl, ?_⟩
              cases hr : R.read v with
              | none =>
                rw [hr] at hxv
                have hxv : xv = .non := hxv
                subst hxv
                have : [v].filter (fun v => decide (v.length ≤ capOf Ab) && (R.read v).isSome) = [] := by simp [hr]
                rw [this, List.append_nil]
                exact ⟨false, rfl, iteF ⟨sz.trans sa, sa _ _ hdz⟩⟩
              | some row =>
                rw [hr] at hxv
                obtain ⟨q5, rfl, hq5⟩ := hxv
                have : [v].filter (fun v => decide (v.length ≤ capOf Ab) && (R.read v).isSome) = [v] := by simp [hr, hc]
                rw [this]
                refine ⟨true, rfl, iteT ⟨_, rfl, _, sa _ _ hdz, ?_, Same.updN (sz.trans sa) hls, ?_⟩⟩
                · rw [List.length_map]
                  exact lt_line (by omega)
                · rw [upd_same, wdsV_app]
                  rfl
            · refine ⟨false, congrArg V.bl (decide_eq_false (by rw [S_len]; omega)), iteF (iteF ?_)⟩
              have : [v].filter (fun v => decide (v.length ≤ capOf Ab) && (R.read v).isSome) = [] := by simp [hc]
              rw [this, List.append_nil]
              exact ⟨sz, hdz⟩
        · obtain ⟨sz, hdz⟩ := hp
          rw [List.length_map, List.take_length] at hdz
          have xz := xy.trans (ExtN.of sz)
          have tz := ty.ext sz
          dsimp only
          refine name_cut (t1 := tIfS _ _ _) (D := { nx := fun _ H' => Q .non H', rt := Q }) (fun σ' H' => σ' = [some (.ref g), some (.ref m), some (.ref x), some (.ref fr), some (.ref kp), some (.str (S Ab)), some (.ref nl), some (.int (capOf Ab : Int)), some (.ref sl), some (vO o), some (.ref ls), none, none] ∧ ExtN H6 H' ∧ TabsN (TT K) H') (fun nx hnx => ?_) (fun σ' He hp => ?_)
          · refine ⟨_, rfl, Nat.zero_le _, fun e0 he0 => ⟨ls, e0, _, rfl, rfl, SqL.of (Same.new he0 _ _ hdz), SqL.of upd_same, ?_⟩⟩
            have se : Same Hz (upd Hz e0 (.lst [])) := Same.new he0
            generalize upd Hz e0 (.lst []) = He at se
            cases hfw : ws.filter (fun v => decide (v.length ≤ capOf Ab) && (R.read v).isSome) with
            | nil => exact ⟨false, rfl, iteF (iteF (hnx _ _ ⟨rfl, xz.trans (ExtN.of se), tz.ext se⟩))⟩
            | cons v l =>
              obtain ⟨a, b, e, hna, hgv, _⟩ := List.filter_eq_cons_iff.mp hfw
              obtain ⟨g1, g2⟩ := Bool.and_eq_true_iff.mp hgv
              have hcv := of_decide_eq_true g1
              obtain ⟨row, hrow⟩ := Option.isSome_iff_exists.mp g2
              have hL' : Least (fun u => u.length ≤ capOf Ab ∧ ∃ row, R.read u = some row) v := first_least hA (fun u h => h.2) (hws.trans e) ⟨hcv, row, hrow⟩ hcv fun u hu hP => by
                obtain ⟨ru, hru⟩ := hP.2
                have := hna u hu
                simp [hP.1, hru] at this
              have hL : OutO (fun u => ∃ row, R.read u = some row) (some v) := (show Least (fun u => ∃ row, R.read u = some row) v from ⟨⟨row, hrow⟩, fun u hu hlt => hL'.2 u ⟨by rcases hlt with z | ⟨z, _⟩ <;> omega, hu⟩ hlt⟩)
              have hov := ho.eq hL
              subst hov
              rw [hfw] at hdz
              refine ⟨true, rfl, iteT ?_⟩
              refine ⟨_, rfl, _, rfl, ls, _, (0 : Int), _, rfl, rfl, SqL.of (se _ _ hdz), (show atI (wdsV (v :: l)) ((0 : Nat) : Int) = some (V.str (S v)) from atI_nat rfl), (show scal (vO (some v)) (V.str (S v)) = true from rfl), false, ?_, iteF (hnx _ _ ⟨rfl, xz.trans (ExtN.of se), tz.ext se⟩)⟩
              exact congrArg V.bl (by rw [decide_eq_true (show vO (some v) = V.str (S v) from rfl)]; rfl)
          · obtain ⟨rfl, xe, te⟩ := hp
            refine ⟨_, rfl, _, rfl, _, rfl, ?_⟩
            refine tNil_of ?_
            exact ⟨x, kp, m, R, qs, rfl, hm6.xt xe, F, hkp6.xt xe, hinc, hkm, te, fun H' xh th => k H6 H' d06 (xe.trans xh) th⟩
end
end K17
end TWR
section TWS
set_option Elab.async false
set_option linter.all false
set_option maxRecDepth 100000
set_option maxHeartbeats 4000000
/-! law. -/
namespace K17
open PySem PySem.Spec PyProof.Rows L2 LamX NdefX
section
variable {P : Program} {w : World} {K : PySem.W.Frag} {mg : Str → Option Value} {base : Heap}
/-- what is kept at one place -/
def KeepA (a : Addr) (H H' : Hp) : Prop := ∀ u, H a = some u → (∀ ps, u ≠ .tbl ps) → H' a = some u
theorem SqL.kept {H H' : Hp} {a : Addr} {xs : List V} (h : SqL K H a xs) (k : KeepA a H H') : SqL K H' a xs := by
  rcases h with (h | ⟨o, h⟩) | h
  · exact .inl (.inl (k _ h fun _ z => nomatch z))
  · exact .inl (.inr ⟨o, k _ h fun _ z => nomatch z⟩)
  · exact .inr h
def spLaw (K : PySem.W.Frag) : Sp := fun vs H Q E => ∃ (a : Addr) (ns : List Int), vs = [.ref a] ∧ SqL K H a (ns.map V.int) ∧ TabsN (TT K) H ∧ ∀ H', Q (.bl true) H'
theorem scLaw : FnScope ["_law_script", "_law_k"] ["_law_script"] (defScope (top 63)) := ⟨rfl, rfl, rfl, by decide +kernel, rfl, by decide +kernel, by decide +kernel⟩
theorem ok_law (T : Tx K mg) (X : Rx K mg) (U : Ux K mg) (B : Tt K mg base) {fd : FuncData} (F : FunD K "law" "law" (defArgs (top 63)) (defBody (top 63)) (defScope (top 63)) [] [] (He.ga K "law") fd) : FnOk P w K mg base CX0 13 (He.ga K "law") fd ["_law_script"] (spLaw K) := by
  have Ri : Def P w K mg base CX0 12 "_law_right" ["_law_rng_here"] (spRight K) := d_right T X U B
  have Rn : Def P w K mg base CX0 1 "_law_rng" ["_law_script", "_law_k"] (spRng K) := d_rng T
  refine F.ok scLaw (fun vs H Q E h => ?_) (fun cdv A outer s H vs Q E hr h => ?_)
  · obtain ⟨a, ns, rfl, _⟩ := h; rfl
  · obtain ⟨a, ns, rfl, hS, hT, k⟩ := h
    have nd := scLaw.nd
    refine ⟨_, pss_one (ps_ret (pB T b_all (cr_all rfl) (pa1 (pe_lc (own := [("_law_k", 1)]) (g := gName 1) (tt := tYes) rfl nd (pi_range1 rfl (T.f "range") (pa1 (pB T b_max (call_max2 rfl) (pa_cons pe_int (pa1 (pB T b_min (call_min2 rfl) (pa_cons (pB T b_len call_len_seq (pa1 (pv 0))) (pa1 pe_int)))))))) (blkOk_by (own := [("_law_k", 1)]) (N := ["_law_script", "_law_k"]) (sc := defScope (top 63)) (by decide +kernel))
      (fun _ _ _ _ _ => pg_name (i := 1) nd rfl (Or.inl rfl)) (fun _ _ _ _ _ => pts_nil) (fun _ _ _ _ _ => pd0 Ri hr (pa1 (pd0 Rn hr (pa_cons (pv 0) (pa1 (pv 1)))))))))), ?_⟩
    refine ⟨_, rfl, a, _, rfl, .inl hS, _, _, rfl, ?_⟩
    refine ⟨_, _, rfl, ?_⟩
    obtain ⟨n, hn, hn3⟩ : ∃ n : Nat, (if (if (3 : Int) < ((ns.map V.int).length : Int) then (3 : Int) else ((ns.map V.int).length : Int)) > 1 then (if (3 : Int) < ((ns.map V.int).length : Int) then (3 : Int) else ((ns.map V.int).length : Int)) else 1) = (n : Int) ∧ n ≤ 3 := by
      generalize (ns.map V.int).length = L
      by_cases h3 : (3 : Int) < (L : Int)
      · rw [if_pos h3]
        exact ⟨3, rfl, Nat.le_refl _⟩
      · rw [if_neg h3]
        by_cases h1 : (L : Int) > 1
        · rw [if_pos h1]
          exact ⟨L, rfl, by omega⟩
        · rw [if_neg h1]
          exact ⟨1, rfl, by decide⟩
    refine ⟨(n : Int), congrArg (fun z => [V.int z]) hn, by omega, by omega, fun D hD => ?_⟩
    refine lc_it (walk_range (n := n)) (fun j Hy => KeepA a H Hy ∧ TabsN (TT K) Hy ∧ Hy D = some (.lst ((List.replicate j true).map V.bl)))
      ⟨fun u hu _ => Same.new hD _ _ hu, hT.ext (Same.new hD), upd_same⟩ (fun _ _ _ _ => trivial) (fun j x Hy Hy' hj hp hy => ?_) (fun Hy hp => ?_)
    · obtain ⟨ky, ty, hdy⟩ := hp
      obtain ⟨rfl, hx⟩ := hy
      obtain rfl : x = .int ((j : Nat) : Int) := by
        rw [hx]
        show V.int (0 + (j : Int)) = _
        rw [Int.zero_add]
      refine ⟨rfl, _, rfl, _, rfl, ?_⟩
      refine tNil_of ?_
      refine ⟨a, ns, j, rfl, SqL.kept hS ky, by omega, fun l H1 hl s1 hg => ?_⟩
      refine tNil_of ?_
      refine ⟨l, rfl, hg, ty.ext s1, fun H2 H3 d2 x3 t3 => ?_⟩
      have hDl : D ≠ l := fun z => by rw [z, hl] at hdy; cases hdy
      have hd3 := x3 _ _ (d2.keep hDl (s1 _ _ hdy)) fun _ z => (nomatch z)
      refine ⟨_, hd3, ?_, fun u hu hnt => ?_, TabsN.fx t3 (Fx.put hd3 id), ?_⟩
      · rw [List.length_map, List.length_replicate]
        exact lt_line (by omega)
      · have h1 := ky u hu hnt
        have hal : a ≠ l := fun z => by rw [z, hl] at h1; cases h1
        rw [upd_ne (ne_of_none hu hD)]
        exact x3 _ _ (d2.keep hal (s1 _ _ h1)) hnt
      · rw [upd_same, List.replicate_succ', List.map_append]
        rfl
    · obtain ⟨ky, ty, hdy⟩ := hp
      refine ⟨D, List.replicate n true, rfl, SqL.of hdy, ?_⟩
      have : (List.replicate n true).all id = true := by simp
      rw [this]
      exact k Hy
end
end K17
end TWS
section TH1
set_option Elab.async false
set_option linter.all false
set_option maxRecDepth 100000
set_option maxHeartbeats 0
/-! The head: one run of the top in the kernel, read by a Hook. -/
namespace K17
open PySem PySem.Spec PyProof.Rows L2 LamX
/-! ### what is asked of the top -/
def topD (p : Str × Nat) : He.DefD := ⟨(p.1, none), p.1, p.1, defArgs (top p.2), defBody (top p.2), defScope (top p.2), [], []⟩
def dIni : He.DefD := ⟨("Reader", some "__init__"), "__init__", "Reader.__init__", defArgs (mth 1), defBody (mth 1), defScope (mth 1), [.adr (He.dflAt ("Reader", some "__init__") 0)], [("start", .int 0)]⟩
def dMrk : He.DefD := ⟨("Reader", some "marks"), "marks", "Reader.marks", defArgs (mth 9), defBody (mth 9), defScope (mth 9), [], []⟩
def dLen : He.DefD := ⟨("Reader", some "__len__"), "__len__", "Reader.__len__", defArgs (mth 10), defBody (mth 10), defScope (mth 10), [], []⟩
def dUin : He.DefD := ⟨("Unreadable", some "__init__"), "__init__", "Unreadable.__init__", defArgs ust, defBody ust, defScope ust, [], []⟩
def hfn : List He.DefD := [dIni, dMrk, dLen, dUin] ++ defs.map topD
def hfa : List He.Fa := [.glo "Reader", .glo "Unreadable", .str "LETTERS" abc, .int "LONGEST_NAME" 8, .int "MOST_PAGE_SIGNS" 6, .int "MOST_TEXT_SIGNS" 4, .int "MOST_MARKS" 6, .cls "Reader", .mkr "Reader", .noat "Reader" "rows", .noat "Reader" "end_list", .noat "Reader" "own_start", .meth "Reader" "marks", .exm "Unreadable" "Unreadable" true, .keep "Unreadable"] ++ frees.map .free ++ defs.map fun p => .glo p.1
def oexB (K : PySem.W.Frag) (C : Addr) : Bool := match K.lookup C with
  | some ⟨.type t, _, .cls cd, sl⟩ => decide (t = "type") && (decide (cd.mro = .ref C :: rtTail) && (cd.hasDict && (!cd.hasDel && (match sl.toList with
    | [_, _, _, _, some (.builtin n), _] => decide (n = "RuntimeError.__new__")
    | _ => false))))
  | _ => false
theorem oexB_ok {K : PySem.W.Frag} {C : Addr} (h : oexB K C = true) : ∃ nm q N bs sn sub ab col dd k0 k1 k2 k3 k5, K.lookup C = some (excClassObj nm q C N bs rtTail true sn sub ab col dd k0 k1 k2 k3 k5 "RuntimeError.__new__") := by
  unfold oexB at h
  split at h
  · rename_i t dd cd sl lk
    obtain ⟨h1, h⟩ := Bool.and_eq_true_iff.mp h
    obtain ⟨h2, h⟩ := Bool.and_eq_true_iff.mp h
    obtain ⟨h3, h⟩ := Bool.and_eq_true_iff.mp h
    obtain ⟨h4, h5⟩ := Bool.and_eq_true_iff.mp h
    have h1 := of_decide_eq_true h1
    have h2 := of_decide_eq_true h2
    subst h1
    split at h5
    · rename_i k0 k1 k2 k3 n k5 hs
      have h5 := of_decide_eq_true h5
      subst h5
      obtain ⟨nm, bs, mro, ns, qn, hd, sn, sub, ab, col, del⟩ := cd
      dsimp only at h2 h3 h4
      subst h2 h3
      have hdel : del = false := by cases del <;> first | rfl | cases h4
      subst hdel
      have hsl : sl = #[k0, k1, k2, k3, some (.builtin "RuntimeError.__new__"), k5] := by
        obtain ⟨l⟩ := sl
        dsimp only at hs
        rw [hs]
      subst hsl
      exact ⟨nm, qn, ns, bs, sn, sub, ab, col, dd, k0, k1, k2, k3, k5, lk⟩
    · cases h5
  · cases h
def valB (a : Option PySem.W.CFound) (f : Value → Bool) : Bool := match a with
  | some (.val v) => f v
  | _ => false
theorem valB_ok {a : Option PySem.W.CFound} {f : Value → Bool} (h : valB a f = true) : ∃ v, a = some (.val v) ∧ f v = true := by
  unfold valB at h
  split at h
  · rename_i v
    exact ⟨v, rfl, h⟩
  · cases h
def isBi (n : String) : Value → Bool
  | .builtin m => decide (m = n)
  | _ => false
theorem isBi_ok {n : String} {v : Value} (h : isBi n v = true) : v = .builtin n := by
  unfold isBi at h
  split at h
  · rw [of_decide_eq_true h]
  · cases h
def moreB : List (PySem.W.Frag → Bool) := [
  fun K => He.eqO (PySem.W.findIn K (.ref (RC K)) "__len__") (some (some (.ref (He.ma K (RC K) "__len__")))),
  fun K => PySem.W.isFn K (.ref (He.ma K (RC K) "__len__")),
  fun K => PySem.W.readsIn K (RC K) (.type "type"),
  fun K => He.eqO (PySem.W.specialIn K (.ref (RC K)) "__getattribute__") (some (some (.builtin "type.__getattribute__"))),
  fun K => valB (PySem.W.findCls K (.ref (RC K)) (.type "type") "MAX_STATES") (He.relB (.int 12)),
  fun K => oexB K (UC K),
  fun K => He.eqO (PySem.W.findIn K (.ref (UC K)) "__setattr__") (some (some (.builtin "object.__setattr__"))),
  fun K => decide (PySem.W.subIn K (.ref (UC K)) (.type "BaseException") = some true),
  fun K => decide (PySem.W.typeIn K (.ref (UC K)) = some (.type "type")),
  fun K => He.eqO (PySem.W.findIn K (.ref (UC K)) "place") (some none),
  fun K => He.eqO (PySem.W.findIn K (.ref (UC K)) "__init__") (some (some (.ref (He.ma K (UC K) "__init__")))),
  fun K => decide (PySem.W.typeIn K (.ref (He.ma K (UC K) "__init__")) = some (.type "function")),
  fun K => valB (PySem.W.findCls K (.type "RuntimeError") (.type "type") "__init__") (isBi "RuntimeError.__init__"),
  fun K => !decide (tShort K = tLeast K)]
def hex (K : PySem.W.Frag) : Bool := moreB.all fun f => f K
def htf : List He.Defn := [("shortest_page", none), ("least_page", none)]
abbrev HR : PySem.W.OpenRow := PySem.W.OpenLaw.row PySem.Challenge.rw_sealedslots_k17_whole_trimmed_reads_the
/-- the written part: what the names reach, the statics beside it, the empty tables left out -/
def hK (g : Addr → Option Obj) : PySem.W.Frag := He.frT g (He5.asA g 5)
def hobs (g : Addr → Option Obj) : He.AlX := (He.obsT hfa hfn [] (hK g), hex (hK g) && He.tabsB g htf (hK g))
theorem hsays {w : World} {h : Heap} (e : hobs h.get? = He.valX hfn [] w) : He.SaysX hfa hfn [] htf hex w h (hK h.get?) := by
  obtain ⟨e1, e2⟩ := Prod.mk.inj e
  obtain ⟨m, tb⟩ := Bool.and_eq_true_iff.mp e2
  have at_ : ∀ p ∈ htf, PySem.W.codeHdIn (hK h.get?) (He.cT (hK h.get?) p).1 (He.cT (hK h.get?) p).2 = true ∧ ∃ o, h.get? (He.cT (hK h.get?) p).2 = some o ∧ He.emptyTab o = true := by
    intro p hp
    obtain ⟨a, b⟩ := Bool.and_eq_true_iff.mp (List.all_eq_true.mp tb p hp)
    refine ⟨a, ?_⟩
    generalize h.get? (He.cT (hK h.get?) p).2 = q at b
    cases q with
    | none => cases b
    | some o => exact ⟨o, rfl, b⟩
  exact {
    t := e1
    more := m
    hd := fun p hp => (at_ p hp).1
    out := fun p hp => let ⟨_, o, q, z⟩ := at_ p hp; He.frT_none q z
    empty := fun p hp => let ⟨_, o, q, z⟩ := at_ p hp; q.trans (congrArg some (He.emptyTab_eq z)) }
def hk : PySem.W.Hook where
  α := He.AlX
  obs := fun s => hobs s.heap.get?
  val := fun w => He.valX hfn [] w
  says := fun w h => ∃ K : PySem.W.Frag, K.In h ∧ He.SaysX hfa hfn [] htf hex w h K
  of := fun _ _ e => ⟨_, He.frT_in, hsays e⟩
  keeps := fun _ _ _ ⟨K, i, c⟩ k => ⟨K, PySem.W.Frag.In.keeps i k, { t := c.t, more := c.more, hd := c.hd, out := c.out, empty := fun p hp => k _ _ (c.empty p hp) }⟩
def hob (s : PySem.W.SharedT) : He.AlX := hobs (HandSHeadRun.getT s)
theorem hob_eq (s : PySem.W.SharedT) : hob s = hk.obs s.abs := congrArg hobs (funext (HandSHeadRun.getT_eq s))
def loose1 : List Str := ["_wall", "SlotsError", "InvalidReader", "InvalidState", "InvalidWord", "InvalidRow", "Unreadable", "LETTERS", "LONGEST_NAME", "MOST_PAGE_SIGNS", "MOST_TEXT_SIGNS", "MOST_MARKS", "is_word", "is_sign", "is_mark", "is_name", "is_row", "is_below", "are_different", "is_move", "is_state_dict", "told_in", "signs_in", "reader_problem", "Reader", "require_state", "require_word", "steps", "reading"]
def loose2 : List Str := ["later_groups", "least_walk", "least_page", "goals_of", "shortest_page", "reached_states", "ending_states", "useful_states", "trimmed", "_law_rng", "_law_draw", "_law_choice", "_law_letters", "_law_marks", "_law_any_format", "_law_family", "_law_bent", "_law_format", "_law_thinned", "_law_model", "_law_reader", "_law_texts", "_law_read", "_law_told", "_law_notes", "_law_least", "_law_pages_right", "_law_met", "_law_signs", "_law_right"]
def loose : List Str := loose1 ++ loose2
end K17
end TH1
section TH2
set_option Elab.async false
set_option linter.all false
set_option maxRecDepth 100000
set_option maxHeartbeats 0
/-! The head's run. -/
namespace K17
open PySem PySem.Spec PyProof.Rows L2 LamX
theorem hrun (w : World) : HandSHeadRun.RunEq HR (PySem.W.view HR.prog [63]) hk hob 4000 loose w := by
  intro os
  kernel_rfl
end K17
end TH2
section TH3
set_option Elab.async false
set_option linter.all false
set_option maxRecDepth 100000
set_option maxHeartbeats 0
/-! The facts of the top, as the defs want them. -/
namespace K17
open PySem PySem.Spec PyProof.Rows L2 LamX NdefX
section
variable {w : World} {K : PySem.W.Frag} {h : Heap} {mg : Str → Option Value} {base : Heap}
theorem fa1 {f : He.Fa} (hf : f ∈ ([.glo "Reader", .glo "Unreadable", .str "LETTERS" abc, .int "LONGEST_NAME" 8, .int "MOST_PAGE_SIGNS" 6, .int "MOST_TEXT_SIGNS" 4, .int "MOST_MARKS" 6, .cls "Reader", .mkr "Reader", .noat "Reader" "rows", .noat "Reader" "end_list", .noat "Reader" "own_start", .meth "Reader" "marks", .exm "Unreadable" "Unreadable" true, .keep "Unreadable"] : List He.Fa)) : f ∈ hfa :=
  List.mem_append_left _ (List.mem_append_left _ hf)
theorem says_tx (X : K.In h) (G : h.Ns mainGlobals mg) (c : He.SaysX hfa hfn [] htf hex w h K) : Tx K mg where
  def_ := fun p hp => c.t.d.defs (d := topD p) (List.mem_append_right _ (List.mem_map_of_mem hp))
  glo := fun p hp => He.glo_ok X G (c.t.d.facts (List.mem_append_right _ (List.mem_map.mpr ⟨p, hp, rfl⟩)))
  free := fun x hx => He.free_ok X G (c.t.d.facts (List.mem_append_left _ (List.mem_append_right _ (List.mem_map_of_mem hx))))
  letters := He.str_ok X G (c.t.d.facts (fa1 (by simp)))
  longest := He.int_ok X G (c.t.d.facts (fa1 (by simp)))
  mPage := He.int_ok X G (c.t.d.facts (fa1 (by simp)))
  mText := He.int_ok X G (c.t.d.facts (fa1 (by simp)))
  mMark := He.int_ok X G (c.t.d.facts (fa1 (by simp)))
theorem more_at (c : He.SaysX hfa hfn [] htf hex w h K) (i : Nat) {f : PySem.W.Frag → Bool} (hf : moreB[i]? = some f) : f K = true := List.all_eq_true.mp c.more f (List.mem_of_getElem? hf)
theorem says_rx (X : K.In h) (G : h.Ns mainGlobals mg) (c : He.SaysX hfa hfn [] htf hex w h K) : Rx K mg where
  gC := He.glo_ok X G (c.t.d.facts (fa1 (by simp)))
  cls := He.cls_ok (x := "Reader") (c.t.d.facts (fa1 (by simp)))
  mkr := He.mkr_ok (x := "Reader") (c.t.d.facts (fa1 (by simp)))
  ini := by
    obtain ⟨fd, F⟩ := c.t.d.defs (d := dIni) (List.mem_append_left _ (by simp))
    exact ⟨fd, _, F⟩
  nR := He.noat_ok (x := "Reader") (c.t.d.facts (fa1 (by simp)))
  nE := He.noat_ok (x := "Reader") (c.t.d.facts (fa1 (by simp)))
  nS := He.noat_ok (x := "Reader") (c.t.d.facts (fa1 (by simp)))
  marks := He.meth_ok (x := "Reader") (c.t.d.facts (fa1 (by simp)))
  marksD := c.t.d.defs (d := dMrk) (List.mem_append_left _ (by simp))
  len := He.eqO_ok (more_at c 0 rfl)
  lenF := more_at c 1 rfl
  lenD := c.t.d.defs (d := dLen) (List.mem_append_left _ (by simp))
  cr := by
    obtain ⟨v, e, r⟩ := valB_ok (more_at c 4 rfl)
    exact ⟨.type "type", ⟨more_at c 2 rfl, He.eqO_ok (more_at c 3 rfl)⟩, v, ⟨e, He.relB_ok r⟩⟩
theorem says_ux (X : K.In h) (G : h.Ns mainGlobals mg) (c : He.SaysX hfa hfn [] htf hex w h K) : Ux K mg where
  gC := He.glo_ok X G (c.t.d.facts (fa1 (by simp)))
  ox := {
    cls := oexB_ok (more_at c 5 rfl)
    sa := He.eqO_ok (more_at c 6 rfl)
    exC := of_decide_eq_true (more_at c 7 rfl)
    tyC := of_decide_eq_true (more_at c 8 rfl)
    kC := He.keep_ok (x := "Unreadable") (c.t.d.facts (fa1 (by simp))) }
  np := He.eqO_ok (more_at c 9 rfl)
  ini := He.eqO_ok (more_at c 10 rfl)
  iniF := of_decide_eq_true (more_at c 11 rfl)
  iniD := c.t.d.defs (d := dUin) (List.mem_append_left _ (by simp))
  vV := by
    obtain ⟨v, e, r⟩ := valB_ok (more_at c 12 rfl)
    rw [e, isBi_ok r]
  exm := He.exm_ok (x := "Unreadable") (y := "Unreadable") (c.t.d.facts (fa1 (by simp)))
theorem says_tt (c : He.SaysX hfa hfn [] htf hex w h K) (t : ∀ p ∈ htf.map (He.cT K), TabB base mg p.1 p.2) : Tt K mg base where
  ne := fun z => by
    have := more_at c 13 rfl
    rw [decide_eq_true z] at this
    cases this
  short := t _ (List.mem_map_of_mem (f := He.cT K) (a := (("shortest_page", none) : He.Defn)) (by simp [htf]))
  least := t _ (List.mem_map_of_mem (f := He.cT K) (a := (("least_page", none) : He.Defn)) (by simp [htf]))
theorem law_at (X : K.In h) (G : h.Ns mainGlobals mg) (c : He.SaysX hfa hfn [] htf hex w h K) : LawAtS PySem.Challenge.rw_sealedslots_k17_whole_trimmed_reads_the w K CX0 13 63 "_law_script" mg (He.ga K "law") h := by
  have T := says_tx X G c
  obtain ⟨fd, F⟩ := T.def_ ("law", 63) (List.mem_of_getElem? (show defs[45]? = some (("law" : PySem.Str), 63) from rfl))
  have b := FunD.bindsA (ps := ["_law_script"]) F fun _ _ _ _ _ _ us hl => match us, hl with | [_], _ => rfl
  refine ⟨fd, htf.map (He.cT K), spLaw K, fun p hp => ?_, fun p hp => ?_, fun p hp => ?_, fun s u => b s [u] rfl, fun H a ns _ _ hH hS => ⟨a, ns, rfl, hS, fun p hp => ?_, fun _ => rfl⟩, fun base _ _ t => ok_law T (says_rx X G c) (says_ux X G c) (says_tt c t) F⟩
  · obtain ⟨q, hq, rfl⟩ := List.mem_map.mp hp
    exact c.empty q hq
  · obtain ⟨q, hq, rfl⟩ := List.mem_map.mp hp
    exact c.out q hq
  · obtain ⟨q, hq, rfl⟩ := List.mem_map.mp hp
    exact PySem.W.codeHd_of_K X (c.hd q hq)
  · rcases List.mem_cons.mp hp with z | z
    · rw [z]
      exact TabN.nil (hH _ (List.mem_map_of_mem (f := He.cT K) (a := (("shortest_page", none) : He.Defn)) (by simp [htf])))
    · rw [List.mem_singleton.mp z]
      exact TabN.nil (hH _ (List.mem_map_of_mem (f := He.cT K) (a := (("least_page", none) : He.Defn)) (by simp [htf])))
end
end K17
end TH3
section TH4
set_option Elab.async false
set_option linter.all false
set_option maxRecDepth 100000
set_option maxHeartbeats 0
open PySem PySem.W PySem.Calls PyProof.Rows
theorem PySem.Challenge.cw_sealedslots_k17_whole_trimmed_reads_the_holds : PySem.Challenge.rw_sealedslots_k17_whole_trimmed_reads_the.Holds := by
  w_on; o_law
  refine HandSHeadRun.head_any (r := K17.HR) (q := view K17.HR.prog [63]) (H := K17.hk) (ob := K17.hob) (M := 4000) (loose := K17.loose) (d := HandSHeadRun.topDef K17.HR.prog 63) (kwd := []) K17.hob_eq
    (by kernel_rfl) (fun s => by kernel_rfl) K17.hrun (by kernel_rfl) (by kernel_rfl) (by kernel_rfl) (by rfl) (by first | assumption | decide +kernel) (by decide +kernel) ⟨rfl, rfl, rfl, rfl, rfl, by decide +kernel⟩ ?hw ?hc
  case hw => w_witness2
  case hc =>
    refine LamX.walk_ofTsE (l := PySem.Challenge.rw_sealedslots_k17_whole_trimmed_reads_the) (n := 63) (k := 13) (x := "_law_script") (CX := fun _ => L2.CX0) rfl (by decide) (by kernel_rfl) ⟨rfl, by decide, by decide⟩ ?F (fun _ _ _ _ _ z => z)
    intro w mg fa h Y G hmg0
    obtain ⟨K, KX, c⟩ := Y
    have hmg : mg ("law" : PySem.Str) = some (.ref fa) := by
      have e : (HandSHeadRun.topDef K17.HR.prog 63).name = ("law" : PySem.Str) := by kernel_rfl
      rw [← e]
      exact hmg0
    have e2 : fa = He.ga K "law" := by
      have := hmg.symm.trans ((K17.says_tx KX G c).glo ("law", 63) (List.mem_of_getElem? (show K17.defs[45]? = some (("law" : PySem.Str), 63) from rfl)))
      cases this
      rfl
    subst e2
    exact ⟨K, KX, K17.law_at KX G c⟩
end TH4
