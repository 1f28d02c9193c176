import PyProof.Rows.All
import Wide.All
import OpenK.AllK
import Wide.FinOn
import KE.KStateDown
import Lean
import HandS.ForMost
import HandS.ForExc
import HandS.Walk
import HandS.Zip
import HandS.TupAny
import HandS.DictComp
import HandS.ExcIs
import HandS.Codes
import HandS.Style
import HandS.NoneIn
import HandS.RaiseMore
import HandS.StrMore
import HandS.IsInst
import HandS.Replace
import HandS.New0
import HandS.Head0
import HandS.Head1
import HandS.Head2
import HandS.HeadEnd
import HandS.HeadHook1
import HandS.HeadHook2
import HandS.HeadHook3
import HandS.HeadHook4
import PySem.Challenge.RW_weighwalk_k96_whole_cheapest_at_a_desk
import KE.GoesEnum
import HandS.Conv
import HandS.Strs
import KE.DataMinMax
import HandS.ReplaceDef
import HandS.ReplaceLit
import HandS.ReplaceList
/-! Weighted walks over costs: accepted costs, their value, the Bellman-Ford facts. Plain Lean, no program in sight. -/
namespace BF

/-- the lesser sum -/
inductive R where
  | none | falls | least (w : Int)
  deriving DecidableEq

/-- the value of a set of costs -/
def ValS (S : Int → Prop) : R → Prop
  | .none => ∀ c, ¬ S c
  | .falls => ∀ B, ∃ c, S c ∧ c < B
  | .least w => S w ∧ ∀ c, S c → w ≤ c

/-- o is the least of S (none: S is empty) -/
def MinOf (S : Int → Prop) (o : Option Int) : Prop :=
  (o = Option.none → ∀ c, ¬ S c) ∧ ∀ w, o = some w → S w ∧ ∀ c, S c → w ≤ c

theorem MinOf.uniq {S : Int → Prop} {o o' : Option Int} (h : MinOf S o) (h' : MinOf S o') : o = o' := by
  cases o with
  | none =>
    cases o' with
    | none => rfl
    | some w => exact absurd (h'.2 w rfl).1 (h.1 rfl w)
  | some v =>
    cases o' with
    | none => exact absurd (h.2 v rfl).1 (h'.1 rfl v)
    | some w =>
      have a := (h.2 v rfl).2 w (h'.2 w rfl).1
      have b := (h'.2 w rfl).2 v (h.2 v rfl).1
      have e : v = w := by omega
      rw [e]

theorem MinOf.congr {S S' : Int → Prop} {o : Option Int} (h : MinOf S o) (e : ∀ c, S c ↔ S' c) : MinOf S' o :=
  ⟨fun ho c hc => h.1 ho c ((e c).mpr hc), fun w ho => ⟨(e w).mp (h.2 w ho).1, fun c hc => (h.2 w ho).2 c ((e c).mpr hc)⟩⟩

theorem ValS.uniq {S : Int → Prop} {r r' : R} (h : ValS S r) (h' : ValS S r') : r = r' := by
  cases r with
  | none =>
    cases r' with
    | none => rfl
    | falls => obtain ⟨c, hc, _⟩ := h' 0; exact absurd hc (h c)
    | least w => exact absurd h'.1 (h w)
  | falls =>
    cases r' with
    | none => obtain ⟨c, hc, _⟩ := h 0; exact absurd hc (h' c)
    | falls => rfl
    | least w => obtain ⟨c, hc, l⟩ := h w; have := h'.2 c hc; omega
  | least v =>
    cases r' with
    | none => exact absurd h.1 (h' v)
    | falls => obtain ⟨c, hc, l⟩ := h' v; have := h.2 c hc; omega
    | least w =>
      have a := h.2 w h'.1
      have b := h'.2 v h.1
      have e : v = w := by omega
      rw [e]

/-- every cost of T is met from below in S -/
def Und (S T : Int → Prop) : Prop := ∀ t, T t → ∃ s, S s ∧ s ≤ t

theorem ValS.of_und {S T : Int → Prop} {r : R} (h : ValS S r) (a : Und S T) (b : Und T S) : ValS T r := by
  cases r with
  | none => exact fun c hc => let ⟨s, hs, _⟩ := a c hc; h s hs
  | falls => exact fun B => let ⟨s, hs, l⟩ := h B; let ⟨t, ht, l2⟩ := b s hs; ⟨t, ht, by omega⟩
  | least w =>
    obtain ⟨t, ht, l⟩ := b w h.1
    obtain ⟨s, hs, l2⟩ := a t ht
    have l3 := h.2 s hs
    have e : t = w := by omega
    subst e
    exact ⟨ht, fun c hc => let ⟨s', hs', l4⟩ := a c hc; Int.le_trans (h.2 s' hs') l4⟩

/-- walks: so many steps, from, to, cost -/
inductive Wk (E : Nat → Nat → Int → Prop) : Nat → Nat → Nat → Int → Prop where
  | nil (i : Nat) : Wk E 0 i i 0
  | snoc {n i j k : Nat} {c d : Int} : Wk E n i j c → E j k d → Wk E (n + 1) i k (c + d)

section
variable {E E' : Nat → Nat → Int → Prop}

theorem Wk.cast {n n' i j : Nat} {c c' : Int} (h : Wk E n i j c) (hn : n = n') (hc : c = c') : Wk E n' i j c' := by
  subst hn hc; exact h
theorem Wk.one {i j : Nat} {c : Int} (h : E i j c) : Wk E 1 i j c := (Wk.snoc (Wk.nil i) h).cast rfl (by omega)
theorem Wk.zero {i j : Nat} {c : Int} (h : Wk E 0 i j c) : i = j ∧ c = 0 := by
  cases h; exact ⟨rfl, rfl⟩
theorem Wk.app {n m i j k : Nat} {c d : Int} (a : Wk E n i j c) (b : Wk E m j k d) : Wk E (n + m) i k (c + d) := by
  induction b with
  | nil => exact a.cast rfl (by omega)
  | snoc _ e ih => exact (Wk.snoc (ih a) e).cast (by omega) (by omega)
theorem Wk.cons {n i j k : Nat} {c d : Int} (e : E i j c) (b : Wk E n j k d) : Wk E (n + 1) i k (c + d) :=
  ((Wk.one e).app b).cast (by omega) rfl
theorem Wk.mono {n i j : Nat} {c : Int} (h : Wk E n i j c) (k : ∀ i j c, E i j c → E' i j c) : Wk E' n i j c := by
  induction h with
  | nil => exact .nil _
  | snoc _ e ih => exact .snoc ih (k _ _ _ e)
theorem Wk.uncons {n i k : Nat} {c : Int} (h : Wk E (n + 1) i k c) : ∃ j c1 d, E i j c1 ∧ Wk E n j k d ∧ c = c1 + d := by
  induction n generalizing k c with
  | zero =>
    cases h with
    | snoc a e =>
      obtain ⟨rfl, rfl⟩ := a.zero
      exact ⟨_, _, 0, e, .nil _, by omega⟩
  | succ n ih =>
    cases h with
    | snoc a e =>
      obtain ⟨j, c1, d1, e1, w, rfl⟩ := ih a
      exact ⟨j, c1, _, e1, .snoc w e, by omega⟩
/-- turned -/
theorem Wk.rev {n i j : Nat} {c : Int} (h : Wk E n i j c) : Wk (fun a b d => E b a d) n j i c := by
  induction h with
  | nil => exact .nil _
  | snoc _ e ih => exact (Wk.cons (E := fun a b d => E b a d) e ih).cast rfl (by omega)
/-- a ring, so many times -/
theorem Wk.rep {n i : Nat} {c : Int} (h : Wk E n i i c) (k : Nat) : ∃ m, Wk E m i i ((k : Int) * c) := by
  induction k with
  | zero => exact ⟨0, (Wk.nil i).cast rfl (by simp)⟩
  | succ k ih =>
    obtain ⟨m, w⟩ := ih
    refine ⟨m + n, (w.app h).cast rfl ?_⟩
    rw [Int.natCast_succ, Int.add_mul]; omega

/-- the rooms of a walk, and the costs so far -/
theorem Wk.path {n i j : Nat} {c : Int} (h : Wk E n i j c) : ∃ (g : Nat → Nat) (f : Nat → Int), g 0 = i ∧ g n = j ∧ f 0 = 0 ∧ f n = c ∧
    ∀ p q, p ≤ q → q ≤ n → Wk E (q - p) (g p) (g q) (f q - f p) := by
  induction h with
  | nil i =>
    refine ⟨fun _ => i, fun _ => 0, rfl, rfl, rfl, rfl, fun p q _ hq => ?_⟩
    exact (Wk.nil i).cast (by omega) (by show (0 : Int) = 0 - 0; rfl)
  | @snoc n i j k c d a e ih =>
    obtain ⟨g, f, g0, gn, f0, fn, w⟩ := ih
    refine ⟨fun x => if x ≤ n then g x else k, fun x => if x ≤ n then f x else c + d, ?_, ?_, ?_, ?_, ?_⟩
    · simp [g0]
    · exact if_neg (by omega)
    · simp [f0]
    · exact if_neg (by omega)
    · intro p q hpq hq
      by_cases hq' : q ≤ n
      · have hp' : p ≤ n := by omega
        simp only [hq', hp', if_true]
        exact w p q hpq hq'
      · have eq : q = n + 1 := by omega
        subst eq
        by_cases hp' : p ≤ n
        · have w1 := w p n hp' (Nat.le_refl n)
          rw [gn, fn] at w1
          simp only [hp', hq', if_true, if_false]
          exact (Wk.snoc w1 e).cast (by omega) (by omega)
        · have ep : p = n + 1 := by omega
          subst ep
          simp only [hq', if_false]
          exact (Wk.nil k).cast (by omega) (by omega)
end

/-! ### pigeons -/
theorem nodup_len {l us : List Nat} (nd : l.Nodup) (h : ∀ x ∈ l, x ∈ us) : l.length ≤ us.length := by
  induction l generalizing us with
  | nil => exact Nat.zero_le _
  | cons x l ih =>
    have hx := h x List.mem_cons_self
    rw [List.nodup_cons] at nd
    have := ih (us := us.erase x) nd.2 fun y hy => by
      have hne : y ≠ x := fun e => nd.1 (e ▸ hy)
      exact (List.mem_erase_of_ne hne).mpr (h y (List.mem_cons_of_mem _ hy))
    rw [List.length_erase_of_mem hx] at this
    have : 0 < us.length := List.length_pos_of_mem hx
    simp only [List.length_cons]
    omega

theorem pigeon {g : Nat → Nat} {us : List Nat} {n : Nat} (h : ∀ p, p ≤ n → g p ∈ us) (hn : us.length ≤ n) : ∃ p q, p < q ∧ q ≤ n ∧ g p = g q := by
  apply Classical.byContradiction
  intro no
  have nd : ((List.range (n + 1)).map g).Nodup := by
    unfold List.Nodup
    rw [List.pairwise_iff_getElem]
    intro i j hi hj hij e
    simp only [List.length_map, List.length_range] at hi hj
    simp only [List.getElem_map, List.getElem_range] at e
    exact no ⟨i, j, hij, by omega, e⟩
  have := nodup_len nd (us := us) fun x hx => by
    obtain ⟨p, hp, rfl⟩ := List.mem_map.mp hx
    exact h p (by have := List.mem_range.mp hp; omega)
  simp only [List.length_map, List.length_range] at this
  omega

/-! ### within some rooms -/
section
variable (st en : Nat → Option Int) (E : Nat → Nat → Int → Prop) (us : List Nat)
/-- the accepted costs -/
def Acc (c : Int) : Prop := ∃ i j a b n d, st i = some a ∧ Wk E n i j d ∧ en j = some b ∧ c = a + d + b
/-- steps within us -/
def In (i j : Nat) (c : Int) : Prop := i ∈ us ∧ j ∈ us ∧ E i j c
/-- costs of start and n steps within us to v -/
def S (n v : Nat) (c : Int) : Prop := ∃ u a d, u ∈ us ∧ st u = some a ∧ Wk (In E us) n u v d ∧ c = a + d
/-- the same by at most k steps -/
def T (k v : Nat) (c : Int) : Prop := ∃ m, m ≤ k ∧ S st E us m v c
def Fwd (v : Nat) : Prop := ∃ i a n d, st i = some a ∧ Wk E n i v d
def Bwd (v : Nat) : Prop := ∃ j b n d, en j = some b ∧ Wk E n v j d
end
section
variable {st en : Nat → Option Int} {E : Nat → Nat → Int → Prop} {us : List Nat}

theorem wk_in {n i j : Nat} {c : Int} (w : Wk (In E us) n i j c) (h : i ∈ us ∨ j ∈ us) : i ∈ us ∧ j ∈ us := by
  induction w with
  | nil => exact ⟨h.elim id id, h.elim id id⟩
  | snoc a e ih => exact ⟨(ih (.inr e.1)).1, e.2.1⟩

theorem S.zero {v : Nat} {c : Int} : S st E us 0 v c ↔ v ∈ us ∧ st v = some c := by
  constructor
  · rintro ⟨u, a, d, hu, ha, w, rfl⟩
    obtain ⟨rfl, rfl⟩ := w.zero
    exact ⟨hu, by rw [ha]; simp⟩
  · rintro ⟨hv, h⟩
    exact ⟨v, c, 0, hv, h, .nil v, by omega⟩
theorem S.succ {n v : Nat} {c : Int} : S st E us (n + 1) v c ↔ ∃ u c1 d, S st E us n u c1 ∧ In E us u v d ∧ c = c1 + d := by
  constructor
  · rintro ⟨u, a, d, hu, ha, w, rfl⟩
    cases w with
    | snoc w e => exact ⟨_, _, _, ⟨u, a, _, hu, ha, w, rfl⟩, e, by omega⟩
  · rintro ⟨u, c1, d, ⟨x, a, d1, hx, ha, w, rfl⟩, e, rfl⟩
    exact ⟨x, a, _, hx, ha, .snoc w e, by omega⟩
theorem S.mem {n v : Nat} {c : Int} (h : S st E us n v c) : v ∈ us := by
  obtain ⟨u, a, d, hu, _, w, _⟩ := h
  exact (wk_in w (.inl hu)).2

/-- a long walk has a ring -/
theorem split {n i j : Nat} {c : Int} (w : Wk (In E us) n i j c) (hi : i ∈ us) (hn : us.length ≤ n) :
    ∃ x n1 n2 n3 c1 c2 c3, Wk (In E us) n1 i x c1 ∧ Wk (In E us) n2 x x c2 ∧ Wk (In E us) n3 x j c3 ∧ 0 < n2 ∧ n = n1 + n2 + n3 ∧ c = c1 + c2 + c3 := by
  obtain ⟨g, f, g0, gn, f0, fn, hw⟩ := w.path
  have hin : ∀ p, p ≤ n → g p ∈ us := fun p hp => by
    have w1 := hw 0 p (Nat.zero_le p) hp
    rw [g0] at w1
    exact (wk_in w1 (.inl hi)).2
  obtain ⟨p, q, hpq, hq, e⟩ := pigeon hin hn
  have w1 := hw 0 p (Nat.zero_le p) (by omega)
  have w2 := hw p q (by omega) hq
  have w3 := hw q n hq (Nat.le_refl n)
  rw [g0] at w1
  rw [← e] at w2 w3
  rw [gn] at w3
  exact ⟨g p, _, _, _, _, _, _, w1, w2, w3, by omega, by omega, by rw [f0, fn]; omega⟩

/-- a ring below nought that is come to -/
def NegRing (st : Nat → Option Int) (E : Nat → Nat → Int → Prop) (us : List Nat) : Prop := ∃ x n c m c1, 0 < n ∧ Wk (In E us) n x x c ∧ c < 0 ∧ S st E us m x c1

theorem dom_or_ring (n : Nat) : ∀ v c, S st E us n v c → NegRing st E us ∨ ∃ m c', m < us.length ∧ S st E us m v c' ∧ c' ≤ c := by
  induction n using Nat.strongRecOn with
  | _ n ih =>
    intro v c h
    by_cases hn : n < us.length
    · exact .inr ⟨n, c, hn, h, Int.le_refl c⟩
    · obtain ⟨u, a, d, hu, ha, w, rfl⟩ := id h
      obtain ⟨x, n1, n2, n3, c1, c2, c3, w1, w2, w3, h2, rfl, rfl⟩ := split w hu (by omega)
      by_cases hc : c2 < 0
      · exact .inl ⟨x, n2, c2, n1, a + c1, h2, w2, hc, u, a, c1, hu, ha, w1, rfl⟩
      · rcases ih (n1 + n3) (by omega) v (a + (c1 + c3)) ⟨u, a, _, hu, ha, w1.app w3, rfl⟩ with r | ⟨m, c', hm, hs, hl⟩
        · exact .inl r
        · exact .inr ⟨m, c', hm, hs, by omega⟩
theorem reach_short (n : Nat) : ∀ v c, S st E us n v c → ∃ m c', m < us.length ∧ S st E us m v c' := by
  induction n using Nat.strongRecOn with
  | _ n ih =>
    intro v c h
    by_cases hn : n < us.length
    · exact ⟨n, c, hn, h⟩
    · obtain ⟨u, a, d, hu, ha, w, rfl⟩ := id h
      obtain ⟨x, n1, n2, n3, c1, c2, c3, w1, w2, w3, h2, rfl, rfl⟩ := split w hu (by omega)
      exact ih (n1 + n3) (by omega) v (a + (c1 + c3)) ⟨u, a, _, hu, ha, w1.app w3, rfl⟩

/-- a level that brings nothing: no later one does -/
theorem fixed {k : Nat} (h : ∀ v c, S st E us (k + 1) v c → ∃ c', T st E us k v c' ∧ c' ≤ c) : ∀ n v c, S st E us n v c → ∃ c', T st E us k v c' ∧ c' ≤ c := by
  intro n
  induction n with
  | zero => exact fun v c hs => ⟨c, ⟨0, Nat.zero_le k, hs⟩, Int.le_refl c⟩
  | succ n ih =>
    intro v c hs
    obtain ⟨u, c1, d, h1, e, rfl⟩ := S.succ.mp hs
    obtain ⟨c', ⟨m, hm, hs'⟩, hl⟩ := ih u c1 h1
    have s2 : S st E us (m + 1) v (c' + d) := S.succ.mpr ⟨u, c', d, hs', e, rfl⟩
    by_cases hmk : m + 1 ≤ k
    · exact ⟨c' + d, ⟨m + 1, hmk, s2⟩, by omega⟩
    · have em : m = k := by omega
      subst em
      obtain ⟨c2, t2, l2⟩ := h v (c' + d) s2
      exact ⟨c2, t2, by omega⟩

theorem falls_of_ring (h : NegRing st E us) (hb : ∀ v ∈ us, Bwd en (In E us) v) : ∀ B, ∃ c, Acc st en E c ∧ c < B := by
  obtain ⟨x, n, c, m, c1, hn, w, hc, u, a, d, hu, ha, wd, rfl⟩ := h
  obtain ⟨j, b, n3, d3, hj, w3⟩ := hb x (wk_in wd (.inl hu)).2
  intro B
  -- so many rings
  let k : Nat := (a + d + d3 + b - B).toNat + 1
  obtain ⟨m2, w2⟩ := w.rep k
  refine ⟨a + (d + ((k : Int) * c) + d3) + b, ⟨u, j, a, b, _, _, ha, ((wd.app w2).app w3).mono fun _ _ _ e => e.2.2, hj, by omega⟩, ?_⟩
  have hk : (k : Int) * c ≤ (k : Int) * (-1) := Int.mul_le_mul_of_nonneg_left (by omega) (Int.natCast_nonneg k)
  have hk2 : (a + d + d3 + b - B) < (k : Int) := by
    show _ < (((a + d + d3 + b - B).toNat + 1 : Nat) : Int)
    omega
  omega

/-! ### rooms of use -/
theorem wk_use (hus : ∀ v, v ∈ us ↔ Fwd st E v ∧ Bwd en E v) {n i j : Nat} {c : Int} (w : Wk E n i j c) (hi : Fwd st E i) (hj : Bwd en E j) : i ∈ us ∧ j ∈ us ∧ Wk (In E us) n i j c := by
  induction w with
  | nil => exact ⟨(hus _).mpr ⟨hi, hj⟩, (hus _).mpr ⟨hi, hj⟩, .nil _⟩
  | @snoc n i j k c d a e ih =>
    have hj' : Bwd en E j := by
      obtain ⟨x, b, m, d', hb, w'⟩ := hj
      exact ⟨x, b, _, _, hb, Wk.cons e w'⟩
    obtain ⟨h1, h2, w'⟩ := ih hi hj'
    have h3 : k ∈ us := by
      refine (hus _).mpr ⟨?_, hj⟩
      obtain ⟨i0, a0, n0, d0, ha0, w0⟩ := hi
      exact ⟨i0, a0, _, _, ha0, (w0.app a).snoc e⟩
    exact ⟨h1, h3, .snoc w' ⟨h2, h3, e⟩⟩
theorem acc_iff (hus : ∀ v, v ∈ us ↔ Fwd st E v ∧ Bwd en E v) {c : Int} : Acc st en E c ↔ ∃ n v b c1, S st E us n v c1 ∧ en v = some b ∧ c = c1 + b := by
  constructor
  · rintro ⟨i, j, a, b, n, d, ha, w, hb, rfl⟩
    obtain ⟨h1, h2, w'⟩ := wk_use hus w ⟨i, a, 0, 0, ha, .nil i⟩ ⟨j, b, 0, 0, hb, .nil j⟩
    exact ⟨n, j, b, a + d, ⟨i, a, d, h1, ha, w', rfl⟩, hb, rfl⟩
  · rintro ⟨n, v, b, c1, ⟨u, a, d, hu, ha, w, rfl⟩, hb, rfl⟩
    exact ⟨u, v, a, b, n, d, ha, w.mono fun _ _ _ e => e.2.2, hb, rfl⟩
theorem use_fwd (hus : ∀ v, v ∈ us ↔ Fwd st E v ∧ Bwd en E v) {v : Nat} (hv : v ∈ us) : ∃ n c, S st E us n v c := by
  obtain ⟨⟨i, a, n, d, ha, w⟩, hb⟩ := (hus v).mp hv
  obtain ⟨h1, _, w'⟩ := wk_use hus w ⟨i, a, 0, 0, ha, .nil i⟩ hb
  exact ⟨n, a + d, i, a, d, h1, ha, w', rfl⟩
theorem use_bwd (hus : ∀ v, v ∈ us ↔ Fwd st E v ∧ Bwd en E v) : ∀ v ∈ us, Bwd en (In E us) v := by
  intro v hv
  obtain ⟨hf, j, b, n, d, hb, w⟩ := (hus v).mp hv
  obtain ⟨_, _, w'⟩ := wk_use hus w hf ⟨j, b, 0, 0, hb, .nil j⟩
  exact ⟨j, b, n, d, hb, w'⟩
theorem none_of_nil (hus : ∀ v, v ∈ us ↔ Fwd st E v ∧ Bwd en E v) (h : us = []) : ValS (Acc st en E) .none := by
  intro c hc
  obtain ⟨n, v, b, c1, hs, _, _⟩ := (acc_iff hus).mp hc
  have := hs.mem
  rw [h] at this
  cases this
/-- a level that brings something behind so many as there are rooms: costs fall -/
theorem falls_of (hus : ∀ v, v ∈ us ↔ Fwd st E v ∧ Bwd en E v) {n v : Nat} {c : Int} (hs : S st E us n v c) (h : ∀ m c', m < us.length → S st E us m v c' → c < c') : ValS (Acc st en E) .falls := by
  rcases dom_or_ring n v c hs with r | ⟨m, c', hm, hs', hl⟩
  · exact falls_of_ring r (use_bwd hus)
  · have := h m c' hm hs'; omega
/-- else the least price with an end is the least cost -/
theorem least_of (hus : ∀ v, v ∈ us ↔ Fwd st E v ∧ Bwd en E v) {k : Nat} (hfix : ∀ v c, S st E us (k + 1) v c → ∃ c', T st E us k v c' ∧ c' ≤ c) {P : Nat → Option Int} (hP : ∀ v ∈ us, MinOf (T st E us k v) (P v))
    {w : Int} (hw : MinOf (fun c => ∃ v p b, v ∈ us ∧ P v = some p ∧ en v = some b ∧ c = p + b) (some w)) : ValS (Acc st en E) (.least w) := by
  obtain ⟨⟨v, p, b, hv, hp, hb, e⟩, hmin⟩ := hw.2 w rfl
  subst e
  constructor
  · obtain ⟨⟨m, hm, hs⟩, _⟩ := (hP v hv).2 p hp
    exact (acc_iff hus).mpr ⟨m, v, b, p, hs, hb, rfl⟩
  · intro c hc
    obtain ⟨n, v', b', c1, hs, hb', rfl⟩ := (acc_iff hus).mp hc
    obtain ⟨c', ht, hl⟩ := fixed hfix n v' c1 hs
    have hv' := hs.mem
    cases hp' : P v' with
    | none => exact absurd ht ((hP v' hv').1 hp' c')
    | some p' =>
      have h1 := ((hP v' hv').2 p' hp').2 c' ht
      have h2 := hmin (p' + b') ⟨v', p', b', hv', hp', hb', rfl⟩
      omega
end
end BF
/-! The cheapest word, plainly: levels, prices, reach; no program in sight. -/
namespace CH
open BF
/-! ### tables by numbers: pairs in order, a key once -/
section
variable {β : Type}
def look (L : List (Nat × β)) (k : Nat) : Option β := (L.find? fun p => decide (p.1 = k)).map (·.2)
def put (L : List (Nat × β)) (k : Nat) (x : β) : List (Nat × β) := if (L.any fun p => decide (p.1 = k)) = true then L.map fun p => if p.1 = k then (p.1, x) else p else L ++ [(k, x)]
theorem look_nil (k : Nat) : look ([] : List (Nat × β)) k = none := rfl
theorem look_cons (p : Nat × β) (L : List (Nat × β)) (k : Nat) : look (p :: L) k = if p.1 = k then some p.2 else look L k := by
  unfold look
  rw [List.find?_cons]
  by_cases h : p.1 = k <;> simp [h]
theorem look_append (L L' : List (Nat × β)) (k : Nat) : look (L ++ L') k = (look L k).or (look L' k) := by
  induction L with
  | nil => simp [look_nil]
  | cons p L ih =>
    rw [List.cons_append, look_cons, look_cons, ih]
    by_cases h : p.1 = k <;> simp [h]
theorem look_none {L : List (Nat × β)} {k : Nat} : look L k = none ↔ (L.any fun p => decide (p.1 = k)) = false := by
  induction L with
  | nil => simp [look_nil]
  | cons p L ih =>
    rw [look_cons, List.any_cons]
    by_cases h : p.1 = k <;> simp [h, ih]
theorem look_put (L : List (Nat × β)) (k j : Nat) (x : β) : look (put L k x) j = if j = k then some x else look L j := by
  unfold put
  by_cases h : (L.any fun p => decide (p.1 = k)) = true
  · rw [if_pos h]
    induction L with
    | nil => simp at h
    | cons p L ih =>
      rw [List.map_cons, look_cons, look_cons]
      by_cases hp : p.1 = k
      · by_cases hj : j = k
        · subst hj; simp [hp]
        · have : ¬ p.1 = j := fun e => hj (by omega)
          have hj2 : ¬ k = j := fun e => hj e.symm
          rw [if_pos hp, if_neg hj, if_neg this, if_neg this]
          by_cases h2 : (L.any fun p => decide (p.1 = k)) = true
          · rw [ih h2, if_neg hj]
          · have : L.map (fun p => if p.1 = k then (p.1, x) else p) = L := by
              refine (List.map_congr_left fun q hq => ?_).trans (List.map_id L)
              rw [List.any_eq_true] at h2
              have : ¬ q.1 = k := fun e => h2 ⟨q, hq, by simpa using e⟩
              rw [if_neg this]; rfl
            rw [this]
      · have h2 : (L.any fun p => decide (p.1 = k)) = true := by
          rw [List.any_cons] at h
          simpa [hp] using h
        rw [if_neg hp, ih h2]
        by_cases hj : j = k
        · subst hj
          rw [if_pos rfl, if_neg hp, if_pos rfl]
        · rw [if_neg hj, if_neg hj]
  · rw [if_neg h, look_append]
    have hn : look L k = none := look_none.mpr (by cases e : (L.any fun p => decide (p.1 = k)) with | false => rfl | true => exact absurd e h)
    by_cases hj : j = k
    · subst hj
      rw [hn, if_pos rfl, look_cons, if_pos rfl]; rfl
    · rw [if_neg hj, look_cons, if_neg (fun e => hj e.symm), look_nil]
      cases look L j <;> rfl
theorem look_mem {L : List (Nat × β)} {k : Nat} {x : β} (h : look L k = some x) : (k, x) ∈ L := by
  induction L with
  | nil => cases h
  | cons p L ih =>
    rw [look_cons] at h
    by_cases hp : p.1 = k
    · rw [if_pos hp] at h
      cases h
      rw [← hp]
      exact List.mem_cons_self
    · rw [if_neg hp] at h
      exact List.mem_cons_of_mem _ (ih h)
theorem look_of_mem {L : List (Nat × β)} (nd : (L.map (·.1)).Nodup) {k : Nat} {x : β} (h : (k, x) ∈ L) : look L k = some x := by
  induction L with
  | nil => cases h
  | cons p L ih =>
    rw [look_cons]
    rw [List.map_cons, List.nodup_cons] at nd
    rcases List.mem_cons.mp h with e | h
    · rw [← e, if_pos rfl]
    · have : ¬ p.1 = k := fun e => nd.1 (e ▸ List.mem_map_of_mem (f := (·.1)) h)
      rw [if_neg this]
      exact ih nd.2 h
theorem put_keys (L : List (Nat × β)) (k : Nat) (x : β) : (put L k x).map (·.1) = if k ∈ L.map (·.1) then L.map (·.1) else L.map (·.1) ++ [k] := by
  unfold put
  by_cases h : (L.any fun p => decide (p.1 = k)) = true
  · rw [if_pos h]
    have hk : k ∈ L.map (·.1) := by
      obtain ⟨p, hp, e⟩ := List.any_eq_true.mp h
      rw [← of_decide_eq_true e]
      exact List.mem_map_of_mem hp
    rw [if_pos hk, List.map_map]
    refine List.map_congr_left fun p _ => ?_
    show (if p.1 = k then (p.1, x) else p).1 = p.1
    split <;> rfl
  · rw [if_neg h]
    have hk : ¬ k ∈ L.map (·.1) := fun hm => by
      obtain ⟨p, hp, e⟩ := List.mem_map.mp hm
      exact h (List.any_eq_true.mpr ⟨p, hp, by simpa using e⟩)
    rw [if_neg hk, List.map_append]; rfl
theorem put_nd {L : List (Nat × β)} (nd : (L.map (·.1)).Nodup) (k : Nat) (x : β) : ((put L k x).map (·.1)).Nodup := by
  rw [put_keys]
  split
  · exact nd
  · rename_i h
    rw [List.nodup_append]
    exact ⟨nd, by simp, fun a ha b hb e => h (by rw [List.mem_singleton.mp hb] at e; exact e ▸ ha)⟩
theorem put_len (L : List (Nat × β)) (k : Nat) (x : β) : (put L k x).length ≤ L.length + 1 := by
  unfold put
  split
  · rw [List.length_map]; omega
  · rw [List.length_append]; simp
end

/-! ### levels -/
section
variable {α : Type}
abbrev Lvl (α : Type) := List (Nat × (Int × Nat × α))
abbrev Stp (α : Type) := Nat × Nat × Int × α
def cost (L : Lvl α) (v : Nat) : Option Int := (look L v).map (·.1)
def raise1 (low : Lvl α) (acc : Lvl α) (s : Stp α) : Lvl α :=
  match look low s.1 with
  | none => acc
  | some x => match look acc s.2.1 with
    | none => put acc s.2.1 (x.1 + s.2.2.1, s.1, s.2.2.2)
    | some y => if x.1 + s.2.2.1 < y.1 then put acc s.2.1 (x.1 + s.2.2.1, s.1, s.2.2.2) else acc
def raised (low : Lvl α) (steps : List (Stp α)) : Lvl α := steps.foldl (raise1 low) []
/-- what a level says: costs by steps taken so far, each entry by its step -/
structure Rai (low : Lvl α) (steps : List (Stp α)) (acc : Lvl α) : Prop where
  min : ∀ j, MinOf (fun c => ∃ i d l w, (i, j, d, l) ∈ steps ∧ cost low i = some w ∧ c = w + d) (cost acc j)
  by_ : ∀ j w u l, look acc j = some (w, u, l) → ∃ d w0, (u, j, d, l) ∈ steps ∧ cost low u = some w0 ∧ w = w0 + d
  nd : (acc.map (·.1)).Nodup
theorem rai_step {low : Lvl α} {steps : List (Stp α)} {acc : Lvl α} (h : Rai low steps acc) (s : Stp α) : Rai low (steps ++ [s]) (raise1 low acc s) := by
  obtain ⟨i0, j0, d0, l0⟩ := s
  have grow : ∀ {j w u l}, look acc j = some (w, u, l) → ∃ d w0, (u, j, d, l) ∈ steps ++ [(i0, j0, d0, l0)] ∧ cost low u = some w0 ∧ w = w0 + d := fun e => by
    obtain ⟨d, w0, h1, h2⟩ := h.by_ _ _ _ _ e
    exact ⟨d, w0, List.mem_append_left _ h1, h2⟩
  unfold raise1
  cases hl : look low i0 with
  | none =>
    have hc : cost low i0 = none := by unfold cost; rw [hl]; rfl
    refine ⟨fun j => (h.min j).congr fun c => ⟨?_, ?_⟩, fun j w u l e => grow e, h.nd⟩
    · rintro ⟨i, d, l, w, hm, r⟩
      exact ⟨i, d, l, w, List.mem_append_left _ hm, r⟩
    · rintro ⟨i, d, l, w, hm, hw, e⟩
      rcases List.mem_append.mp hm with hm | hm
      · exact ⟨i, d, l, w, hm, hw, e⟩
      · have e2 := List.mem_singleton.mp hm
        cases e2
        rw [hc] at hw
        cases hw
  | some x =>
    obtain ⟨w1, u1, l1⟩ := x
    have hc : cost low i0 = some w1 := by unfold cost; rw [hl]; rfl
    have other : ∀ {j}, ¬ j = j0 → ∀ c, (∃ i d l w, (i, j, d, l) ∈ steps ∧ cost low i = some w ∧ c = w + d) ↔ (∃ i d l w, (i, j, d, l) ∈ steps ++ [(i0, j0, d0, l0)] ∧ cost low i = some w ∧ c = w + d) := fun {j} hj c => by
      constructor
      · rintro ⟨i, d, l, w, hm, r⟩
        exact ⟨i, d, l, w, List.mem_append_left _ hm, r⟩
      · rintro ⟨i, d, l, w, hm, r⟩
        rcases List.mem_append.mp hm with hm | hm
        · exact ⟨i, d, l, w, hm, r⟩
        · have e2 := List.mem_singleton.mp hm
          cases e2
          exact absurd rfl hj
    have mine : ∀ c, (∃ i d l w, (i, j0, d, l) ∈ steps ++ [(i0, j0, d0, l0)] ∧ cost low i = some w ∧ c = w + d) ↔ (∃ i d l w, (i, j0, d, l) ∈ steps ∧ cost low i = some w ∧ c = w + d) ∨ c = w1 + d0 := fun c => by
      constructor
      · rintro ⟨i, d, l, w, hm, hw, e⟩
        rcases List.mem_append.mp hm with hm | hm
        · exact .inl ⟨i, d, l, w, hm, hw, e⟩
        · have e2 := List.mem_singleton.mp hm
          cases e2
          rw [hc] at hw
          cases hw
          exact .inr e
      · rintro (⟨i, d, l, w, hm, r⟩ | e)
        · exact ⟨i, d, l, w, List.mem_append_left _ hm, r⟩
        · exact ⟨i0, d0, l0, w1, List.mem_append_right _ (List.mem_singleton.mpr rfl), hc, e⟩
    have done : (∀ y, cost acc j0 = some y → w1 + d0 < y) → Rai low (steps ++ [(i0, j0, d0, l0)]) (put acc j0 (w1 + d0, i0, l0)) := fun hy => by
      refine ⟨fun j => ?_, fun j w u l e => ?_, put_nd h.nd _ _⟩
      · by_cases hj : j = j0
        · subst hj
          have e : cost (put acc j (w1 + d0, i0, l0)) j = some (w1 + d0) := by unfold cost; rw [look_put, if_pos rfl]; rfl
          rw [e]
          refine ⟨fun z => (nomatch z), fun w ew => ?_⟩
          cases ew
          refine ⟨(mine _).mpr (.inr rfl), fun c hcc => ?_⟩
          rcases (mine c).mp hcc with h1 | h1
          · cases ha : cost acc j with
            | none => exact absurd h1 ((h.min j).1 ha c)
            | some y =>
              have := hy y ha
              have := ((h.min j).2 y ha).2 c h1
              omega
          · omega
        · have e : cost (put acc j0 (w1 + d0, i0, l0)) j = cost acc j := by unfold cost; rw [look_put, if_neg hj]
          rw [e]
          exact (h.min j).congr (other hj)
      · rw [look_put] at e
        by_cases hj : j = j0
        · rw [if_pos hj] at e
          cases e
          subst hj
          exact ⟨d0, w1, List.mem_append_right _ (List.mem_singleton.mpr rfl), hc, rfl⟩
        · rw [if_neg hj] at e
          exact grow e
    cases ha : look acc j0 with
    | none => exact done fun y e => by unfold cost at e; rw [ha] at e; cases e
    | some y =>
      have hca : cost acc j0 = some y.1 := by unfold cost; rw [ha]; rfl
      show Rai _ _ (if w1 + d0 < y.1 then _ else _)
      by_cases hlt : w1 + d0 < y.1
      · rw [if_pos hlt]
        exact done fun z e => by rw [hca] at e; cases e; exact hlt
      · rw [if_neg hlt]
        refine ⟨fun j => ?_, fun j w u l e => grow e, h.nd⟩
        by_cases hj : j = j0
        · subst hj
          have hm := h.min j
          rw [hca] at hm ⊢
          refine ⟨fun z => (nomatch z), fun w ew => ?_⟩
          cases ew
          refine ⟨(mine _).mpr (.inl (hm.2 _ rfl).1), fun c hcc => ?_⟩
          rcases (mine c).mp hcc with h1 | h1
          · exact (hm.2 _ rfl).2 c h1
          · omega
        · exact (h.min j).congr (other hj)
theorem rai_all (low : Lvl α) (steps : List (Stp α)) : Rai low steps (raised low steps) := by
  have key : ∀ (ss pre : List (Stp α)) (acc : Lvl α), Rai low pre acc → Rai low (pre ++ ss) (ss.foldl (raise1 low) acc) := by
    intro ss
    induction ss with
    | nil => intro pre acc h; rw [List.append_nil]; exact h
    | cons s ss ih =>
      intro pre acc h
      have := ih (pre ++ [s]) _ (rai_step h s)
      rw [List.append_assoc] at this
      exact this
  have := key steps [] [] ⟨fun j => ⟨fun _ c ⟨_, _, _, _, h, _⟩ => (nomatch h), fun w e => (nomatch e)⟩, fun _ _ _ _ e => (nomatch e), List.nodup_nil⟩
  exact this

/-- the first level: starts -/
def level0 (st : Nat → Option Int) (none_ : α) (us : List Nat) : Lvl α := us.foldl (fun L u => match st u with | none => L | some a => put L u (a, u, none_)) []
theorem look_level0 (st : Nat → Option Int) (z : α) (us : List Nat) (v : Nat) : look (level0 st z us) v = if v ∈ us then (st v).map fun a => (a, v, z) else none := by
  unfold level0
  have key : ∀ (us : List Nat) (L : Lvl α), look (us.foldl (fun L u => match st u with | none => L | some a => put L u (a, u, z)) L) v = if v ∈ us then (match st v with | none => look L v | some a => some (a, v, z)) else look L v := by
    intro us
    induction us with
    | nil => intro L; simp
    | cons u us ih =>
      intro L
      rw [List.foldl_cons, ih]
      by_cases hv : v ∈ us
      · rw [if_pos hv, if_pos (List.mem_cons_of_mem _ hv)]
        cases hs : st v with
        | some a => rfl
        | none =>
          dsimp only
          cases hu : st u with
          | none => rfl
          | some a =>
            dsimp only
            rw [look_put, if_neg (fun e => by rw [e, hu] at hs; cases hs)]
      · rw [if_neg hv]
        by_cases hu : v = u
        · subst hu
          rw [if_pos List.mem_cons_self]
          cases hs : st v with
          | none => rfl
          | some a => dsimp only; rw [look_put, if_pos rfl]
        · rw [if_neg (by simp [hu, hv])]
          cases hs : st u with
          | none => rfl
          | some a => dsimp only; rw [look_put, if_neg hu]
  rw [key us []]
  by_cases hv : v ∈ us
  · rw [if_pos hv, if_pos hv]
    cases st v <;> rfl
  · rw [if_neg hv, if_neg hv]; rfl
theorem level0_nd (st : Nat → Option Int) (z : α) (us : List Nat) : ((level0 st z us).map (·.1)).Nodup := by
  unfold level0
  have key : ∀ (us : List Nat) (L : Lvl α), (L.map (·.1)).Nodup → ((us.foldl (fun L u => match st u with | none => L | some a => put L u (a, u, z)) L).map (·.1)).Nodup := by
    intro us
    induction us with
    | nil => intro L h; exact h
    | cons u us ih =>
      intro L h
      rw [List.foldl_cons]
      refine ih _ ?_
      cases st u with
      | none => exact h
      | some a => exact put_nd h _ _
  exact key us [] List.nodup_nil
/-- level k -/
def lev (st : Nat → Option Int) (z : α) (us : List Nat) (steps : List (Stp α)) : Nat → Lvl α
  | 0 => level0 st z us
  | k + 1 => raised (lev st z us steps k) steps
section
variable {st : Nat → Option Int} {z : α} {us : List Nat} {steps : List (Stp α)} {E : Nat → Nat → Int → Prop}
theorem lev_nd (k : Nat) : ((lev st z us steps k).map (·.1)).Nodup := by
  cases k with
  | zero => exact level0_nd st z us
  | succ k => exact (rai_all _ _).nd
/-- steps tell just the steps within us -/
theorem lev_min (hE : ∀ i j d, (∃ l, (i, j, d, l) ∈ steps) ↔ In E us i j d) (k : Nat) : ∀ v, MinOf (S st E us k v) (cost (lev st z us steps k) v) := by
  induction k with
  | zero =>
    intro v
    show MinOf _ ((look (level0 st z us) v).map (·.1))
    rw [look_level0]
    by_cases hv : v ∈ us
    · rw [if_pos hv]
      cases hs : st v with
      | none => exact ⟨fun _ c hc => (by rw [S.zero, hs] at hc; exact nomatch hc.2), fun w e => (nomatch e)⟩
      | some a =>
        refine ⟨fun e => (nomatch e), fun w e => ?_⟩
        cases e
        exact ⟨S.zero.mpr ⟨hv, hs⟩, fun c hc => by rw [S.zero, hs] at hc; have := Option.some.inj hc.2; show a ≤ c; omega⟩
    · rw [if_neg hv]
      exact ⟨fun _ c hc => hv (S.zero.mp hc).1, fun w e => (nomatch e)⟩
  | succ k ih =>
    intro v
    have h := (rai_all (lev st z us steps k) steps).min v
    show MinOf _ (cost (raised (lev st z us steps k) steps) v)
    cases hc : cost (raised (lev st z us steps k) steps) v with
    | none =>
      rw [hc] at h
      refine ⟨fun _ c hs => ?_, fun w e => (nomatch e)⟩
      obtain ⟨u, c1, d, hs', he, rfl⟩ := S.succ.mp hs
      obtain ⟨l, hl⟩ := (hE u v d).mpr he
      cases hu : cost (lev st z us steps k) u with
      | none => exact (ih u).1 hu c1 hs'
      | some w => exact h.1 rfl (w + d) ⟨u, d, l, w, hl, hu, rfl⟩
    | some w =>
      rw [hc] at h
      refine ⟨fun e => (nomatch e), fun w' e => ?_⟩
      cases e
      obtain ⟨⟨i, d, l, w0, hm, hw0, e⟩, hmin⟩ := h.2 w rfl
      refine ⟨S.succ.mpr ⟨i, w0, d, ((ih i).2 w0 hw0).1, (hE i v d).mp ⟨l, hm⟩, e⟩, fun c hs => ?_⟩
      obtain ⟨u, c1, d', hs', he, rfl⟩ := S.succ.mp hs
      obtain ⟨l', hl'⟩ := (hE u v d').mpr he
      cases hu : cost (lev st z us steps k) u with
      | none => exact absurd hs' ((ih u).1 hu c1)
      | some w1 =>
        have h1 := hmin (w1 + d') ⟨u, d', l', w1, hl', hu, rfl⟩
        have h2 := ((ih u).2 w1 hu).2 c1 hs'
        omega
theorem lev_mem (hE : ∀ i j d, (∃ l, (i, j, d, l) ∈ steps) ↔ In E us i j d) {k v : Nat} {x : Int × Nat × α} (h : look (lev st z us steps k) v = some x) : v ∈ us := by
  have hc : cost (lev st z us steps k) v = some x.1 := by unfold cost; rw [h]; rfl
  exact (((lev_min (st := st) (z := z) hE k v).2 _ hc).1).mem
/-- an entry's step: the level before has its room -/
theorem lev_by {k v w u : Nat} {c : Int} {l : α} (h : look (lev st z us steps (k + 1)) v = some (c, u, l)) : ∃ d y, (u, v, d, l) ∈ steps ∧ look (lev st z us steps k) u = some y ∧ c = y.1 + d := by
  obtain ⟨d, w0, hm, hw, e⟩ := (rai_all (lev st z us steps k) steps).by_ v c u l h
  unfold cost at hw
  rw [Option.map_eq_some_iff] at hw
  obtain ⟨y, hy, e2⟩ := hw
  exact ⟨d, y, hm, hy, by omega⟩
end

/-! ### prices -/
def price1 (P : List (Nat × Int)) (p : Nat × (Int × Nat × α)) : List (Nat × Int) :=
  match look P p.1 with
  | none => put P p.1 p.2.1
  | some y => if p.2.1 < y then put P p.1 p.2.1 else P
def prices (Ls : List (Lvl α)) : List (Nat × Int) := Ls.foldl (fun P L => L.foldl price1 P) []
theorem price1_min {P : List (Nat × Int)} {T : Nat → Int → Prop} (h : ∀ v, MinOf (T v) (look P v)) (p : Nat × (Int × Nat × α)) : ∀ v, MinOf (fun c => T v c ∨ (v = p.1 ∧ c = p.2.1)) (look (price1 P p) v) := by
  intro v
  unfold price1
  have same : ¬ v = p.1 → MinOf (fun c => T v c ∨ (v = p.1 ∧ c = p.2.1)) (look P v) := fun hv => (h v).congr fun c => ⟨.inl, fun q => q.elim id fun q => absurd q.1 hv⟩
  cases hl : look P p.1 with
  | none =>
    dsimp only
    rw [look_put]
    by_cases hv : v = p.1
    · rw [if_pos hv]
      refine ⟨fun e => (nomatch e), fun w e => ?_⟩
      cases e
      refine ⟨.inr ⟨hv, rfl⟩, fun c hc => ?_⟩
      rcases hc with hc | hc
      · exact absurd hc ((h v).1 (by rw [hv]; exact hl) c)
      · omega
    · rw [if_neg hv]; exact same hv
  | some y =>
    dsimp only
    by_cases hlt : p.2.1 < y
    · rw [if_pos hlt, look_put]
      by_cases hv : v = p.1
      · rw [if_pos hv]
        refine ⟨fun e => (nomatch e), fun w e => ?_⟩
        cases e
        refine ⟨.inr ⟨hv, rfl⟩, fun c hc => ?_⟩
        rcases hc with hc | hc
        · have := ((h v).2 y (by rw [hv]; exact hl)).2 c hc
          omega
        · omega
      · rw [if_neg hv]; exact same hv
    · rw [if_neg hlt]
      by_cases hv : v = p.1
      · have hl' : look P v = some y := by rw [hv]; exact hl
        rw [hl']
        refine ⟨fun e => (nomatch e), fun w e => ?_⟩
        cases e
        have hm := (h v).2 y hl'
        refine ⟨.inl hm.1, fun c hc => ?_⟩
        rcases hc with hc | hc
        · exact hm.2 c hc
        · omega
      · exact same hv
theorem prices_min (Ls : List (Lvl α)) (v : Nat) : MinOf (fun c => ∃ L ∈ Ls, ∃ x, (v, x) ∈ L ∧ c = x.1) (look (prices Ls) v) := by
  have inner : ∀ (L : Lvl α) (P : List (Nat × Int)) (T : Nat → Int → Prop), (∀ v, MinOf (T v) (look P v)) → ∀ v, MinOf (fun c => T v c ∨ ∃ x, (v, x) ∈ L ∧ c = x.1) (look (L.foldl price1 P) v) := by
    intro L
    induction L with
    | nil => intro P T h v; exact (h v).congr fun c => ⟨.inl, fun q => q.elim id fun ⟨x, hx, _⟩ => (nomatch hx)⟩
    | cons p L ih =>
      intro P T h v
      rw [List.foldl_cons]
      refine (ih _ _ (price1_min h p) v).congr fun c => ⟨?_, ?_⟩
      · rintro ((q | ⟨h1, h2⟩) | ⟨x, hx, e⟩)
        · exact .inl q
        · exact .inr ⟨p.2, by rw [h1]; exact List.mem_cons_self, h2⟩
        · exact .inr ⟨x, List.mem_cons_of_mem _ hx, e⟩
      · rintro (q | ⟨x, hx, e⟩)
        · exact .inl (.inl q)
        · rcases List.mem_cons.mp hx with e2 | hx
          · exact .inl (.inr ⟨by rw [← e2], by rw [← e2]; exact e⟩)
          · exact .inr ⟨x, hx, e⟩
  have outer : ∀ (Ls : List (Lvl α)) (P : List (Nat × Int)) (T : Nat → Int → Prop), (∀ v, MinOf (T v) (look P v)) → ∀ v, MinOf (fun c => T v c ∨ ∃ L ∈ Ls, ∃ x, (v, x) ∈ L ∧ c = x.1) (look (Ls.foldl (fun P L => L.foldl price1 P) P) v) := by
    intro Ls
    induction Ls with
    | nil => intro P T h v; exact (h v).congr fun c => ⟨.inl, fun q => q.elim id fun ⟨L, hL, _⟩ => (nomatch hL)⟩
    | cons L Ls ih =>
      intro P T h v
      rw [List.foldl_cons]
      refine (ih _ _ (inner L P T h) v).congr fun c => ⟨?_, ?_⟩
      · rintro ((q | ⟨x, hx, e⟩) | ⟨L', hL, x, hx, e⟩)
        · exact .inl q
        · exact .inr ⟨L, List.mem_cons_self, x, hx, e⟩
        · exact .inr ⟨L', List.mem_cons_of_mem _ hL, x, hx, e⟩
      · rintro (q | ⟨L', hL, x, hx, e⟩)
        · exact .inl (.inl q)
        · rcases List.mem_cons.mp hL with e2 | hL
          · exact .inl (.inr ⟨x, by rw [← e2]; exact hx, e⟩)
          · exact .inr ⟨L', hL, x, hx, e⟩
  refine (outer Ls [] (fun _ _ => False) (fun v => ⟨fun _ _ h => h, fun w e => (nomatch e)⟩) v).congr fun c => ⟨fun q => q.elim False.elim id, .inr⟩
end
end CH
/-! Made machines, plainly: what their walks cost. No program in sight. -/
namespace BF
def shiftR (x : Int) : R → R
  | .least w => .least (w + x)
  | r => r
def minR : R → R → R
  | .falls, _ => .falls
  | _, .falls => .falls
  | .none, r => r
  | r, .none => r
  | .least x, .least y => .least (if y < x then y else x)
def sumR : R → R → R
  | .none, _ => .none
  | _, .none => .none
  | .falls, _ => .falls
  | _, .falls => .falls
  | .least x, .least y => .least (x + y)
def starR : R → R
  | .falls => .falls
  | .none => .least 0
  | .least w => if w < 0 then .falls else .least 0
theorem ValS.congr {S T : Int → Prop} {r : R} (h : ValS S r) (e : ∀ c, T c ↔ S c) : ValS T r := by
  have : T = S := funext fun c => propext (e c)
  rw [this]; exact h
theorem val_shift {S T : Int → Prop} {x : Int} {r : R} (h : ∀ c, T c ↔ S (c - x)) (v : ValS S r) : ValS T (shiftR x r) := by
  cases r with
  | none => exact fun c hc => v _ ((h c).mp hc)
  | falls =>
    intro B
    obtain ⟨c, hc, l⟩ := v (B - x)
    refine ⟨c + x, (h _).mpr ?_, by omega⟩
    rw [show c + x - x = c by omega]; exact hc
  | least w =>
    refine ⟨(h _).mpr ?_, fun c hc => ?_⟩
    · rw [show w + x - x = w by omega]; exact v.1
    · have := v.2 _ ((h c).mp hc); omega
theorem val_or {S T U : Int → Prop} {r q : R} (h : ∀ c, U c ↔ S c ∨ T c) (v : ValS S r) (u : ValS T q) : ValS U (minR r q) := by
  have fl : ∀ {S' : Int → Prop}, ValS S' .falls → (∀ c, S' c → U c) → ValS U .falls := fun v k B => let ⟨c, hc, l⟩ := v B; ⟨c, k c hc, l⟩
  cases r with
  | falls => exact fl v fun c hc => (h c).mpr (.inl hc)
  | none =>
    cases q with
    | falls => exact fl u fun c hc => (h c).mpr (.inr hc)
    | none => exact fun c hc => ((h c).mp hc).elim (v c) (u c)
    | least y => exact ⟨(h _).mpr (.inr u.1), fun c hc => ((h c).mp hc).elim (fun z => absurd z (v c)) (u.2 c)⟩
  | least x =>
    cases q with
    | falls => exact fl u fun c hc => (h c).mpr (.inr hc)
    | none => exact ⟨(h _).mpr (.inl v.1), fun c hc => ((h c).mp hc).elim (v.2 c) (fun z => absurd z (u c))⟩
    | least y =>
      show ValS U (.least (if y < x then y else x))
      by_cases l : y < x
      · rw [if_pos l]
        exact ⟨(h _).mpr (.inr u.1), fun c hc => ((h c).mp hc).elim (fun z => by have := v.2 c z; omega) (u.2 c)⟩
      · rw [if_neg l]
        exact ⟨(h _).mpr (.inl v.1), fun c hc => ((h c).mp hc).elim (v.2 c) (fun z => by have := u.2 c z; omega)⟩
def Sum2 (S T : Int → Prop) (c : Int) : Prop := ∃ a b, S a ∧ T b ∧ c = a + b
theorem val_nonempty {S : Int → Prop} {r : R} (v : ValS S r) (h : r ≠ .none) : ∃ c, S c := by
  cases r with
  | none => exact absurd rfl h
  | falls => obtain ⟨c, hc, _⟩ := v 0; exact ⟨c, hc⟩
  | least w => exact ⟨w, v.1⟩
theorem val_sum {S T : Int → Prop} {r q : R} (v : ValS S r) (u : ValS T q) : ValS (Sum2 S T) (sumR r q) := by
  have fl1 : ∀ b, ValS S .falls → T b → ValS (Sum2 S T) .falls := fun b v hb B => let ⟨c, hc, l⟩ := v (B - b); ⟨c + b, ⟨c, b, hc, hb, rfl⟩, by omega⟩
  have fl2 : ∀ a, S a → ValS T .falls → ValS (Sum2 S T) .falls := fun a ha u B => let ⟨c, hc, l⟩ := u (B - a); ⟨a + c, ⟨a, c, ha, hc, rfl⟩, by omega⟩
  have n1 : (∀ c, ¬ S c) → ValS (Sum2 S T) .none := fun n c ⟨a, b, ha, _, _⟩ => n a ha
  have n2 : (∀ c, ¬ T c) → ValS (Sum2 S T) .none := fun n c ⟨a, b, _, hb, _⟩ => n b hb
  cases r with
  | none => exact n1 v
  | falls =>
    cases q with
    | none => exact n2 u
    | falls => obtain ⟨b, hb, _⟩ := u 0; exact fl1 b v hb
    | least y => exact fl1 y v u.1
  | least x =>
    cases q with
    | none => exact n2 u
    | falls => exact fl2 x v.1 u
    | least y =>
      refine ⟨⟨x, y, v.1, u.1, rfl⟩, ?_⟩
      rintro c ⟨a, b, ha, hb, rfl⟩
      have := v.2 a ha
      have := u.2 b hb
      omega
/-- sums of so many of S -/
inductive Sums (S : Int → Prop) : Int → Prop where
  | nil : Sums S 0
  | snoc {c d : Int} : Sums S c → S d → Sums S (c + d)
theorem Sums.rep {S : Int → Prop} {d : Int} (h : S d) (k : Nat) : Sums S ((k : Int) * d) := by
  induction k with
  | zero => rw [show ((0 : Nat) : Int) * d = 0 by omega]; exact .nil
  | succ k ih => rw [show ((k + 1 : Nat) : Int) * d = (k : Int) * d + d by rw [Int.natCast_succ, Int.add_mul]; omega]; exact ih.snoc h
theorem Sums.one {S : Int → Prop} {d : Int} (h : S d) : Sums S d := by have := Sums.nil.snoc h; rwa [show (0 : Int) + d = d by omega] at this
theorem val_star {S : Int → Prop} {r : R} (v : ValS S r) : ValS (Sums S) (starR r) := by
  have ge : (∀ c, S c → 0 ≤ c) → ValS (Sums S) (.least 0) := fun k => ⟨.nil, fun c hc => by
    induction hc with
    | nil => omega
    | snoc _ h ih => have := k _ h; omega⟩
  cases r with
  | falls => exact fun B => let ⟨c, hc, l⟩ := v B; ⟨c, .one hc, l⟩
  | none => exact ge fun c hc => absurd hc (v c)
  | least w =>
    show ValS (Sums S) (if w < 0 then .falls else .least 0)
    by_cases l : w < 0
    · rw [if_pos l]
      intro B
      refine ⟨_, Sums.rep v.1 ((-B).toNat + 1), ?_⟩
      have hk : (((-B).toNat + 1 : Nat) : Int) * w ≤ (((-B).toNat + 1 : Nat) : Int) * (-1) := Int.mul_le_mul_of_nonneg_left (by omega) (Int.natCast_nonneg _)
      omega
    · rw [if_neg l]
      exact ge fun c hc => by have := v.2 c hc; omega
/-! ### scaled, turned -/
section
variable {st en : Nat → Option Int} {E : Nat → Nat → Int → Prop}
theorem acc_scale {st' : Nat → Option Int} {x : Int} (hs : ∀ i, st' i = (st i).map (x + ·)) (c : Int) : Acc st' en E c ↔ Acc st en E (c - x) := by
  constructor
  · rintro ⟨i, j, a, b, n, d, ha, w, hb, rfl⟩
    rw [hs] at ha
    obtain ⟨a0, h0, rfl⟩ := Option.map_eq_some_iff.mp ha
    exact ⟨i, j, a0, b, n, d, h0, w, hb, by omega⟩
  · rintro ⟨i, j, a, b, n, d, ha, w, hb, e⟩
    exact ⟨i, j, x + a, b, n, d, by rw [hs, ha]; rfl, w, hb, by omega⟩
theorem acc_none {st' : Nat → Option Int} (hs : ∀ i, st' i = none) (c : Int) : ¬ Acc st' en E c := by
  rintro ⟨i, j, a, b, n, d, ha, _⟩
  rw [hs] at ha; cases ha
theorem acc_turn1 {E' : Nat → Nat → Int → Prop} (hE : ∀ i j c, E' i j c → E j i c) {c : Int} : Acc en st E' c → Acc st en E c := by
  rintro ⟨i, j, a, b, n, d, ha, w, hb, rfl⟩
  exact ⟨j, i, b, a, n, d, hb, w.rev.mono fun x y z h => hE y x z h, ha, by omega⟩
end
/-! ### two side by side -/
section
variable {nA : Nat} {EA EB X E : Nat → Nat → Int → Prop}
structure Two (nA : Nat) (EA EB X E : Nat → Nat → Int → Prop) : Prop where
  lA : ∀ i j c, EA i j c → i < nA ∧ j < nA
  lX : ∀ i k c, X i k c → i < nA
  iff : ∀ i j c, E i j c ↔ EA i j c ∨ (∃ p q, i = nA + p ∧ j = nA + q ∧ EB p q c) ∨ ∃ k, j = nA + k ∧ X i k c
def Cat (nA : Nat) (f g h : Nat → Option Int) : Prop := ∀ i a, h i = some a ↔ (i < nA ∧ f i = some a) ∨ ∃ k, i = nA + k ∧ g k = some a
theorem Two.hi (T : Two nA EA EB X E) {n i j : Nat} {c : Int} (w : Wk E n i j c) : ∀ p, i = nA + p → ∃ q, j = nA + q ∧ Wk EB n p q c := by
  induction w with
  | nil i => exact fun p e => ⟨p, e, .nil p⟩
  | @snoc n i j k c d a e ih =>
    intro p ep
    obtain ⟨q, eq, w'⟩ := ih p ep
    rcases (T.iff _ _ _).mp e with h | ⟨p', q', e1, e2, h⟩ | ⟨k', e1, h⟩
    · have := (T.lA _ _ _ h).1; omega
    · have : p' = q := by omega
      subst this
      exact ⟨q', e2, w'.snoc h⟩
    · have := T.lX _ _ _ h; omega
theorem Two.up (T : Two nA EA EB X E) {n p q : Nat} {c : Int} (w : Wk EB n p q c) : Wk E n (nA + p) (nA + q) c := by
  induction w with
  | nil i => exact .nil _
  | snoc _ e ih => exact ih.snoc ((T.iff _ _ _).mpr (.inr (.inl ⟨_, _, rfl, rfl, e⟩)))
theorem Two.lo (T : Two nA EA EB X E) {n i j : Nat} {c : Int} (w : Wk E n i j c) : i < nA → (j < nA ∧ Wk EA n i j c) ∨
    ∃ m1 x d1 k d2 m2 q d3, Wk EA m1 i x d1 ∧ X x k d2 ∧ Wk EB m2 k q d3 ∧ j = nA + q ∧ c = d1 + d2 + d3 := by
  induction w with
  | nil i => exact fun h => .inl ⟨h, .nil i⟩
  | @snoc n i j k c d a e ih =>
    intro hi
    rcases ih hi with ⟨hj, w'⟩ | ⟨m1, x, d1, k', d2, m2, q, d3, w1, hx, w2, ej, rfl⟩
    · rcases (T.iff _ _ _).mp e with h | ⟨p', q', e1, e2, h⟩ | ⟨k', e1, h⟩
      · exact .inl ⟨(T.lA _ _ _ h).2, w'.snoc h⟩
      · omega
      · exact .inr ⟨_, _, _, k', d, 0, k', 0, w', h, .nil _, e1, by omega⟩
    · rcases (T.iff _ _ _).mp e with h | ⟨p', q', e1, e2, h⟩ | ⟨k'', e1, h⟩
      · have := (T.lA _ _ _ h).1; omega
      · have : p' = q := by omega
        subst this
        exact .inr ⟨_, _, _, _, _, _, q', _, w1, hx, w2.snoc h, e2, by omega⟩
      · have := T.lX _ _ _ h; omega
variable {sA sB eA eB st en : Nat → Option Int}
theorem acc_two (T : Two nA EA EB X E) (hs : Cat nA sA sB st) (he : Cat nA eA eB en) (c : Int) : Acc st en E c ↔
    (∃ i j a b n d, i < nA ∧ j < nA ∧ sA i = some a ∧ Wk EA n i j d ∧ eA j = some b ∧ c = a + d + b) ∨ Acc sB eB EB c ∨
    ∃ i a m1 x d1 k d2 m2 q d3 b, i < nA ∧ sA i = some a ∧ Wk EA m1 i x d1 ∧ X x k d2 ∧ Wk EB m2 k q d3 ∧ eB q = some b ∧ c = a + (d1 + d2 + d3) + b := by
  constructor
  · rintro ⟨i, j, a, b, n, d, ha, w, hb, rfl⟩
    rcases (hs _ _).mp ha with ⟨li, ha'⟩ | ⟨p, rfl, ha'⟩
    · rcases T.lo w li with ⟨lj, w'⟩ | ⟨m1, x, d1, k', d2, m2, q, d3, w1, hx, w2, ej, rfl⟩
      · rcases (he _ _).mp hb with ⟨_, hb'⟩ | ⟨q, e, _⟩
        · exact .inl ⟨i, j, a, b, n, d, li, lj, ha', w', hb', rfl⟩
        · omega
      · rcases (he _ _).mp hb with ⟨l, hb'⟩ | ⟨q', e, hb'⟩
        · omega
        · have : q' = q := by omega
          subst this
          exact .inr (.inr ⟨i, a, m1, x, d1, k', d2, m2, q', d3, b, li, ha', w1, hx, w2, hb', rfl⟩)
    · obtain ⟨q, rfl, w'⟩ := T.hi w p rfl
      rcases (he _ _).mp hb with ⟨l, hb'⟩ | ⟨q', e, hb'⟩
      · omega
      · have : q' = q := by omega
        subst this
        exact .inr (.inl ⟨p, q', a, b, n, d, ha', w', hb', rfl⟩)
  · rintro (⟨i, j, a, b, n, d, li, lj, ha, w, hb, rfl⟩ | ⟨p, q, a, b, n, d, ha, w, hb, rfl⟩ | ⟨i, a, m1, x, d1, k, d2, m2, q, d3, b, li, ha, w1, hx, w2, hb, rfl⟩)
    · exact ⟨i, j, a, b, n, d, (hs _ _).mpr (.inl ⟨li, ha⟩), w.mono fun _ _ _ e => (T.iff _ _ _).mpr (.inl e), (he _ _).mpr (.inl ⟨lj, hb⟩), rfl⟩
    · exact ⟨_, _, a, b, n, d, (hs _ _).mpr (.inr ⟨p, rfl, ha⟩), T.up w, (he _ _).mpr (.inr ⟨q, rfl, hb⟩), rfl⟩
    · have w1' : Wk E m1 i x d1 := w1.mono fun _ _ _ e => (T.iff _ _ _).mpr (.inl e)
      have s : E x (nA + k) d2 := (T.iff _ _ _).mpr (.inr (.inr ⟨k, rfl, hx⟩))
      exact ⟨i, _, a, b, _, _, (hs _ _).mpr (.inl ⟨li, ha⟩), (w1'.snoc s).app (T.up w2), (he _ _).mpr (.inr ⟨q, rfl, hb⟩), rfl⟩
theorem val_add (T : Two nA EA EB (fun _ _ _ => False) E) (hs : Cat nA sA sB st) (he : Cat nA eA eB en) (lS : ∀ i a, sA i = some a → i < nA) (lE : ∀ i a, eA i = some a → i < nA) {r q : R}
    (v : ValS (Acc sA eA EA) r) (u : ValS (Acc sB eB EB) q) : ValS (Acc st en E) (minR r q) := by
  refine val_or (fun c => ?_) v u
  rw [acc_two T hs he]
  constructor
  · rintro (⟨i, j, a, b, n, d, _, _, ha, w, hb, rfl⟩ | h | ⟨_, _, _, _, _, _, _, _, _, _, _, _, _, _, f, _⟩)
    · exact .inl ⟨i, j, a, b, n, d, ha, w, hb, rfl⟩
    · exact .inr h
    · exact f.elim
  · rintro (⟨i, j, a, b, n, d, ha, w, hb, rfl⟩ | h)
    · exact .inl ⟨i, j, a, b, n, d, lS _ _ ha, lE _ _ hb, ha, w, hb, rfl⟩
    · exact .inr (.inl h)
/-- what a row's steps and the ends behind them come to at least -/
def Dot (f g : Nat → Option Int) (c : Int) : Prop := ∃ t a b, f t = some a ∧ g t = some b ∧ c = a + b
theorem val_join {X : Nat → Nat → Int → Prop} {z : Option Int} (hz : MinOf (Dot sA eA) z)
    (T : Two nA EA EB X E) (lS : ∀ i a, sA i = some a → i < nA)
    (dn : ∀ i k c, X i k c → ∃ t a e b, EA i t a ∧ eA t = some e ∧ sB k = some b ∧ c = a + e + b)
    (up : ∀ i t k a e b, EA i t a → eA t = some e → sB k = some b → ∃ c, c ≤ a + e + b ∧ X i k c)
    (hs : Cat nA sA (fun k => z.bind fun y => (sB k).map (y + ·)) st) (he : Cat nA (fun _ => none) eB en) {r q : R}
    (v : ValS (Acc sA eA EA) r) (u : ValS (Acc sB eB EB) q) : ValS (Acc st en E) (sumR r q) := by
  refine (val_sum v u).of_und (fun c hc => ?_) (fun c hc => ?_)
  · refine ⟨c, ?_, Int.le_refl c⟩
    rcases (acc_two T hs he c).mp hc with ⟨i, j, a, b, n, d, _, _, ha, w, hb, _⟩ | ⟨p, q', a, b, n, d, ha, w, hb, rfl⟩ | ⟨i, a, m1, x, d1, k, d2, m2, q', d3, b, li, ha, w1, hx, w2, hb, rfl⟩
    · cases hb
    · cases z with
      | none => cases ha
      | some y =>
        obtain ⟨b0, hb0, rfl⟩ := Option.map_eq_some_iff.mp ha
        obtain ⟨t, a1, e1, h1, h2, rfl⟩ := (hz.2 y rfl).1
        exact ⟨a1 + e1, b0 + d + b, ⟨t, t, a1, e1, 0, 0, h1, .nil t, h2, by omega⟩, ⟨p, q', b0, b, n, d, hb0, w, hb, rfl⟩, by omega⟩
    · obtain ⟨t, a1, e1, b1, h1, h2, h3, rfl⟩ := dn _ _ _ hx
      exact ⟨a + (d1 + a1) + e1, b1 + d3 + b, ⟨i, t, a, e1, _, _, ha, w1.snoc h1, h2, rfl⟩, ⟨k, q', b1, b, m2, d3, h3, w2, hb, rfl⟩, by omega⟩
  · obtain ⟨x, y, ⟨i, j, a, b, n, d, ha, w, hb, rfl⟩, ⟨p, q', a', b', m, d', ha', w', hb', rfl⟩, rfl⟩ := hc
    cases w with
    | nil =>
      obtain ⟨y, hy⟩ : ∃ y, z = some y := by
        cases e : z with
        | none => exact absurd ⟨_, _, _, ha, hb, rfl⟩ (hz.1 e (a + b))
        | some y => exact ⟨y, rfl⟩
      subst hy
      have l := (hz.2 y rfl).2 (a + b) ⟨_, _, _, ha, hb, rfl⟩
      exact ⟨(y + a') + d' + b', (acc_two T hs he _).mpr (.inr (.inl ⟨p, q', y + a', b', m, d', by show Option.map _ (sB p) = _; rw [ha']; rfl, w', hb', rfl⟩)), by omega⟩
    | snoc w1 e1 =>
      obtain ⟨c2, l, hx⟩ := up _ _ _ _ _ _ e1 hb ha'
      exact ⟨_, (acc_two T hs he _).mpr (.inr (.inr ⟨i, a, _, _, _, p, c2, m, q', d', b', lS _ _ ha, ha, w1, hx, w', hb', rfl⟩)), by omega⟩
end
/-! ### closed -/
section
variable {n : Nat} {st en st' en' : Nat → Option Int} {EM E : Nat → Nat → Int → Prop}
structure Clo (n : Nat) (st en : Nat → Option Int) (EM E : Nat → Nat → Int → Prop) : Prop where
  lM : ∀ i j c, EM i j c → i < n ∧ j < n
  lS : ∀ i a, st i = some a → i < n
  lE : ∀ i a, en i = some a → i < n
  no : ∀ i a b, st i = some a → en i = some b → False
  dn : ∀ i j c, E i j c → EM i j c ∨ ∃ x a e s, EM i x a ∧ en x = some e ∧ st j = some s ∧ c = a + e + s
  up1 : ∀ i j c, EM i j c → ∃ c', c' ≤ c ∧ E i j c'
  up2 : ∀ i x j a e s, EM i x a → en x = some e → st j = some s → ∃ c', c' ≤ a + e + s ∧ E i j c'
theorem Clo.wk (C : Clo n st en EM E) {m i j : Nat} {d : Int} (w : Wk EM m i j d) : ∃ d', d' ≤ d ∧ Wk E m i j d' := by
  induction w with
  | nil i => exact ⟨0, Int.le_refl 0, .nil i⟩
  | snoc _ e ih =>
    obtain ⟨d1, l1, w1⟩ := ih
    obtain ⟨d2, l2, e2⟩ := C.up1 _ _ _ e
    exact ⟨_, by omega, w1.snoc e2⟩
theorem Clo.back (C : Clo n st en EM E) {m i j : Nat} {d : Int} (w : Wk E m i j d) : ∀ a, st i = some a →
    ∃ L i' a' m' d', Sums (Acc st en EM) L ∧ st i' = some a' ∧ Wk EM m' i' j d' ∧ a + d = L + a' + d' := by
  induction w with
  | nil i => exact fun a h => ⟨0, i, a, 0, 0, .nil, h, .nil i, by omega⟩
  | @snoc m i j k d c w0 e ih =>
    intro a h
    obtain ⟨L, i', a', m', d', hL, hi', w', eq⟩ := ih a h
    rcases C.dn _ _ _ e with e1 | ⟨x, a1, e1, s1, h1, h2, h3, rfl⟩
    · exact ⟨L, i', a', m' + 1, d' + c, hL, hi', w'.snoc e1, by omega⟩
    · exact ⟨L + (a' + (d' + a1) + e1), k, s1, 0, 0, hL.snoc ⟨i', x, a', e1, _, _, hi', w'.snoc h1, h2, rfl⟩, h3, .nil k, by omega⟩
theorem Clo.fore (C : Clo n st en EM E) {L : Int} (h : Sums (Acc st en EM) L) : ∀ i2 s2, st i2 = some s2 → ∃ i a m d, st i = some a ∧ Wk E m i i2 d ∧ a + d ≤ L + s2 := by
  induction h with
  | nil => exact fun i2 s2 h => ⟨i2, s2, 0, 0, h, .nil i2, by omega⟩
  | @snoc c d hc hd ih =>
    intro i2 s2 h2
    obtain ⟨k0, j, sa, eb, m, dd, ha, w, hb, rfl⟩ := hd
    obtain ⟨i, a, m1, d1, hi, w1, l1⟩ := ih k0 sa ha
    cases w with
    | nil => exact (C.no _ _ _ ha hb).elim
    | snoc w0 e0 =>
      obtain ⟨d2, l2, w2⟩ := C.wk w0
      obtain ⟨d3, l3, e3⟩ := C.up2 _ _ _ _ _ _ e0 hb h2
      exact ⟨i, a, _, _, hi, (w1.app w2).snoc e3, by omega⟩
theorem val_close (C : Clo n st en EM E) (hs : ∀ i a, st' i = some a ↔ st i = some a ∨ (i = n ∧ a = 0)) (he : ∀ i a, en' i = some a ↔ en i = some a ∨ (i = n ∧ a = 0)) {r : R}
    (v : ValS (Acc st en EM) r) : ValS (Acc st' en' E) (starR r) := by
  have out : ∀ {j c}, ¬ E n j c := fun {j c} e => by
    rcases C.dn _ _ _ e with e1 | ⟨x, a1, e1, s1, h1, _⟩
    · have := (C.lM _ _ _ e1).1; omega
    · have := (C.lM _ _ _ h1).1; omega
  have inn : ∀ {i c}, ¬ E i n c := fun {i c} e => by
    rcases C.dn _ _ _ e with e1 | ⟨x, a1, e1, s1, h1, h2, h3, _⟩
    · have := (C.lM _ _ _ e1).2; omega
    · have := C.lS _ _ h3; omega
  have alone1 : ∀ {m j d}, Wk E m n j d → j = n ∧ d = 0 := fun {m j d} w => by
    cases m with
    | zero => have := w.zero; exact ⟨this.1.symm, this.2⟩
    | succ m => obtain ⟨_, _, _, e, _⟩ := w.uncons; exact (out e).elim
  have alone2 : ∀ {m i d}, Wk E m i n d → i = n ∧ d = 0 := fun {m i d} w => by
    cases w with
    | nil => exact ⟨rfl, rfl⟩
    | snoc _ e => exact (inn e).elim
  refine (val_star v).of_und (fun c hc => ?_) (fun c hc => ?_)
  · refine ⟨c, ?_, Int.le_refl c⟩
    obtain ⟨i, j, a, b, m, d, ha, w, hb, rfl⟩ := hc
    rcases (hs _ _).mp ha with ha' | ⟨rfl, rfl⟩
    · rcases (he _ _).mp hb with hb' | ⟨rfl, rfl⟩
      · obtain ⟨L, i', a', m', d', hL, hi', w', eq⟩ := C.back w a ha'
        have := hL.snoc ⟨i', j, a', b, m', d', hi', w', hb', rfl⟩
        rwa [show L + (a' + d' + b) = a + d + b by omega] at this
      · have := (alone2 w).1
        have := C.lS _ _ ha'
        omega
    · obtain ⟨rfl, rfl⟩ := alone1 w
      rcases (he _ _).mp hb with hb' | ⟨_, rfl⟩
      · have := C.lE _ _ hb'; omega
      · exact .nil
  · cases hc with
    | nil => exact ⟨0, ⟨n, n, 0, 0, 0, 0, (hs _ _).mpr (.inr ⟨rfl, rfl⟩), .nil n, (he _ _).mpr (.inr ⟨rfl, rfl⟩), rfl⟩, Int.le_refl 0⟩
    | snoc hL hd =>
      obtain ⟨k0, j, sa, eb, m, dd, ha, w, hb, rfl⟩ := hd
      obtain ⟨i, a, m1, d1, hi, w1, l1⟩ := C.fore hL k0 sa ha
      obtain ⟨d2, l2, w2⟩ := C.wk w
      exact ⟨_, ⟨i, j, a, eb, _, _, (hs _ _).mpr (.inl hi), w1.app w2, (he _ _).mpr (.inl hb), rfl⟩, by omega⟩
end
/-! ### one word -/
theorem val_single {st en : Nat → Option Int} {E : Nat → Nat → Int → Prop} {n : Nat} (hs : ∀ i a, st i = some a ↔ i = 0 ∧ a = 0) (he : ∀ i a, en i = some a ↔ i = n ∧ a = 0)
    (h0 : ∀ i j c, E i j c → c = 0) (h1 : ∀ i, i < n → E i (i + 1) 0) : ValS (Acc st en E) (.least 0) := by
  have way : ∀ m, m ≤ n → Wk E m 0 m 0 := by
    intro m
    induction m with
    | zero => exact fun _ => .nil 0
    | succ m ih => exact fun l => ((ih (by omega)).snoc (h1 m (by omega))).cast rfl (by omega)
  have none : ∀ {m i j c}, Wk E m i j c → c = 0 := by
    intro m i j c w
    induction w with
    | nil => rfl
    | snoc _ e ih => have := h0 _ _ _ e; omega
  refine ⟨⟨0, n, 0, 0, n, 0, (hs _ _).mpr ⟨rfl, rfl⟩, way n (Nat.le_refl n), (he _ _).mpr ⟨rfl, rfl⟩, rfl⟩, ?_⟩
  rintro c ⟨i, j, a, b, m, d, ha, w, hb, rfl⟩
  have := ((hs _ _).mp ha).2
  have := ((he _ _).mp hb).2
  have := none w
  omega
end BF
set_option Elab.async false
set_option linter.all false
set_option maxRecDepth 100000
set_option maxHeartbeats 4000000
/-! The base: data, heaps, the bundles of promises. -/
namespace L2.Ww
open PySem PySem.Spec PyProof.Rows
/-! ### the text -/
def top (i : Nat) : Stmt := PySem.Challenge.pw_weighwalk_k96_whole_cheapest_at_a_desk.main.body.getD i (.Pass ⟨0, 0, 0, 0⟩)

/-! ### data without the heap: atoms and tuples -/
inductive D where
  | a (x : V)
  | t (ds : List D)
mutual
def Rep (H : Hp) : D → V → Prop
  | .a x, v => v = x
  | .t ds, v => ∃ p vs, v = .ref p ∧ H p = some (.tup vs) ∧ Reps H ds vs
def Reps (H : Hp) : List D → List V → Prop
  | [], vs => vs = []
  | d :: ds, vs => ∃ v r, vs = v :: r ∧ Rep H d v ∧ Reps H ds r
end
/-- tuples stay -/
def TupLe (H H' : Hp) : Prop := ∀ p vs, H p = some (.tup vs) → H' p = some (.tup vs)
theorem TupLe.refl (H : Hp) : TupLe H H := fun _ _ h => h
theorem TupLe.trans {H H1 H2 : Hp} (a : TupLe H H1) (b : TupLe H1 H2) : TupLe H H2 := fun p vs h => b p vs (a p vs h)
theorem TupLe.of_same {H H' : Hp} (a : Same H H') : TupLe H H' := fun p vs h => a p _ h
theorem TupLe.upd {H : Hp} {p : Addr} {o : HO} (h : ∀ vs, H p ≠ some (.tup vs)) : TupLe H (upd H p o) := fun q vs hq => by
  have hne : q ≠ p := fun e => h vs (e ▸ hq)
  rw [upd_ne hne]; exact hq
theorem TupLe.upd_none {H : Hp} {p : Addr} {o : HO} (h : H p = none) : TupLe H (L2.upd H p o) := TupLe.upd fun vs e => by rw [h] at e; cases e
theorem TupLe.upd_lst {H : Hp} {p : Addr} {o : HO} {xs : List V} (h : H p = some (.lst xs)) : TupLe H (L2.upd H p o) := TupLe.upd fun vs e => by rw [h] at e; cases e
theorem TupLe.upd_dK {H : Hp} {p : Addr} {o : HO} {kvs : List (Key × V)} (h : H p = some (.dK kvs)) : TupLe H (L2.upd H p o) := TupLe.upd fun vs e => by rw [h] at e; cases e
theorem Same.upd {H H' : Hp} {p : Addr} {o : HO} (s : Same H H') (h : H p = none) : Same H (upd H' p o) := fun b u e => by
  rw [upd_ne (ne_of_none e h)]; exact s b u e
theorem Same.upd' {H : Hp} {p : Addr} {o : HO} (h : H p = none) : Same H (L2.upd H p o) := Same.upd (Same.refl H) h

mutual
theorem Rep.up {H H' : Hp} (k : TupLe H H') : ∀ {d : D} {v : V}, Rep H d v → Rep H' d v
  | .a _, _, h => h
  | .t _, _, h => by
    obtain ⟨p, vs, e, hp, r⟩ := h
    exact ⟨p, vs, e, k p vs hp, Reps.up k r⟩
theorem Reps.up {H H' : Hp} (k : TupLe H H') : ∀ {ds : List D} {vs : List V}, Reps H ds vs → Reps H' ds vs
  | [], _, h => h
  | _ :: _, _, h => by
    obtain ⟨v, r, e, h1, h2⟩ := h
    exact ⟨v, r, e, Rep.up k h1, Reps.up k h2⟩
end
theorem Rep.same {H H' : Hp} (k : Same H H') {d : D} {v : V} (h : Rep H d v) : Rep H' d v := Rep.up (TupLe.of_same k) h
theorem Reps.same {H H' : Hp} (k : Same H H') {ds : List D} {vs : List V} (h : Reps H ds vs) : Reps H' ds vs := Reps.up (TupLe.of_same k) h
section
variable {H H' : Hp}
theorem Reps.len : ∀ {ds : List D} {vs : List V}, Reps H ds vs → vs.length = ds.length
  | [], vs, h => by rw [show vs = [] from h]; rfl
  | _ :: _, _, h => by
    obtain ⟨v, r, e, _, h2⟩ := h
    rw [e, List.length_cons, List.length_cons, h2.len]
theorem Reps.get : ∀ {ds : List D} {vs : List V} {i : Nat} {d : D}, Reps H ds vs → ds[i]? = some d → ∃ v, vs[i]? = some v ∧ Rep H d v
  | [], _, _, _, _, e => by simp at e
  | _ :: _, _, 0, d, h, e => by
    obtain ⟨v, r, e1, h1, _⟩ := h
    simp at e
    subst e e1
    exact ⟨v, rfl, h1⟩
  | _ :: ds, _, i + 1, d, h, e => by
    obtain ⟨v, r, e1, _, h2⟩ := h
    subst e1
    obtain ⟨w, hw, hr⟩ := h2.get (i := i) (d := d) (by simpa using e)
    exact ⟨w, by simpa using hw, hr⟩
theorem Reps.getV {ds : List D} {vs : List V} {i : Nat} {v : V} (h : Reps H ds vs) (e : vs[i]? = some v) : ∃ d, ds[i]? = some d ∧ Rep H d v := by
  have hi : i < vs.length := (List.getElem?_eq_some_iff.mp e).1
  have hi2 : i < ds.length := by rw [← h.len]; exact hi
  obtain ⟨w, hw, hr⟩ := h.get (List.getElem?_eq_getElem hi2)
  rw [e] at hw
  cases hw
  exact ⟨_, List.getElem?_eq_getElem hi2, hr⟩
theorem Reps.app : ∀ {ds es : List D} {vs ws : List V}, Reps H ds vs → Reps H es ws → Reps H (ds ++ es) (vs ++ ws)
  | [], _, vs, _, h, k => by rw [show vs = [] from h]; exact k
  | d :: ds, es, _, _, h, k => by
    obtain ⟨v, r, e, h1, h2⟩ := h
    subst e
    exact ⟨v, r ++ _, rfl, h1, h2.app k⟩
theorem Reps.snoc {ds : List D} {vs : List V} {d : D} {v : V} (h : Reps H ds vs) (k : Rep H d v) : Reps H (ds ++ [d]) (vs ++ [v]) := h.app ⟨v, [], rfl, k, rfl⟩
theorem Reps.atoms : ∀ {xs vs : List V}, Reps H (xs.map D.a) vs ↔ vs = xs
  | [], vs => Iff.rfl
  | x :: xs, vs => by
    constructor
    · rintro ⟨v, r, e, h1, h2⟩
      rw [e, show v = x from h1, Reps.atoms.mp h2]
    · rintro rfl
      exact ⟨x, xs, rfl, rfl, Reps.atoms.mpr rfl⟩
theorem Reps.nil : Reps H [] [] := rfl
theorem Reps.cons {d : D} {ds : List D} {v : V} {vs : List V} (h : Rep H d v) (k : Reps H ds vs) : Reps H (d :: ds) (v :: vs) := ⟨v, vs, rfl, h, k⟩
theorem Reps.take (n : Nat) : ∀ {ds : List D} {vs : List V}, Reps H ds vs → Reps H (ds.take n) (vs.take n) := by
  induction n with
  | zero => intro ds vs _; rw [List.take_zero, List.take_zero]; rfl
  | succ n ih =>
    intro ds vs h
    cases ds with
    | nil => rw [show vs = [] from h]; exact Reps.nil
    | cons d ds =>
      obtain ⟨v, r, e, h1, h2⟩ := h
      subst e
      exact ⟨v, _, rfl, h1, ih h2⟩
theorem Reps.drop (n : Nat) : ∀ {ds : List D} {vs : List V}, Reps H ds vs → Reps H (ds.drop n) (vs.drop n) := by
  induction n with
  | zero => intro ds vs h; rw [List.drop_zero, List.drop_zero]; exact h
  | succ n ih =>
    intro ds vs h
    cases ds with
    | nil => rw [show vs = [] from h]; exact Reps.nil
    | cons d ds =>
      obtain ⟨v, r, e, h1, h2⟩ := h
      subst e
      exact ih h2
theorem Reps.set {ds : List D} {vs : List V} {d : D} {v : V} (h : Reps H ds vs) (k : Rep H d v) : ∀ i, Reps H (ds.set i d) (vs.set i v) := by
  intro i
  induction i generalizing ds vs with
  | zero =>
    cases ds with
    | nil => rw [show vs = [] from h]; exact Reps.nil
    | cons e ds =>
      obtain ⟨u, r, e1, h1, h2⟩ := h
      subst e1
      exact ⟨v, r, rfl, k, h2⟩
  | succ i ih =>
    cases ds with
    | nil => rw [show vs = [] from h]; exact Reps.nil
    | cons e ds =>
      obtain ⟨u, r, e1, h1, h2⟩ := h
      subst e1
      exact ⟨u, _, rfl, h1, ih h2⟩
end
/-- a list at p of data -/
def LstAt (H : Hp) (p : Addr) (ds : List D) : Prop := ∃ vs, H p = some (.lst vs) ∧ Reps H ds vs
theorem LstAt.same {H H' : Hp} (k : Same H H') {p : Addr} {ds : List D} (h : LstAt H p ds) : LstAt H' p ds := by
  obtain ⟨vs, e, r⟩ := h
  exact ⟨vs, k _ _ e, r.same k⟩
/-- a new datum: what follows may count on it -/
def Gives (H : Hp) (d : D) (Q : VK) : Prop := ∀ v H', Same H H' → Rep H' d v → Q v H'
/-- a new list -/
def GivesL (H : Hp) (ds : List D) (Q : VK) : Prop := ∀ p H', Same H H' → H p = none → LstAt H' p ds → Q (.ref p) H'

/-! ### promises by names -/
section
variable (P : Program) (w : World) (K : PySem.W.Frag) (mg : Str → Option Value) (base : Heap)
/-- where a def stands -/
def DefAt (x : Str) (st : Stmt) : Prop := ∃ f fd, mg x = some (.ref f) ∧ FunD K x x (defArgs st) (defBody st) (defScope st) [] [] f fd
def MetAt (C : Addr) (m qual : Str) (st : Stmt) : Prop := ∃ f fd, Meth K C m f ∧ FunD K m qual (defArgs st) (defBody st) (defScope st) [] [] f fd
structure Cal (CX : CXT) (k : Nat) (x : Str) (sp : Sp) : Prop where
  ex : ∃ (f : Addr) (fd : FuncData) (ps : List Str), FnOk P w K mg base CX k f fd ps sp ∧ mg x = some (.ref f) ∧ PySem.W.keepIn K (.ref f) = true ∧ Binds K fd ps []
structure Met (CX : CXT) (k : Nat) (C : Addr) (m : Str) (sp : Sp) : Prop where
  ex : ∃ (f : Addr) (fd : FuncData) (ps : List Str), Cls K C ∧ Meth K C m f ∧ FnOk P w K mg base CX k f fd ps sp ∧ Binds K fd ps []
end
section
variable {P : Program} {w : World} {K : PySem.W.Frag} {mg : Str → Option Value} {base : Heap}
/-- how parameters bind: every one is given -/
abbrev Bnd (x qual : Str) (st : Stmt) (ps : List Str) : Prop := ∀ (kV doc pm : Value) (an : Option Addr) (cdv ct : Value) (us : List Value), us.length = ps.length → bindArgs (PySem.W.fnOf x qual (defArgs st) (defBody st) (defScope st) .none kV doc pm an cdv ct) ⟨us, []⟩ = pure (ps.zip us)
theorem cal_ok {CX : CXT} {x : Str} {st : Stmt} {N ps : List Str} {k : Nat} {sp : Sp} (F : DefAt K mg x st) (b : Bnd x x st ps) (S : FnScope N ps (defScope st)) (len : ∀ vs H Q E, sp vs H Q E → vs.length = ps.length)
    (hbody : ∀ (cdv : Value) (A : Around) (outer : List Env) (s : Shared) (f : Addr) (H : Hp) (vs : List V) (Q : VK) (E : XK), Room k (A.deeper (envOfC x (defScope st) s.heap.objs.size f cdv)) → sp vs H Q E →
      ∃ t, PSs (cxOf CX P w K mg base N x (defScope st) f cdv A outer s H E) (defBody st) t ∧ t { nx := fun _ H' => Q .non H', rt := Q } (start N vs) H) : Cal P w K mg base CX (k + 1) x sp := by
  obtain ⟨f, fd, hm, F⟩ := F
  exact ⟨f, fd, ps, F.ok S len fun cdv A outer s H vs Q E => hbody cdv A outer s f H vs Q E, hm, F.kp, F.bindsN b⟩
theorem met_ok {CX : CXT} {m qual : Str} {C : Addr} {st : Stmt} {N ps : List Str} {k : Nat} {sp : Sp} (c : Cls K C) (F : MetAt K C m qual st) (b : Bnd m qual st ps) (S : FnScope N ps (defScope st)) (len : ∀ vs H Q E, sp vs H Q E → vs.length = ps.length)
    (hbody : ∀ (cdv : Value) (A : Around) (outer : List Env) (s : Shared) (f : Addr) (H : Hp) (vs : List V) (Q : VK) (E : XK), Room k (A.deeper (envOfC qual (defScope st) s.heap.objs.size f cdv)) → sp vs H Q E →
      ∃ t, PSs (cxOf CX P w K mg base N qual (defScope st) f cdv A outer s H E) (defBody st) t ∧ t { nx := fun _ H' => Q .non H', rt := Q } (start N vs) H) : Met P w K mg base CX (k + 1) C m sp := by
  obtain ⟨f, fd, hm, F⟩ := F
  exact ⟨f, fd, ps, c, hm, F.ok S len fun cdv A outer s H vs Q E => hbody cdv A outer s f H vs Q E, F.bindsN b⟩
/-- a promise that asks what never is -/
theorem Cal.never {CX : CXT} {x : Str} {sp : Sp} {k : Nat} {P : Program} {w : World} {K : PySem.W.Frag} {mg : Str → Option Value} {base : Heap} (st : Stmt) (ps : List Str) (F : DefAt K mg x st) (b : Bnd x x st ps) (h : ∀ vs H Q E, ¬ sp vs H Q E) : Cal P w K mg base CX k x sp := by
  obtain ⟨f, fd, hm, F⟩ := F
  exact ⟨f, fd, ps, ⟨fun vs H Q E z => (h _ _ _ _ z).elim, fun _ _ _ _ _ _ _ _ _ _ _ _ _ z => (h _ _ _ _ z).elim⟩, hm, F.kp, F.bindsN b⟩
end

/-! ### calls -/
/-- f(..), what is raised goes to E -/
def tCal (sp : Sp) (E : St → XK) (t : TA) : TE := fun σ H Q => t σ H fun vs H1 => sp vs H1 Q (E σ)
def tMet (C : Addr) (m : Str) (sp : Sp) (E : St → XK) (ta : TE) (t : TA) : TE := fun σ H Q => ta σ H fun x H1 => ∃ a dx fs, x = .ref a ∧ H1 a = some (.ins C dx fs) ∧ fs.lookup m = none ∧ t σ H1 fun vs H2 => sp (x :: vs) H2 Q (E σ)
abbrev ENo : St → XK := fun _ => E0
section
variable {X : Cx} {k j : Nat} {C : Addr} {x m : Str} {sp : Sp} {p pos apos : Pos} {e o : Expr} {es : List Expr} {ta : TE} {t : TA} {W : WX}
theorem PE.imp {e : Expr} {t t' : TE} (h : PE X e t) (k : ∀ σ H Q, t' σ H Q → t σ H Q) : PE X e t' := ⟨fun pins s σ H Q I q => h.run pins s σ H Q I (k σ H Q q)⟩
/-- a def that raises nothing -/
theorem pe_c0 (c : Cal X.prog X.w X.K X.mg X.base CX0 k x sp) (hr : Room j X.A) (hk : k ≤ j) (hg : Gl X x) (ha : PA X (e :: es) t)
    (hdb : (x == ("__debug__" : Str)) = false := by decide) (he : starEach (e :: es) X.env = (false, eval e X.env) :: starEach es X.env := by rfl) (hpl : (backTo pos (starEach es X.env)).any (·.1) = false := by rfl) :
    PE X (.Call (.Name x p) (e :: es) [] pos) (tCal sp ENo t) := by
  obtain ⟨f, fd, ps, F, hm, kp, b⟩ := c.ex
  refine PE.imp (pe_call F (hr.mono hk) hg hm kp b .nil pass0 ha hdb he hpl) fun σ H Q q => ?_
  have e1 : (fun (vs : List V) H1 => sp (vs ++ []) H1 Q E0) = fun vs H1 => sp vs H1 Q E0 := by funext vs H1; rw [List.append_nil]
  show t σ H fun vs H1 => sp (vs ++ []) H1 Q E0
  rw [e1]; exact q
/-- a def that may raise -/
theorem pe_cX (c : Cal X.prog X.w X.K X.mg X.base (L2.CX X.prog X.w) k x sp) (tk : Takes X W) (hr : Room j X.A) (hk : k ≤ j) (hg : Gl X x) (ha : PA X (e :: es) t)
    (hdb : (x == ("__debug__" : Str)) = false := by decide) (he : starEach (e :: es) X.env = (false, eval e X.env) :: starEach es X.env := by rfl) (hpl : (backTo pos (starEach es X.env)).any (·.1) = false := by rfl) :
    PE X (.Call (.Name x p) (e :: es) [] pos) (tCal sp (WE W) t) := by
  obtain ⟨f, fd, ps, F, hm, kp, b⟩ := c.ex
  exact pe_callS F (hr.mono hk) hg hm kp b (fun σ => passAt tk σ) ha hdb he hpl
theorem pe_m0X {pl : Sem Bool} (c : Met X.prog X.w X.K X.mg X.base (L2.CX X.prog X.w) k C m sp) (tk : Takes X W) (hr : Room j X.A) (hk : k ≤ j) (he : PE X o ta) (ha : PA X (e :: es) t)
    (hst : starEach (e :: es) X.env = (false, eval e X.env) :: starEach es X.env := by rfl) (hpl : (backTo pos (starEach es X.env)).any (·.1) = false := by rfl)
    (ht : eval (.Call (.Attribute o m apos) (e :: es) [] pos) X.env = (do
      let ov ← eval o X.env
      standAt apos.atName
      let (f, first) ← holding [ov] (getMethod ov m pl)
      callWith pos f first (backTo pos (starEach (e :: es) X.env)) (backToKw pos (keywordEach [] X.env))) := by rfl) :
    PE X (.Call (.Attribute o m apos) (e :: es) [] pos) (tMet C m sp (WE W) ta t) := by
  obtain ⟨f, fd, ps, hc, hm, F, b⟩ := c.ex
  refine ⟨fun pins s σ H Q I h => ?_⟩
  refine PySem.W.methodCall_KW (pl := pl) (thn (he.run pins s σ H _ I h) fun u s1 ⟨x, H1, I1, rx, a, dx, fs, ex, ea, l, q⟩ => ?_) ht
  subst ex
  obtain rfl : u = Value.ref a := rx
  refine getmeth_ok I1 ea hc hm l ?_
  refine PySem.W.callWith_K (first := [.ref a]) (h₀ := X.base) I.ok.mod.kin hm.kp (thn (ha.run pos pins s1 σ H1 _ I1 q) fun us s2 ⟨vs, H2, I2, r, q2⟩ => ⟨I2.kIn, ?_⟩) hst hpl
  exact run_fnS (us := .ref a :: us) (vs := .ref a :: vs) F (hr.mono hk) b (passAt tk σ) I2 (.cons rfl r) q2
theorem pe_m00 {pl : Sem Bool} (c : Met X.prog X.w X.K X.mg X.base CX0 k C m sp) (hr : Room j X.A) (hk : k ≤ j) (he : PE X o ta)
    (ht : eval (.Call (.Attribute o m apos) [] [] pos) X.env = (do
      let ov ← eval o X.env
      standAt apos.atName
      let (f, first) ← holding [ov] (getMethod ov m pl)
      callWith pos f first (backTo pos (starEach [] X.env)) (backToKw pos (keywordEach [] X.env))) := by rfl) :
    PE X (.Call (.Attribute o m apos) [] [] pos) (tMet C m sp ENo ta tNil) := by
  obtain ⟨f, fd, ps, hc, hm, F, b⟩ := c.ex
  exact pe_meth0 (pl := pl) he hc hm F (hr.mono hk) b .nil pass0 ht
theorem pe_mc {pl : Sem Bool} (c : Met X.prog X.w X.K X.mg X.base CX0 k C m sp) (hr : Room j X.A) (hk : k ≤ j) (he : PE X o ta) (ha : PA X (e :: es) t)
    (hst : starEach (e :: es) X.env = (false, eval e X.env) :: starEach es X.env := by rfl) (hpl : (backTo pos (starEach es X.env)).any (·.1) = false := by rfl)
    (ht : eval (.Call (.Attribute o m apos) (e :: es) [] pos) X.env = (do
      let ov ← eval o X.env
      standAt apos.atName
      let (f, first) ← holding [ov] (getMethod ov m pl)
      callWith pos f first (backTo pos (starEach (e :: es) X.env)) (backToKw pos (keywordEach [] X.env))) := by rfl) :
    PE X (.Call (.Attribute o m apos) (e :: es) [] pos) (tMet C m sp ENo ta t) := by
  obtain ⟨f, fd, ps, hc, hm, F, b⟩ := c.ex
  refine PE.imp (pe_meth (pl := pl) he hc hm F (hr.mono hk) b .nil pass0 ha hst hpl ht) fun σ H Q q => ?_
  have e1 : (fun (y : V) (vs : List V) H1 => sp (y :: (vs ++ [])) H1 Q E0) = fun y vs H1 => sp (y :: vs) H1 Q E0 := by funext y vs H1; rw [List.append_nil]
  show ta σ H fun y H1 => ∃ a dx fs, y = .ref a ∧ H1 a = some (.ins C dx fs) ∧ fs.lookup m = none ∧ t σ H1 fun vs H2 => (fun (y : V) (vs : List V) H1 => sp (y :: (vs ++ [])) H1 Q E0) y vs H2
  rw [e1]; exact q
/-- C() of a class without an __init__ of its own -/
structure M0 (K : PySem.W.Frag) (C : Addr) : Prop where
  makes : PySem.W.makesIn K C = true
  init : PySem.W.findIn K (.ref C) "__init__" = some (some (.builtin "object.__init__"))
  obj : PySem.W.mroIn K C (.type "object") = some true
  kp : PySem.W.keepIn K (.ref C) = true
theorem pe_mk00 (M : M0 X.K C) (hg : Gl X x) (hm : X.mg x = some (.ref C)) (hdb : (x == ("__debug__" : Str)) = false := by decide) :
    PE X (.Call (.Name x p) [] [] pos) (fun _ H Q => ∀ a dx, H a = none → H dx = none → dx ≠ a → Q (.ref a) (upd (upd H dx (.own a)) a (.ins C dx []))) := by
  refine ⟨fun pins s σ H Q I h => ?_⟩
  refine wpAny_Call_Name_kw (ld_glob I hg hm ?_ hdb)
  refine PySem.W.callWith_K0 I.kIn M.kp ?_
  have hq := h (s.heap.objs.size + 1) s.heap.objs.size (I.hok.fresh (Nat.le_succ _)) (I.hok.fresh (Nat.le_refl _)) (Nat.ne_of_lt (Nat.lt_succ_self _))
  have I2 := Inv.made (C := C) I
  refine wpAny_call (make_map0 I.kIn M.makes M.init (fun self => PySem.W.Looks.of_pure (PySem.W.oi_bind self)) ?_)
  have e2 : ((s.heap.push PySem.W.emptyDict).push (PySem.W.instObj C s.heap.objs.size)).get? (s.heap.objs.size + 1) = some (PySem.W.instObj C s.heap.objs.size) := by
    have := Heap.get?_push_size (s.heap.push PySem.W.emptyDict) (o := PySem.W.instObj C s.heap.objs.size) rfl
    rwa [Heap.size_push] at this
  have t1 : PySem.W.Looks (model X.prog X.w) ((s.heap.push PySem.W.emptyDict).push (PySem.W.instObj C s.heap.objs.size)) (typeOf (.ref (s.heap.objs.size + 1))) (.ref C) :=
    (PySem.W.Looks.ld e2).andThen (by show PySem.W.Looks _ _ (pure (Value.ref C)) _; exact .now)
  have t2 : PySem.W.Looks (model X.prog X.w) ((s.heap.push PySem.W.emptyDict).push (PySem.W.instObj C s.heap.objs.size)) (isInstance (.ref (s.heap.objs.size + 1)) (.type "object")) true := t1.andThen (PySem.W.looks_mroIn I2.kIn M.obj)
  refine codeAny_call_builtin PySem.W.oi_plain PySem.W.entry_oi (@PySem.W.check_slot (model X.prog X.w) _ _ _ "object.__init__" "object" "__init__" (.ref (s.heap.objs.size + 1)) [] [] _ PySem.W.oi_kind PySem.W.oi_split t2 (NwA.oi_args_any _ [] []) ?_)
  rw [PySem.W.oi_run]
  exact wpAny_pure (And.intro rfl ⟨V.ref (s.heap.objs.size + 1), _, I2, rfl, hq⟩)
end
/-! ### the module's facts -/
/-- what the walk asks of the module as the top has left it -/
structure Txt (w : World) (K : PySem.W.Frag) (mg : Str → Option Value) : Prop where
  f_len : mg "len" = none
  f_range : mg "range" = none
  f_tuple : mg "tuple" = none
  f_list : mg "list" = none
  f_zip : mg "zip" = none
  f_min : mg "min" = none
  f_max : mg "max" = none
  f_sum : mg "sum" = none
  f_str : mg "str" = none
  f_int : mg "int" = none
  f_dict : mg "dict" = none
  f_isinstance : mg "isinstance" = none
  f_set : mg "set" = none
  f_all : mg "all" = none
  f_enumerate : mg "enumerate" = none
  f_reversed : mg "reversed" = none
  f_ValueError : mg "ValueError" = none
  g_MOST_LETTERS : ∃ u, mg "MOST_LETTERS" = some u ∧ RelV (.int 3) u
  g_MOST_ROOMS : ∃ u, mg "MOST_ROOMS" = some u ∧ RelV (.int 20) u
  g_MOST_FIGURES : ∃ u, mg "MOST_FIGURES" = some u ∧ RelV (.int 30) u
  g_MOST_PARTS : ∃ u, mg "MOST_PARTS" = some u ∧ RelV (.int 40) u
  g_MOST_HIGH : ∃ u, mg "MOST_HIGH" = some u ∧ RelV (.int 12) u
  g_MOST_SIGNS : ∃ u, mg "MOST_SIGNS" = some u ∧ RelV (.int 8) u
  g_SMALL : ∃ u, mg "SMALL" = some u ∧ RelV (.str "abcdefghijklmnopqrstuvwxyz") u
  g_FIGURES : ∃ u, mg "FIGURES" = some u ∧ RelV (.str "0123456789") u
  g_SMALL_LETTERS : ∃ u, mg "SMALL_LETTERS" = some u ∧ RelV (.str "abcdefghijklmnopqrstuvwxyz") u
  g_PAIRS : mg "PAIRS" = some (.ref (He.ga K "PAIRS"))
  g_ONES : mg "ONES" = some (.ref (He.ga K "ONES"))
  g_Costs : mg "Costs" = some (.ref (He.ga K "Costs"))
  g_Desk : mg "Desk" = some (.ref (He.ga K "Desk"))
  g_Truths : mg "Truths" = some (.ref (He.ga K "Truths"))
  g_WeighError : mg "WeighError" = some (.ref (He.ga K "WeighError"))
  g_NoKind : mg "NoKind" = some (.ref (He.ga K "NoKind"))
  g_WrongKind : mg "WrongKind" = some (.ref (He.ga K "WrongKind"))
  g_NoWeight : mg "NoWeight" = some (.ref (He.ga K "NoWeight"))
  g_NoWord : mg "NoWord" = some (.ref (He.ga K "NoWord"))
  g_Unlike : mg "Unlike" = some (.ref (He.ga K "Unlike"))
  g_NoClosure : mg "NoClosure" = some (.ref (He.ga K "NoClosure"))
  g_TooGreat : mg "TooGreat" = some (.ref (He.ga K "TooGreat"))
  g_NoText : mg "NoText" = some (.ref (He.ga K "NoText"))
  g_NoName : mg "NoName" = some (.ref (He.ga K "NoName"))
  g_NoRow : mg "NoRow" = some (.ref (He.ga K "NoRow"))
  g_FORMS : mg "FORMS" = some (.ref (He.ga K "FORMS"))
  t_PAIRS : ∀ H : Hp, SqT K H (He.ga K "PAIRS") [.str "sum", .str "then", .str "both"]
  t_ONES : ∀ H : Hp, SqT K H (He.ga K "ONES") [.str "back", .str "star"]
  c_Costs : Cls K (He.ga K "Costs")
  c_Desk : Cls K (He.ga K "Desk")
  d_dot : DefAt K mg "dot" (top 14)
  d_column_at : DefAt K mg "column_at" (top 15)
  d_is_letters : DefAt K mg "is_letters" (top 22)
  d_rooms : DefAt K mg "rooms" (top 23)
  d_check_word : DefAt K mg "check_word" (top 24)
  d_check_letters : DefAt K mg "check_letters" (top 44)
  d_check_rooms : DefAt K mg "check_rooms" (top 45)
  d_noughts : DefAt K mg "noughts" (top 46)
  d_by_all : DefAt K mg "by_all" (top 47)
  d_scaled : DefAt K mg "scaled" (top 48)
  d_added : DefAt K mg "added" (top 49)
  d_joined : DefAt K mg "joined" (top 50)
  d_turned : DefAt K mg "turned" (top 53)
  d_closed : DefAt K mg "closed" (top 54)
  d_single : DefAt K mg "single" (top 55)
  d_steps_of : DefAt K mg "steps_of" (top 57)
  d_reached : DefAt K mg "reached" (top 58)
  d_useful : DefAt K mg "useful" (top 59)
  d_raised : DefAt K mg "raised" (top 60)
  d_levels_of : DefAt K mg "levels_of" (top 61)
  d_way_to : DefAt K mg "way_to" (top 62)
  d_way_out : DefAt K mg "way_out" (top 63)
  d_ring_in : DefAt K mg "ring_in" (top 64)
  d_prices_of : DefAt K mg "prices_of" (top 65)
  d_cheapest : DefAt K mg "cheapest" (top 66)
  d_read_whole : DefAt K mg "read_whole" (top 70)
  d_Costs_nought : MetAt K (He.ga K "Costs") "nought" "Costs.nought" (inClass (top 73) 1)
  d_Costs_one : MetAt K (He.ga K "Costs") "one" "Costs.one" (inClass (top 73) 2)
  d_Costs_plus : MetAt K (He.ga K "Costs") "plus" "Costs.plus" (inClass (top 73) 3)
  d_Costs_times : MetAt K (He.ga K "Costs") "times" "Costs.times" (inClass (top 73) 4)
  d_Costs_shown : MetAt K (He.ga K "Costs") "shown" "Costs.shown" (inClass (top 73) 6)
  d_Costs_read : MetAt K (He.ga K "Costs") "read" "Costs.read" (inClass (top 73) 7)
  d_within : DefAt K mg "within" (top 87)
  d_built : DefAt K mg "built" (top 88)
  d_read_word : DefAt K mg "read_word" (top 89)
  d_read_at : DefAt K mg "read_at" (top 90)
  d_many_parts : DefAt K mg "many_parts" (top 91)
  d_read_saying : DefAt K mg "read_saying" (top 92)
  d_read_line : DefAt K mg "read_line" (top 105)
  d_read_table : DefAt K mg "read_table" (top 106)
  d_read_machine : DefAt K mg "read_machine" (top 107)
  d_is_call : DefAt K mg "is_call" (top 115)
  d_taken_apart : DefAt K mg "taken_apart" (top 116)
  d_Desk_say : MetAt K (He.ga K "Desk") "say" "Desk.say" (inClass (top 117) 1)
  d_Desk_made : MetAt K (He.ga K "Desk") "made" "Desk.made" (inClass (top 117) 2)
  d_Desk_asked : MetAt K (He.ga K "Desk") "asked" "Desk.asked" (inClass (top 117) 3)
  d__law_state : DefAt K mg "_law_state" (top 119)
  d__law_next : DefAt K mg "_law_next" (top 120)
  d__law_rooms : DefAt K mg "_law_rooms" (top 121)
  d__law_letters : DefAt K mg "_law_letters" (top 122)
  d__law_calls : DefAt K mg "_law_calls" (top 123)
  d__law_costs : DefAt K mg "_law_costs" (top 124)
  d__law_far : DefAt K mg "_law_far" (top 125)
  d__law_any_machine : DefAt K mg "_law_any_machine" (top 126)
  d__law_step : DefAt K mg "_law_step" (top 127)
  d__law_come_to : DefAt K mg "_law_come_to" (top 128)
  d__law_of_use : DefAt K mg "_law_of_use" (top 129)
  d__law_round : DefAt K mg "_law_round" (top 130)
  d__law_prices : DefAt K mg "_law_prices" (top 131)
  d__law_told : DefAt K mg "_law_told" (top 132)
  d__law_of : DefAt K mg "_law_of" (top 133)
  d__law_shown : DefAt K mg "_law_shown" (top 134)
  d__law_line : DefAt K mg "_law_line" (top 135)
  d__law_text : DefAt K mg "_law_text" (top 136)
  d__law_lesser : DefAt K mg "_law_lesser" (top 137)
  d__law_read_in : DefAt K mg "_law_read_in" (top 138)
  d__law_added : DefAt K mg "_law_added" (top 139)
  d__law_joined : DefAt K mg "_law_joined" (top 140)
  d__law_made : DefAt K mg "_law_made" (top 141)
  d__law_scaled : DefAt K mg "_law_scaled" (top 142)
  d__law_row : DefAt K mg "_law_row" (top 143)
  d_law : DefAt K mg "law" (top 144)
  n_kind : NoAttr K (He.ga K "Desk") "kind"
  n_letters : NoAttr K (He.ga K "Desk") "letters"
  n_machines : NoAttr K (He.ga K "Desk") "machines"
  k_Desk : Mk K (He.ga K "Desk") (He.ma K (He.ga K "Desk") "__init__")
  d_Desk_init : ∃ fd, FunD K "__init__" "Desk.__init__" (defArgs (inClass (top 117) 0)) (defBody (inClass (top 117) 0)) (defScope (inClass (top 117) 0)) [] [] (He.ma K (He.ga K "Desk") "__init__") fd
  m0_Costs : M0 K (He.ga K "Costs")
  x_NoClosure : PySem.W.excIn K (He.ga K "NoClosure") He.veBase "ValueError.__new__" = true
  kp_NoClosure : PySem.W.keepIn K (.ref (He.ga K "NoClosure")) = true
  b_NoClosure : PySem.W.subIn K (.ref (He.ga K "NoClosure")) (.type "BaseException") = some true
  t_NoClosure : PySem.W.typeIn K (.ref (He.ga K "NoClosure")) = some (.type "type")
  e_NoClosure : PySem.W.exmOne K (.ref (He.ga K "NoClosure")) (.ref (He.ga K "WeighError")) = some true
  ec_NoClosure : ExcC K (He.ga K "NoClosure")
  i_NoClosure_NoKind : PySem.W.kitOne K (.ref (He.ga K "NoClosure")) (.ref (He.ga K "NoKind")) = some false
  i_NoClosure_WrongKind : PySem.W.kitOne K (.ref (He.ga K "NoClosure")) (.ref (He.ga K "WrongKind")) = some false
  i_NoClosure_NoWeight : PySem.W.kitOne K (.ref (He.ga K "NoClosure")) (.ref (He.ga K "NoWeight")) = some false
  i_NoClosure_NoWord : PySem.W.kitOne K (.ref (He.ga K "NoClosure")) (.ref (He.ga K "NoWord")) = some false
  i_NoClosure_Unlike : PySem.W.kitOne K (.ref (He.ga K "NoClosure")) (.ref (He.ga K "Unlike")) = some false
  i_NoClosure_NoClosure : PySem.W.kitOne K (.ref (He.ga K "NoClosure")) (.ref (He.ga K "NoClosure")) = some true
  i_NoClosure_TooGreat : PySem.W.kitOne K (.ref (He.ga K "NoClosure")) (.ref (He.ga K "TooGreat")) = some false
  i_NoClosure_NoText : PySem.W.kitOne K (.ref (He.ga K "NoClosure")) (.ref (He.ga K "NoText")) = some false
  i_NoClosure_NoName : PySem.W.kitOne K (.ref (He.ga K "NoClosure")) (.ref (He.ga K "NoName")) = some false
  i_NoClosure_NoRow : PySem.W.kitOne K (.ref (He.ga K "NoClosure")) (.ref (He.ga K "NoRow")) = some false
  i_NoClosure_ValueError : PySem.W.kitOne K (.ref (He.ga K "NoClosure")) (.type "ValueError") = some true
  x_TooGreat : PySem.W.excIn K (He.ga K "TooGreat") He.veBase "ValueError.__new__" = true
  kp_TooGreat : PySem.W.keepIn K (.ref (He.ga K "TooGreat")) = true
  b_TooGreat : PySem.W.subIn K (.ref (He.ga K "TooGreat")) (.type "BaseException") = some true
  t_TooGreat : PySem.W.typeIn K (.ref (He.ga K "TooGreat")) = some (.type "type")
  e_TooGreat : PySem.W.exmOne K (.ref (He.ga K "TooGreat")) (.ref (He.ga K "WeighError")) = some true
  ec_TooGreat : ExcC K (He.ga K "TooGreat")
  i_TooGreat_NoKind : PySem.W.kitOne K (.ref (He.ga K "TooGreat")) (.ref (He.ga K "NoKind")) = some false
  i_TooGreat_WrongKind : PySem.W.kitOne K (.ref (He.ga K "TooGreat")) (.ref (He.ga K "WrongKind")) = some false
  i_TooGreat_NoWeight : PySem.W.kitOne K (.ref (He.ga K "TooGreat")) (.ref (He.ga K "NoWeight")) = some false
  i_TooGreat_NoWord : PySem.W.kitOne K (.ref (He.ga K "TooGreat")) (.ref (He.ga K "NoWord")) = some false
  i_TooGreat_Unlike : PySem.W.kitOne K (.ref (He.ga K "TooGreat")) (.ref (He.ga K "Unlike")) = some false
  i_TooGreat_NoClosure : PySem.W.kitOne K (.ref (He.ga K "TooGreat")) (.ref (He.ga K "NoClosure")) = some false
  i_TooGreat_TooGreat : PySem.W.kitOne K (.ref (He.ga K "TooGreat")) (.ref (He.ga K "TooGreat")) = some true
  i_TooGreat_NoText : PySem.W.kitOne K (.ref (He.ga K "TooGreat")) (.ref (He.ga K "NoText")) = some false
  i_TooGreat_NoName : PySem.W.kitOne K (.ref (He.ga K "TooGreat")) (.ref (He.ga K "NoName")) = some false
  i_TooGreat_NoRow : PySem.W.kitOne K (.ref (He.ga K "TooGreat")) (.ref (He.ga K "NoRow")) = some false
  i_TooGreat_ValueError : PySem.W.kitOne K (.ref (He.ga K "TooGreat")) (.type "ValueError") = some true
  x_NoName : PySem.W.excIn K (He.ga K "NoName") He.veBase "ValueError.__new__" = true
  kp_NoName : PySem.W.keepIn K (.ref (He.ga K "NoName")) = true
  b_NoName : PySem.W.subIn K (.ref (He.ga K "NoName")) (.type "BaseException") = some true
  t_NoName : PySem.W.typeIn K (.ref (He.ga K "NoName")) = some (.type "type")
  e_NoName : PySem.W.exmOne K (.ref (He.ga K "NoName")) (.ref (He.ga K "WeighError")) = some true
  ec_NoName : ExcC K (He.ga K "NoName")
  i_NoName_NoKind : PySem.W.kitOne K (.ref (He.ga K "NoName")) (.ref (He.ga K "NoKind")) = some false
  i_NoName_WrongKind : PySem.W.kitOne K (.ref (He.ga K "NoName")) (.ref (He.ga K "WrongKind")) = some false
  i_NoName_NoWeight : PySem.W.kitOne K (.ref (He.ga K "NoName")) (.ref (He.ga K "NoWeight")) = some false
  i_NoName_NoWord : PySem.W.kitOne K (.ref (He.ga K "NoName")) (.ref (He.ga K "NoWord")) = some false
  i_NoName_Unlike : PySem.W.kitOne K (.ref (He.ga K "NoName")) (.ref (He.ga K "Unlike")) = some false
  i_NoName_NoClosure : PySem.W.kitOne K (.ref (He.ga K "NoName")) (.ref (He.ga K "NoClosure")) = some false
  i_NoName_TooGreat : PySem.W.kitOne K (.ref (He.ga K "NoName")) (.ref (He.ga K "TooGreat")) = some false
  i_NoName_NoText : PySem.W.kitOne K (.ref (He.ga K "NoName")) (.ref (He.ga K "NoText")) = some false
  i_NoName_NoName : PySem.W.kitOne K (.ref (He.ga K "NoName")) (.ref (He.ga K "NoName")) = some true
  i_NoName_NoRow : PySem.W.kitOne K (.ref (He.ga K "NoName")) (.ref (He.ga K "NoRow")) = some false
  i_NoName_ValueError : PySem.W.kitOne K (.ref (He.ga K "NoName")) (.type "ValueError") = some true
  i_Costs_Costs : PySem.W.kitOne K (.ref (He.ga K "Costs")) (.ref (He.ga K "Costs")) = some true
  ic_Costs : PySem.W.findIn K (.ref (He.ga K "Costs")) "__class__" = some (some (.builtin "object.__class__"))
  i_Costs_Truths : PySem.W.kitOne K (.ref (He.ga K "Costs")) (.ref (He.ga K "Truths")) = some false
  k_FORMS : ∃ es n, KDict K w (He.ga K "FORMS") es n
  v_FORMS_say : ∃ a, PySem.W.nsIn K (He.ga K "FORMS") "say" = some (some (.ref a)) ∧ ∀ H : Hp, SqT K H a [.int 1, .int 0, .int 0, .bl true]
  v_FORMS_read : ∃ a, PySem.W.nsIn K (He.ga K "FORMS") "read" = some (some (.ref a)) ∧ ∀ H : Hp, SqT K H a [.int 1, .int 0, .int 0, .bl true]
  v_FORMS_scale : ∃ a, PySem.W.nsIn K (He.ga K "FORMS") "scale" = some (some (.ref a)) ∧ ∀ H : Hp, SqT K H a [.int 1, .int 1, .int 1, .bl false]
  v_FORMS_add : ∃ a, PySem.W.nsIn K (He.ga K "FORMS") "add" = some (some (.ref a)) ∧ ∀ H : Hp, SqT K H a [.int 1, .int 2, .int 0, .bl false]
  v_FORMS_join : ∃ a, PySem.W.nsIn K (He.ga K "FORMS") "join" = some (some (.ref a)) ∧ ∀ H : Hp, SqT K H a [.int 1, .int 2, .int 0, .bl false]
  v_FORMS_cross : ∃ a, PySem.W.nsIn K (He.ga K "FORMS") "cross" = some (some (.ref a)) ∧ ∀ H : Hp, SqT K H a [.int 1, .int 2, .int 0, .bl false]
  v_FORMS_turn : ∃ a, PySem.W.nsIn K (He.ga K "FORMS") "turn" = some (some (.ref a)) ∧ ∀ H : Hp, SqT K H a [.int 1, .int 1, .int 0, .bl false]
  v_FORMS_close : ∃ a, PySem.W.nsIn K (He.ga K "FORMS") "close" = some (some (.ref a)) ∧ ∀ H : Hp, SqT K H a [.int 1, .int 1, .int 0, .bl false]
  v_FORMS_least : ∃ a, PySem.W.nsIn K (He.ga K "FORMS") "least" = some (some (.ref a)) ∧ ∀ H : Hp, SqT K H a [.int 1, .int 1, .int 0, .bl false]
  v_FORMS_rooms : ∃ a, PySem.W.nsIn K (He.ga K "FORMS") "rooms" = some (some (.ref a)) ∧ ∀ H : Hp, SqT K H a [.int 0, .int 1, .int 0, .bl false]
  v_FORMS_show : ∃ a, PySem.W.nsIn K (He.ga K "FORMS") "show" = some (some (.ref a)) ∧ ∀ H : Hp, SqT K H a [.int 0, .int 1, .int 0, .bl false]
  v_FORMS_weigh : ∃ a, PySem.W.nsIn K (He.ga K "FORMS") "weigh" = some (some (.ref a)) ∧ ∀ H : Hp, SqT K H a [.int 0, .int 1, .int 1, .bl false]
  v_FORMS_alike : ∃ a, PySem.W.nsIn K (He.ga K "FORMS") "alike" = some (some (.ref a)) ∧ ∀ H : Hp, SqT K H a [.int 0, .int 2, .int 0, .bl false]
  v_FORMS_cheapest : ∃ a, PySem.W.nsIn K (He.ga K "FORMS") "cheapest" = some (some (.ref a)) ∧ ∀ H : Hp, SqT K H a [.int 0, .int 1, .int 0, .bl false]
end L2.Ww
set_option Elab.async false
set_option linter.all false
set_option maxRecDepth 100000
set_option maxHeartbeats 0
/-! The head: the top's run, with facts by names. -/
namespace L2.Ww
open PySem PySem.Spec PyProof.Rows
namespace Hd
def m0B (K : PySem.W.Frag) (x : Str) : Bool := PySem.W.makesIn K (He.ga K x) && (He.eqO (PySem.W.findIn K (.ref (He.ga K x)) "__init__") (some (some (.builtin "object.__init__"))) && (decide (PySem.W.mroIn K (He.ga K x) (.type "object") = some true) && PySem.W.keepIn K (.ref (He.ga K x))))
theorem m0B_ok {K : PySem.W.Frag} {x : Str} (h : m0B K x = true) : M0 K (He.ga K x) := by
  obtain ⟨h1, h⟩ := He.ba h
  obtain ⟨h2, h⟩ := He.ba h
  obtain ⟨h3, h4⟩ := He.ba h
  exact ⟨h1, He.eqO_ok h2, of_decide_eq_true h3, h4⟩
def ecB (K : PySem.W.Frag) (x : Str) : Bool := He.eqO (PySem.W.findIn K (.ref (He.ga K x)) "__getattribute__") (some (some (.builtin "BaseException.__getattribute__"))) && (He.eqO (PySem.W.findIn K (.ref (He.ga K x)) "__getattr__") (some none) &&
  (decide (PySem.W.subIn K (.ref (He.ga K x)) (.type "BaseException") = some true) && (PySem.W.hasDictIn K (He.ga K x) && (He.eqO (PySem.W.findIn K (.ref (He.ga K x)) "__class__") (some (some (.builtin "object.__class__"))) &&
  (He.eqO (PySem.W.specialIn K (.builtin "object.__class__") "__get__") (some (some (.builtin "getset_descriptor.__get__"))) && (decide (PySem.W.takesIn K (.builtin "object.__class__") = some true) && decide (PySem.W.mroIn K (He.ga K x) (.type "object") = some true)))))))
theorem ecB_ok {K : PySem.W.Frag} {x : Str} (h : ecB K x = true) : ExcC K (He.ga K x) := by
  obtain ⟨h1, h⟩ := He.ba h
  obtain ⟨h2, h⟩ := He.ba h
  obtain ⟨h3, h⟩ := He.ba h
  obtain ⟨h4, h⟩ := He.ba h
  obtain ⟨h5, h⟩ := He.ba h
  obtain ⟨h6, h⟩ := He.ba h
  obtain ⟨h7, h8⟩ := He.ba h
  exact ⟨He.eqO_ok h1, He.eqO_ok h2, of_decide_eq_true h3, h4, He.eqO_ok h5, He.eqO_ok h6, of_decide_eq_true h7, of_decide_eq_true h8⟩
def formB (K : PySem.W.Frag) (k : Str) (vs : List V) : Bool := match PySem.W.nsIn K (He.ga K "FORMS") k with
  | some (some (.ref a)) => (match K.lookup a with
    | some ⟨.type c, _, .seq its _, _⟩ => decide (c = "tuple") && (decide (its.size ≤ sizeLine) && He.relAll vs its.toList)
    | _ => false)
  | _ => false
theorem formB_ok {K : PySem.W.Frag} {k : Str} {vs : List V} (h : formB K k vs = true) : ∃ a, PySem.W.nsIn K (He.ga K "FORMS") k = some (some (.ref a)) ∧ ∀ H : Hp, SqT K H a vs := by
  unfold formB at h
  split at h
  · rename_i a e
    refine ⟨a, e, fun H => ?_⟩
    split at h
    · rename_i c od its n sl q
      obtain ⟨h1, h2⟩ := He.ba h
      obtain ⟨h3, h4⟩ := He.ba h2
      exact .inr ⟨_, its, n, q, congrArg Value.type (of_decide_eq_true h1), rfl, of_decide_eq_true h3, He.relAll_ok h4⟩
    · cases h
  · cases h
def dd_dot : He.DefD := ⟨("dot", none), "dot", "dot", defArgs (top 14), defBody (top 14), defScope (top 14), [], []⟩
def dd_column_at : He.DefD := ⟨("column_at", none), "column_at", "column_at", defArgs (top 15), defBody (top 15), defScope (top 15), [], []⟩
def dd_is_letters : He.DefD := ⟨("is_letters", none), "is_letters", "is_letters", defArgs (top 22), defBody (top 22), defScope (top 22), [], []⟩
def dd_rooms : He.DefD := ⟨("rooms", none), "rooms", "rooms", defArgs (top 23), defBody (top 23), defScope (top 23), [], []⟩
def dd_check_word : He.DefD := ⟨("check_word", none), "check_word", "check_word", defArgs (top 24), defBody (top 24), defScope (top 24), [], []⟩
def dd_check_letters : He.DefD := ⟨("check_letters", none), "check_letters", "check_letters", defArgs (top 44), defBody (top 44), defScope (top 44), [], []⟩
def dd_check_rooms : He.DefD := ⟨("check_rooms", none), "check_rooms", "check_rooms", defArgs (top 45), defBody (top 45), defScope (top 45), [], []⟩
def dd_noughts : He.DefD := ⟨("noughts", none), "noughts", "noughts", defArgs (top 46), defBody (top 46), defScope (top 46), [], []⟩
def dd_by_all : He.DefD := ⟨("by_all", none), "by_all", "by_all", defArgs (top 47), defBody (top 47), defScope (top 47), [], []⟩
def dd_scaled : He.DefD := ⟨("scaled", none), "scaled", "scaled", defArgs (top 48), defBody (top 48), defScope (top 48), [], []⟩
def dd_added : He.DefD := ⟨("added", none), "added", "added", defArgs (top 49), defBody (top 49), defScope (top 49), [], []⟩
def dd_joined : He.DefD := ⟨("joined", none), "joined", "joined", defArgs (top 50), defBody (top 50), defScope (top 50), [], []⟩
def dd_turned : He.DefD := ⟨("turned", none), "turned", "turned", defArgs (top 53), defBody (top 53), defScope (top 53), [], []⟩
def dd_closed : He.DefD := ⟨("closed", none), "closed", "closed", defArgs (top 54), defBody (top 54), defScope (top 54), [], []⟩
def dd_single : He.DefD := ⟨("single", none), "single", "single", defArgs (top 55), defBody (top 55), defScope (top 55), [], []⟩
def dd_steps_of : He.DefD := ⟨("steps_of", none), "steps_of", "steps_of", defArgs (top 57), defBody (top 57), defScope (top 57), [], []⟩
def dd_reached : He.DefD := ⟨("reached", none), "reached", "reached", defArgs (top 58), defBody (top 58), defScope (top 58), [], []⟩
def dd_useful : He.DefD := ⟨("useful", none), "useful", "useful", defArgs (top 59), defBody (top 59), defScope (top 59), [], []⟩
def dd_raised : He.DefD := ⟨("raised", none), "raised", "raised", defArgs (top 60), defBody (top 60), defScope (top 60), [], []⟩
def dd_levels_of : He.DefD := ⟨("levels_of", none), "levels_of", "levels_of", defArgs (top 61), defBody (top 61), defScope (top 61), [], []⟩
def dd_way_to : He.DefD := ⟨("way_to", none), "way_to", "way_to", defArgs (top 62), defBody (top 62), defScope (top 62), [], []⟩
def dd_way_out : He.DefD := ⟨("way_out", none), "way_out", "way_out", defArgs (top 63), defBody (top 63), defScope (top 63), [], []⟩
def dd_ring_in : He.DefD := ⟨("ring_in", none), "ring_in", "ring_in", defArgs (top 64), defBody (top 64), defScope (top 64), [], []⟩
def dd_prices_of : He.DefD := ⟨("prices_of", none), "prices_of", "prices_of", defArgs (top 65), defBody (top 65), defScope (top 65), [], []⟩
def dd_cheapest : He.DefD := ⟨("cheapest", none), "cheapest", "cheapest", defArgs (top 66), defBody (top 66), defScope (top 66), [], []⟩
def dd_read_whole : He.DefD := ⟨("read_whole", none), "read_whole", "read_whole", defArgs (top 70), defBody (top 70), defScope (top 70), [], []⟩
def dd_Costs_nought : He.DefD := ⟨("Costs", some "nought"), "nought", "Costs.nought", defArgs (inClass (top 73) 1), defBody (inClass (top 73) 1), defScope (inClass (top 73) 1), [], []⟩
def dd_Costs_one : He.DefD := ⟨("Costs", some "one"), "one", "Costs.one", defArgs (inClass (top 73) 2), defBody (inClass (top 73) 2), defScope (inClass (top 73) 2), [], []⟩
def dd_Costs_plus : He.DefD := ⟨("Costs", some "plus"), "plus", "Costs.plus", defArgs (inClass (top 73) 3), defBody (inClass (top 73) 3), defScope (inClass (top 73) 3), [], []⟩
def dd_Costs_times : He.DefD := ⟨("Costs", some "times"), "times", "Costs.times", defArgs (inClass (top 73) 4), defBody (inClass (top 73) 4), defScope (inClass (top 73) 4), [], []⟩
def dd_Costs_shown : He.DefD := ⟨("Costs", some "shown"), "shown", "Costs.shown", defArgs (inClass (top 73) 6), defBody (inClass (top 73) 6), defScope (inClass (top 73) 6), [], []⟩
def dd_Costs_read : He.DefD := ⟨("Costs", some "read"), "read", "Costs.read", defArgs (inClass (top 73) 7), defBody (inClass (top 73) 7), defScope (inClass (top 73) 7), [], []⟩
def dd_within : He.DefD := ⟨("within", none), "within", "within", defArgs (top 87), defBody (top 87), defScope (top 87), [], []⟩
def dd_built : He.DefD := ⟨("built", none), "built", "built", defArgs (top 88), defBody (top 88), defScope (top 88), [], []⟩
def dd_read_word : He.DefD := ⟨("read_word", none), "read_word", "read_word", defArgs (top 89), defBody (top 89), defScope (top 89), [], []⟩
def dd_read_at : He.DefD := ⟨("read_at", none), "read_at", "read_at", defArgs (top 90), defBody (top 90), defScope (top 90), [], []⟩
def dd_many_parts : He.DefD := ⟨("many_parts", none), "many_parts", "many_parts", defArgs (top 91), defBody (top 91), defScope (top 91), [], []⟩
def dd_read_saying : He.DefD := ⟨("read_saying", none), "read_saying", "read_saying", defArgs (top 92), defBody (top 92), defScope (top 92), [], []⟩
def dd_read_line : He.DefD := ⟨("read_line", none), "read_line", "read_line", defArgs (top 105), defBody (top 105), defScope (top 105), [], []⟩
def dd_read_table : He.DefD := ⟨("read_table", none), "read_table", "read_table", defArgs (top 106), defBody (top 106), defScope (top 106), [], []⟩
def dd_read_machine : He.DefD := ⟨("read_machine", none), "read_machine", "read_machine", defArgs (top 107), defBody (top 107), defScope (top 107), [], []⟩
def dd_is_call : He.DefD := ⟨("is_call", none), "is_call", "is_call", defArgs (top 115), defBody (top 115), defScope (top 115), [], []⟩
def dd_taken_apart : He.DefD := ⟨("taken_apart", none), "taken_apart", "taken_apart", defArgs (top 116), defBody (top 116), defScope (top 116), [], []⟩
def dd_Desk_say : He.DefD := ⟨("Desk", some "say"), "say", "Desk.say", defArgs (inClass (top 117) 1), defBody (inClass (top 117) 1), defScope (inClass (top 117) 1), [], []⟩
def dd_Desk_made : He.DefD := ⟨("Desk", some "made"), "made", "Desk.made", defArgs (inClass (top 117) 2), defBody (inClass (top 117) 2), defScope (inClass (top 117) 2), [], []⟩
def dd_Desk_asked : He.DefD := ⟨("Desk", some "asked"), "asked", "Desk.asked", defArgs (inClass (top 117) 3), defBody (inClass (top 117) 3), defScope (inClass (top 117) 3), [], []⟩
def dd__law_state : He.DefD := ⟨("_law_state", none), "_law_state", "_law_state", defArgs (top 119), defBody (top 119), defScope (top 119), [], []⟩
def dd__law_next : He.DefD := ⟨("_law_next", none), "_law_next", "_law_next", defArgs (top 120), defBody (top 120), defScope (top 120), [], []⟩
def dd__law_rooms : He.DefD := ⟨("_law_rooms", none), "_law_rooms", "_law_rooms", defArgs (top 121), defBody (top 121), defScope (top 121), [], []⟩
def dd__law_letters : He.DefD := ⟨("_law_letters", none), "_law_letters", "_law_letters", defArgs (top 122), defBody (top 122), defScope (top 122), [], []⟩
def dd__law_calls : He.DefD := ⟨("_law_calls", none), "_law_calls", "_law_calls", defArgs (top 123), defBody (top 123), defScope (top 123), [], []⟩
def dd__law_costs : He.DefD := ⟨("_law_costs", none), "_law_costs", "_law_costs", defArgs (top 124), defBody (top 124), defScope (top 124), [], []⟩
def dd__law_far : He.DefD := ⟨("_law_far", none), "_law_far", "_law_far", defArgs (top 125), defBody (top 125), defScope (top 125), [], []⟩
def dd__law_any_machine : He.DefD := ⟨("_law_any_machine", none), "_law_any_machine", "_law_any_machine", defArgs (top 126), defBody (top 126), defScope (top 126), [], []⟩
def dd__law_step : He.DefD := ⟨("_law_step", none), "_law_step", "_law_step", defArgs (top 127), defBody (top 127), defScope (top 127), [], []⟩
def dd__law_come_to : He.DefD := ⟨("_law_come_to", none), "_law_come_to", "_law_come_to", defArgs (top 128), defBody (top 128), defScope (top 128), [], []⟩
def dd__law_of_use : He.DefD := ⟨("_law_of_use", none), "_law_of_use", "_law_of_use", defArgs (top 129), defBody (top 129), defScope (top 129), [], []⟩
def dd__law_round : He.DefD := ⟨("_law_round", none), "_law_round", "_law_round", defArgs (top 130), defBody (top 130), defScope (top 130), [], []⟩
def dd__law_prices : He.DefD := ⟨("_law_prices", none), "_law_prices", "_law_prices", defArgs (top 131), defBody (top 131), defScope (top 131), [], []⟩
def dd__law_told : He.DefD := ⟨("_law_told", none), "_law_told", "_law_told", defArgs (top 132), defBody (top 132), defScope (top 132), [], []⟩
def dd__law_of : He.DefD := ⟨("_law_of", none), "_law_of", "_law_of", defArgs (top 133), defBody (top 133), defScope (top 133), [], []⟩
def dd__law_shown : He.DefD := ⟨("_law_shown", none), "_law_shown", "_law_shown", defArgs (top 134), defBody (top 134), defScope (top 134), [], []⟩
def dd__law_line : He.DefD := ⟨("_law_line", none), "_law_line", "_law_line", defArgs (top 135), defBody (top 135), defScope (top 135), [], []⟩
def dd__law_text : He.DefD := ⟨("_law_text", none), "_law_text", "_law_text", defArgs (top 136), defBody (top 136), defScope (top 136), [], []⟩
def dd__law_lesser : He.DefD := ⟨("_law_lesser", none), "_law_lesser", "_law_lesser", defArgs (top 137), defBody (top 137), defScope (top 137), [], []⟩
def dd__law_read_in : He.DefD := ⟨("_law_read_in", none), "_law_read_in", "_law_read_in", defArgs (top 138), defBody (top 138), defScope (top 138), [], []⟩
def dd__law_added : He.DefD := ⟨("_law_added", none), "_law_added", "_law_added", defArgs (top 139), defBody (top 139), defScope (top 139), [], []⟩
def dd__law_joined : He.DefD := ⟨("_law_joined", none), "_law_joined", "_law_joined", defArgs (top 140), defBody (top 140), defScope (top 140), [], []⟩
def dd__law_made : He.DefD := ⟨("_law_made", none), "_law_made", "_law_made", defArgs (top 141), defBody (top 141), defScope (top 141), [], []⟩
def dd__law_scaled : He.DefD := ⟨("_law_scaled", none), "_law_scaled", "_law_scaled", defArgs (top 142), defBody (top 142), defScope (top 142), [], []⟩
def dd__law_row : He.DefD := ⟨("_law_row", none), "_law_row", "_law_row", defArgs (top 143), defBody (top 143), defScope (top 143), [], []⟩
def dd_law : He.DefD := ⟨("law", none), "law", "law", defArgs (top 144), defBody (top 144), defScope (top 144), [], []⟩
def dd_Desk_init : He.DefD := ⟨("Desk", some "__init__"), "__init__", "Desk.__init__", defArgs (inClass (top 117) 0), defBody (inClass (top 117) 0), defScope (inClass (top 117) 0), [], []⟩
def fn0 : List He.DefD := [dd_dot, dd_column_at, dd_is_letters, dd_rooms, dd_check_word, dd_check_letters, dd_check_rooms, dd_noughts, dd_by_all, dd_scaled, dd_added, dd_joined, dd_turned, dd_closed, dd_single, dd_steps_of, dd_reached, dd_useful, dd_raised, dd_levels_of, dd_way_to, dd_way_out, dd_ring_in, dd_prices_of, dd_cheapest, dd_read_whole, dd_Costs_nought, dd_Costs_one, dd_Costs_plus, dd_Costs_times]
def fn1 : List He.DefD := [dd_Costs_shown, dd_Costs_read, dd_within, dd_built, dd_read_word, dd_read_at, dd_many_parts, dd_read_saying, dd_read_line, dd_read_table, dd_read_machine, dd_is_call, dd_taken_apart, dd_Desk_say, dd_Desk_made, dd_Desk_asked, dd__law_state, dd__law_next, dd__law_rooms, dd__law_letters, dd__law_calls, dd__law_costs, dd__law_far, dd__law_any_machine, dd__law_step, dd__law_come_to, dd__law_of_use, dd__law_round, dd__law_prices, dd__law_told]
def fn2 : List He.DefD := [dd__law_of, dd__law_shown, dd__law_line, dd__law_text, dd__law_lesser, dd__law_read_in, dd__law_added, dd__law_joined, dd__law_made, dd__law_scaled, dd__law_row, dd_law, dd_Desk_init]
def fn : List He.DefD := fn0 ++ fn1 ++ fn2
def fa0 : List He.Fa := [.free "len", .free "range", .free "tuple", .free "list", .free "zip", .free "min", .free "max", .free "sum", .free "str", .free "int", .free "dict", .free "isinstance", .free "set", .free "all", .free "enumerate", .free "reversed", .free "ValueError", .int "MOST_LETTERS" 3, .int "MOST_ROOMS" 20, .int "MOST_FIGURES" 30, .int "MOST_PARTS" 40, .int "MOST_HIGH" 12, .int "MOST_SIGNS" 8, .str "SMALL" "abcdefghijklmnopqrstuvwxyz", .str "FIGURES" "0123456789", .str "SMALL_LETTERS" "abcdefghijklmnopqrstuvwxyz", .glo "PAIRS", .glo "ONES", .glo "Costs", .glo "Desk"]
def fa1 : List He.Fa := [.glo "Truths", .glo "WeighError", .glo "NoKind", .glo "WrongKind", .glo "NoWeight", .glo "NoWord", .glo "Unlike", .glo "NoClosure", .glo "TooGreat", .glo "NoText", .glo "NoName", .glo "NoRow", .glo "FORMS", .cls "Costs", .cls "Desk", .glo "dot", .glo "column_at", .glo "is_letters", .glo "rooms", .glo "check_word", .glo "check_letters", .glo "check_rooms", .glo "noughts", .glo "by_all", .glo "scaled", .glo "added", .glo "joined", .glo "turned", .glo "closed", .glo "single"]
def fa2 : List He.Fa := [.glo "steps_of", .glo "reached", .glo "useful", .glo "raised", .glo "levels_of", .glo "way_to", .glo "way_out", .glo "ring_in", .glo "prices_of", .glo "cheapest", .glo "read_whole", .meth "Costs" "nought", .meth "Costs" "one", .meth "Costs" "plus", .meth "Costs" "times", .meth "Costs" "shown", .meth "Costs" "read", .glo "within", .glo "built", .glo "read_word", .glo "read_at", .glo "many_parts", .glo "read_saying", .glo "read_line", .glo "read_table", .glo "read_machine", .glo "is_call", .glo "taken_apart", .meth "Desk" "say", .meth "Desk" "made"]
def fa3 : List He.Fa := [.meth "Desk" "asked", .glo "_law_state", .glo "_law_next", .glo "_law_rooms", .glo "_law_letters", .glo "_law_calls", .glo "_law_costs", .glo "_law_far", .glo "_law_any_machine", .glo "_law_step", .glo "_law_come_to", .glo "_law_of_use", .glo "_law_round", .glo "_law_prices", .glo "_law_told", .glo "_law_of", .glo "_law_shown", .glo "_law_line", .glo "_law_text", .glo "_law_lesser", .glo "_law_read_in", .glo "_law_added", .glo "_law_joined", .glo "_law_made", .glo "_law_scaled", .glo "_law_row", .glo "law", .noat "Desk" "kind", .noat "Desk" "letters", .noat "Desk" "machines"]
def fa4 : List He.Fa := [.mkr "Desk", .exc "NoClosure", .exm "NoClosure" "WeighError" true, .exc "TooGreat", .exm "TooGreat" "WeighError" true, .exc "NoName", .exm "NoName" "WeighError" true]
def fa : List He.Fa := fa0 ++ fa1 ++ fa2 ++ fa3 ++ fa4
def tabF : He.Tab := (fun K => He.ga K "FORMS", [Str.ofString "say", Str.ofString "read", Str.ofString "scale", Str.ofString "add", Str.ofString "join", Str.ofString "cross", Str.ofString "turn", Str.ofString "close", Str.ofString "least", Str.ofString "rooms", Str.ofString "show", Str.ofString "weigh", Str.ofString "alike", Str.ofString "cheapest"])
def ex0 (K : PySem.W.Frag) : List Bool := [He.tupB K "PAIRS" [.str "sum", .str "then", .str "both"], He.tupB K "ONES" [.str "back", .str "star"], m0B K "Costs", ecB K "NoClosure", decide (PySem.W.kitOne K (.ref (He.ga K "NoClosure")) (.ref (He.ga K "NoKind")) = some false), decide (PySem.W.kitOne K (.ref (He.ga K "NoClosure")) (.ref (He.ga K "WrongKind")) = some false), decide (PySem.W.kitOne K (.ref (He.ga K "NoClosure")) (.ref (He.ga K "NoWeight")) = some false), decide (PySem.W.kitOne K (.ref (He.ga K "NoClosure")) (.ref (He.ga K "NoWord")) = some false), decide (PySem.W.kitOne K (.ref (He.ga K "NoClosure")) (.ref (He.ga K "Unlike")) = some false), decide (PySem.W.kitOne K (.ref (He.ga K "NoClosure")) (.ref (He.ga K "NoClosure")) = some true), decide (PySem.W.kitOne K (.ref (He.ga K "NoClosure")) (.ref (He.ga K "TooGreat")) = some false), decide (PySem.W.kitOne K (.ref (He.ga K "NoClosure")) (.ref (He.ga K "NoText")) = some false), decide (PySem.W.kitOne K (.ref (He.ga K "NoClosure")) (.ref (He.ga K "NoName")) = some false), decide (PySem.W.kitOne K (.ref (He.ga K "NoClosure")) (.ref (He.ga K "NoRow")) = some false), decide (PySem.W.kitOne K (.ref (He.ga K "NoClosure")) (.type "ValueError") = some true), ecB K "TooGreat", decide (PySem.W.kitOne K (.ref (He.ga K "TooGreat")) (.ref (He.ga K "NoKind")) = some false), decide (PySem.W.kitOne K (.ref (He.ga K "TooGreat")) (.ref (He.ga K "WrongKind")) = some false), decide (PySem.W.kitOne K (.ref (He.ga K "TooGreat")) (.ref (He.ga K "NoWeight")) = some false), decide (PySem.W.kitOne K (.ref (He.ga K "TooGreat")) (.ref (He.ga K "NoWord")) = some false)]
def ex1 (K : PySem.W.Frag) : List Bool := [decide (PySem.W.kitOne K (.ref (He.ga K "TooGreat")) (.ref (He.ga K "Unlike")) = some false), decide (PySem.W.kitOne K (.ref (He.ga K "TooGreat")) (.ref (He.ga K "NoClosure")) = some false), decide (PySem.W.kitOne K (.ref (He.ga K "TooGreat")) (.ref (He.ga K "TooGreat")) = some true), decide (PySem.W.kitOne K (.ref (He.ga K "TooGreat")) (.ref (He.ga K "NoText")) = some false), decide (PySem.W.kitOne K (.ref (He.ga K "TooGreat")) (.ref (He.ga K "NoName")) = some false), decide (PySem.W.kitOne K (.ref (He.ga K "TooGreat")) (.ref (He.ga K "NoRow")) = some false), decide (PySem.W.kitOne K (.ref (He.ga K "TooGreat")) (.type "ValueError") = some true), ecB K "NoName", decide (PySem.W.kitOne K (.ref (He.ga K "NoName")) (.ref (He.ga K "NoKind")) = some false), decide (PySem.W.kitOne K (.ref (He.ga K "NoName")) (.ref (He.ga K "WrongKind")) = some false), decide (PySem.W.kitOne K (.ref (He.ga K "NoName")) (.ref (He.ga K "NoWeight")) = some false), decide (PySem.W.kitOne K (.ref (He.ga K "NoName")) (.ref (He.ga K "NoWord")) = some false), decide (PySem.W.kitOne K (.ref (He.ga K "NoName")) (.ref (He.ga K "Unlike")) = some false), decide (PySem.W.kitOne K (.ref (He.ga K "NoName")) (.ref (He.ga K "NoClosure")) = some false), decide (PySem.W.kitOne K (.ref (He.ga K "NoName")) (.ref (He.ga K "TooGreat")) = some false), decide (PySem.W.kitOne K (.ref (He.ga K "NoName")) (.ref (He.ga K "NoText")) = some false), decide (PySem.W.kitOne K (.ref (He.ga K "NoName")) (.ref (He.ga K "NoName")) = some true), decide (PySem.W.kitOne K (.ref (He.ga K "NoName")) (.ref (He.ga K "NoRow")) = some false), decide (PySem.W.kitOne K (.ref (He.ga K "NoName")) (.type "ValueError") = some true), decide (PySem.W.kitOne K (.ref (He.ga K "Costs")) (.ref (He.ga K "Costs")) = some true)]
def ex2 (K : PySem.W.Frag) : List Bool := [decide (PySem.W.findIn K (.ref (He.ga K "Costs")) "__class__" = some (some (.builtin "object.__class__"))), decide (PySem.W.kitOne K (.ref (He.ga K "Costs")) (.ref (He.ga K "Truths")) = some false), formB K "say" [.int 1, .int 0, .int 0, .bl true], formB K "read" [.int 1, .int 0, .int 0, .bl true], formB K "scale" [.int 1, .int 1, .int 1, .bl false], formB K "add" [.int 1, .int 2, .int 0, .bl false], formB K "join" [.int 1, .int 2, .int 0, .bl false], formB K "cross" [.int 1, .int 2, .int 0, .bl false], formB K "turn" [.int 1, .int 1, .int 0, .bl false], formB K "close" [.int 1, .int 1, .int 0, .bl false], formB K "least" [.int 1, .int 1, .int 0, .bl false], formB K "rooms" [.int 0, .int 1, .int 0, .bl false], formB K "show" [.int 0, .int 1, .int 0, .bl false], formB K "weigh" [.int 0, .int 1, .int 1, .bl false], formB K "alike" [.int 0, .int 2, .int 0, .bl false], formB K "cheapest" [.int 0, .int 1, .int 0, .bl false]]
def exs (K : PySem.W.Frag) : List Bool := ex0 K ++ ex1 K ++ ex2 K
def ex (K : PySem.W.Frag) : Bool := (exs K).all id
theorem exA {K : PySem.W.Frag} (h : ex K = true) (i : Nat) {b : Bool} (e : (exs K)[i]? = some b := by rfl) : b = true := List.all_eq_true.mp h b (List.mem_of_getElem? e)
abbrev R : PySem.W.OpenRow := PySem.W.OpenLaw.row PySem.Challenge.rw_weighwalk_k96_whole_cheapest_at_a_desk
abbrev qv : Program := PySem.W.view R.prog [144]
/-- the objects that matter: what the module's names stand for, their code objects, the classes' own names and these methods' code -/
def of1 : Option Obj → List Addr
  | some ⟨_, _, .func fd, _⟩ => He.refV fd.code
  | some ⟨_, _, .cls cd, _⟩ => [cd.ns]
  | some ⟨_, _, .dict es _, _⟩ => es.toList.flatMap fun e => He.refV e.val
  | _ => []
def lay (g : Addr → Option Obj) (as : List Addr) : List Addr := as.flatMap fun a => of1 (g a)
def ask1 (g : Addr → Option Obj) (l1 l2 l3 : List Addr) : List Addr := mainGlobals :: (l1 ++ (l2 ++ (l3 ++ lay g l3)))
def ask (g : Addr → Option Obj) : List Addr := ask1 g (lay g [mainGlobals]) (lay g (lay g [mainGlobals])) (lay g (lay g (lay g [mainGlobals])))
abbrev AlY : Type := He.AlT × Bool
def obsY (K : PySem.W.Frag) : AlY := (He.obsT fa fn [tabF] K, ex K)
def obG (g : Addr → Option Obj) : AlY := obsY (He.frG g (ask g))
structure SaysY (w : World) (K : PySem.W.Frag) : Prop where
  t : He.SaysT fa fn [tabF] w K
  more : ex K = true
def hk : PySem.W.Hook where
  α := AlY
  obs := fun s => obG s.heap.get?
  val := fun w => (He.valT fn [tabF] w, true)
  says := fun w h => ∃ K : PySem.W.Frag, K.In h ∧ SaysY w K
  of := fun _ _ e => ⟨_, He.frG_in, congrArg (fun z : AlY => z.1) e, congrArg (fun z : AlY => z.2) e⟩
  keeps := fun _ _ _ ⟨K, hK, c⟩ k => ⟨K, PySem.W.Frag.In.keeps hK k, c⟩
def ob (s : PySem.W.SharedT) : AlY := obG (HandSHeadRun.getT s)
theorem ob_eq (s : PySem.W.SharedT) : ob s = hk.obs s.abs := by
  have e : HandSHeadRun.getT s = s.abs.heap.get? := funext (HandSHeadRun.getT_eq s)
  show obG (HandSHeadRun.getT s) = obG s.abs.heap.get?
  rw [e]
def nm0 : List Str := [Str.ofString "_wall", Str.ofString "WeighError", Str.ofString "NoKind", Str.ofString "WrongKind", Str.ofString "NoWeight", Str.ofString "NoWord", Str.ofString "Unlike", Str.ofString "NoClosure", Str.ofString "TooGreat", Str.ofString "NoText", Str.ofString "NoName", Str.ofString "NoRow", Str.ofString "dot", Str.ofString "column_at", Str.ofString "row_by", Str.ofString "by_column", Str.ofString "SMALL", Str.ofString "MOST_LETTERS", Str.ofString "MOST_ROOMS", Str.ofString "is_letters", Str.ofString "rooms", Str.ofString "check_word", Str.ofString "table_of", Str.ofString "ahead", Str.ofString "columns_of", Str.ofString "behind", Str.ofString "weight", Str.ofString "must_be_field", Str.ofString "less", Str.ofString "first_place"]
def nm1 : List Str := [Str.ofString "reduced", Str.ofString "led_by", Str.ofString "base_of", Str.ofString "parts_by", Str.ofString "must_be_two", Str.ofString "stepped", Str.ofString "kept_rows", Str.ofString "alike", Str.ofString "check_letters", Str.ofString "check_rooms", Str.ofString "noughts", Str.ofString "by_all", Str.ofString "scaled", Str.ofString "added", Str.ofString "joined", Str.ofString "paired", Str.ofString "crossed", Str.ofString "turned", Str.ofString "closed", Str.ofString "single", Str.ofString "steps_of", Str.ofString "reached", Str.ofString "useful", Str.ofString "raised", Str.ofString "levels_of", Str.ofString "way_to", Str.ofString "way_out", Str.ofString "ring_in", Str.ofString "prices_of", Str.ofString "cheapest"]
def nm2 : List Str := [Str.ofString "FIGURES", Str.ofString "MOST_FIGURES", Str.ofString "read_whole", Str.ofString "Kind", Str.ofString "Picking", Str.ofString "Costs", Str.ofString "Truths", Str.ofString "longer", Str.ofString "kept_words", Str.ofString "by_rows", Str.ofString "row_looked", Str.ofString "heads", Str.ofString "least", Str.ofString "MOST_PARTS", Str.ofString "MOST_HIGH", Str.ofString "PAIRS", Str.ofString "ONES", Str.ofString "within", Str.ofString "built", Str.ofString "read_word", Str.ofString "read_at", Str.ofString "many_parts", Str.ofString "read_saying", Str.ofString "MOST_SETS", Str.ofString "first_set", Str.ofString "set_behind", Str.ofString "traced", Str.ofString "goods_of", Str.ofString "made_sure", Str.ofString "numbered"]
def nm3 : List Str := [Str.ofString "sorts_of", Str.ofString "least_sure", Str.ofString "sure_alike", Str.ofString "read_line", Str.ofString "read_table", Str.ofString "read_machine", Str.ofString "shown_line", Str.ofString "shown_table", Str.ofString "shown_machine", Str.ofString "SMALL_LETTERS", Str.ofString "MOST_SIGNS", Str.ofString "FORMS", Str.ofString "is_call", Str.ofString "taken_apart", Str.ofString "Desk", Str.ofString "_law_state", Str.ofString "_law_next", Str.ofString "_law_rooms", Str.ofString "_law_letters", Str.ofString "_law_calls", Str.ofString "_law_costs", Str.ofString "_law_far", Str.ofString "_law_any_machine", Str.ofString "_law_step", Str.ofString "_law_come_to", Str.ofString "_law_of_use", Str.ofString "_law_round", Str.ofString "_law_prices", Str.ofString "_law_told", Str.ofString "_law_of"]
def nm4 : List Str := [Str.ofString "_law_shown", Str.ofString "_law_line", Str.ofString "_law_text", Str.ofString "_law_lesser", Str.ofString "_law_read_in", Str.ofString "_law_added", Str.ofString "_law_joined", Str.ofString "_law_made", Str.ofString "_law_scaled", Str.ofString "_law_row"]
def names : List Str := nm0 ++ nm1 ++ nm2 ++ nm3 ++ nm4
noncomputable abbrev EndS (w : World) (os : OsState) : Option PySem.W.SharedT := HandSHeadRun.endF (HandSHeadRun.stepQ (HandSHeadRun.denQ HandSHeadRun.tabQ) R.prog w) 20000 R.prog w os
theorem map_and {α β γ : Type} {E : Option α} {f : α → β} {h : α → γ} {b : β} {c : γ} (e1 : E.map f = some b) (e2 : E.map h = some c) : E.map (fun s => (f s, h s)) = some (b, c) := by
  cases E with
  | none => cases e1
  | some s =>
    have h1 : f s = b := Option.some.inj e1
    have h2 : h s = c := Option.some.inj e2
    show some (f s, h s) = _
    rw [h1, h2]
theorem see_false (w : World) (os : OsState) : (EndS (w.withFollow "special-get-raises" false) os).map (fun s => (HandSHeadRun.looksF R.prog (PySem.W.boot_heap (w.withFollow "special-get-raises" false).params) s.abs, HandSHeadRun.seenQ qv names (importedModules R.prog.main.body) (fun s => PySem.W.xlAt qv [] s && PySem.W.recOk R.toRowW.records s) s.abs)) = some (true, PySem.W.openGood qv names) := by kernel_rfl
theorem obs_false (w : World) (os : OsState) : (EndS (w.withFollow "special-get-raises" false) os).map ob = some (hk.val (w.withFollow "special-get-raises" false)) := by kernel_rfl
theorem run_false (w : World) : HandSHeadRun.RunEq R qv hk ob 20000 names (w.withFollow "special-get-raises" false) := fun os => by
  have e := map_and (see_false w os) (obs_false w os)
  cases q : EndS (w.withFollow "special-get-raises" false) os with
  | none => rw [q] at e; cases e
  | some s =>
    rw [q] at e
    have e2 := Option.some.inj e
    have e3 := congrArg (fun z => z.1.1) e2
    have e4 := congrArg (fun z => z.1.2) e2
    have e5 := congrArg (fun z => z.2) e2
    dsimp only at e3 e4 e5
    show Option.map _ (EndS (w.withFollow "special-get-raises" false) os) = _
    rw [q]
    show some (_, _, _) = some (_, _, _)
    rw [e3, e4, e5]
theorem see_true (w : World) (os : OsState) : (EndS (w.withFollow "special-get-raises" true) os).map (fun s => (HandSHeadRun.looksF R.prog (PySem.W.boot_heap (w.withFollow "special-get-raises" true).params) s.abs, HandSHeadRun.seenQ qv names (importedModules R.prog.main.body) (fun s => PySem.W.xlAt qv [] s && PySem.W.recOk R.toRowW.records s) s.abs)) = some (true, PySem.W.openGood qv names) := by kernel_rfl
theorem obs_true (w : World) (os : OsState) : (EndS (w.withFollow "special-get-raises" true) os).map ob = some (hk.val (w.withFollow "special-get-raises" true)) := by kernel_rfl
theorem run_true (w : World) : HandSHeadRun.RunEq R qv hk ob 20000 names (w.withFollow "special-get-raises" true) := fun os => by
  have e := map_and (see_true w os) (obs_true w os)
  cases q : EndS (w.withFollow "special-get-raises" true) os with
  | none => rw [q] at e; cases e
  | some s =>
    rw [q] at e
    have e2 := Option.some.inj e
    have e3 := congrArg (fun z => z.1.1) e2
    have e4 := congrArg (fun z => z.1.2) e2
    have e5 := congrArg (fun z => z.2) e2
    dsimp only at e3 e4 e5
    show Option.map _ (EndS (w.withFollow "special-get-raises" true) os) = _
    rw [q]
    show some (_, _, _) = some (_, _, _)
    rw [e3, e4, e5]
theorem run (w : World) : HandSHeadRun.RunEq R qv hk ob 20000 names w :=
  PySem.W.byRow2 "special-get-raises" (P := fun w => HandSHeadRun.RunEq R qv hk ob 20000 names w) run_false run_true w
theorem txt_of {w : World} {K : PySem.W.Frag} {h : Heap} {mg : Str → Option Value} (X : K.In h) (G : h.Ns mainGlobals mg) (c : SaysY w K) : Txt w K mg where
  f_len := He.free_ok X G (c.t.d.fact 0 (f := .free "len") rfl)
  f_range := He.free_ok X G (c.t.d.fact 1 (f := .free "range") rfl)
  f_tuple := He.free_ok X G (c.t.d.fact 2 (f := .free "tuple") rfl)
  f_list := He.free_ok X G (c.t.d.fact 3 (f := .free "list") rfl)
  f_zip := He.free_ok X G (c.t.d.fact 4 (f := .free "zip") rfl)
  f_min := He.free_ok X G (c.t.d.fact 5 (f := .free "min") rfl)
  f_max := He.free_ok X G (c.t.d.fact 6 (f := .free "max") rfl)
  f_sum := He.free_ok X G (c.t.d.fact 7 (f := .free "sum") rfl)
  f_str := He.free_ok X G (c.t.d.fact 8 (f := .free "str") rfl)
  f_int := He.free_ok X G (c.t.d.fact 9 (f := .free "int") rfl)
  f_dict := He.free_ok X G (c.t.d.fact 10 (f := .free "dict") rfl)
  f_isinstance := He.free_ok X G (c.t.d.fact 11 (f := .free "isinstance") rfl)
  f_set := He.free_ok X G (c.t.d.fact 12 (f := .free "set") rfl)
  f_all := He.free_ok X G (c.t.d.fact 13 (f := .free "all") rfl)
  f_enumerate := He.free_ok X G (c.t.d.fact 14 (f := .free "enumerate") rfl)
  f_reversed := He.free_ok X G (c.t.d.fact 15 (f := .free "reversed") rfl)
  f_ValueError := He.free_ok X G (c.t.d.fact 16 (f := .free "ValueError") rfl)
  g_MOST_LETTERS := (fun ⟨t, h⟩ => ⟨_, h, t, rfl⟩) (He.int_ok X G (c.t.d.fact 17 (f := .int "MOST_LETTERS" 3) rfl))
  g_MOST_ROOMS := (fun ⟨t, h⟩ => ⟨_, h, t, rfl⟩) (He.int_ok X G (c.t.d.fact 18 (f := .int "MOST_ROOMS" 20) rfl))
  g_MOST_FIGURES := (fun ⟨t, h⟩ => ⟨_, h, t, rfl⟩) (He.int_ok X G (c.t.d.fact 19 (f := .int "MOST_FIGURES" 30) rfl))
  g_MOST_PARTS := (fun ⟨t, h⟩ => ⟨_, h, t, rfl⟩) (He.int_ok X G (c.t.d.fact 20 (f := .int "MOST_PARTS" 40) rfl))
  g_MOST_HIGH := (fun ⟨t, h⟩ => ⟨_, h, t, rfl⟩) (He.int_ok X G (c.t.d.fact 21 (f := .int "MOST_HIGH" 12) rfl))
  g_MOST_SIGNS := (fun ⟨t, h⟩ => ⟨_, h, t, rfl⟩) (He.int_ok X G (c.t.d.fact 22 (f := .int "MOST_SIGNS" 8) rfl))
  g_SMALL := (fun ⟨t, h⟩ => ⟨_, h, t, rfl⟩) (He.str_ok X G (c.t.d.fact 23 (f := .str "SMALL" "abcdefghijklmnopqrstuvwxyz") rfl))
  g_FIGURES := (fun ⟨t, h⟩ => ⟨_, h, t, rfl⟩) (He.str_ok X G (c.t.d.fact 24 (f := .str "FIGURES" "0123456789") rfl))
  g_SMALL_LETTERS := (fun ⟨t, h⟩ => ⟨_, h, t, rfl⟩) (He.str_ok X G (c.t.d.fact 25 (f := .str "SMALL_LETTERS" "abcdefghijklmnopqrstuvwxyz") rfl))
  g_PAIRS := He.glo_ok X G (c.t.d.fact 26 (f := .glo "PAIRS") rfl)
  g_ONES := He.glo_ok X G (c.t.d.fact 27 (f := .glo "ONES") rfl)
  g_Costs := He.glo_ok X G (c.t.d.fact 28 (f := .glo "Costs") rfl)
  g_Desk := He.glo_ok X G (c.t.d.fact 29 (f := .glo "Desk") rfl)
  g_Truths := He.glo_ok X G (c.t.d.fact 30 (f := .glo "Truths") rfl)
  g_WeighError := He.glo_ok X G (c.t.d.fact 31 (f := .glo "WeighError") rfl)
  g_NoKind := He.glo_ok X G (c.t.d.fact 32 (f := .glo "NoKind") rfl)
  g_WrongKind := He.glo_ok X G (c.t.d.fact 33 (f := .glo "WrongKind") rfl)
  g_NoWeight := He.glo_ok X G (c.t.d.fact 34 (f := .glo "NoWeight") rfl)
  g_NoWord := He.glo_ok X G (c.t.d.fact 35 (f := .glo "NoWord") rfl)
  g_Unlike := He.glo_ok X G (c.t.d.fact 36 (f := .glo "Unlike") rfl)
  g_NoClosure := He.glo_ok X G (c.t.d.fact 37 (f := .glo "NoClosure") rfl)
  g_TooGreat := He.glo_ok X G (c.t.d.fact 38 (f := .glo "TooGreat") rfl)
  g_NoText := He.glo_ok X G (c.t.d.fact 39 (f := .glo "NoText") rfl)
  g_NoName := He.glo_ok X G (c.t.d.fact 40 (f := .glo "NoName") rfl)
  g_NoRow := He.glo_ok X G (c.t.d.fact 41 (f := .glo "NoRow") rfl)
  g_FORMS := He.glo_ok X G (c.t.d.fact 42 (f := .glo "FORMS") rfl)
  t_PAIRS := fun H => He.tupB_ok (exA c.more 0) H
  t_ONES := fun H => He.tupB_ok (exA c.more 1) H
  c_Costs := He.cls_ok (c.t.d.fact 43 (f := .cls "Costs") rfl)
  c_Desk := He.cls_ok (c.t.d.fact 44 (f := .cls "Desk") rfl)
  d_dot := (fun ⟨fd, h⟩ => ⟨_, fd, He.glo_ok X G (c.t.d.fact 45 (f := .glo "dot") rfl), h⟩) (c.t.d.def_ 0 (d := dd_dot) rfl)
  d_column_at := (fun ⟨fd, h⟩ => ⟨_, fd, He.glo_ok X G (c.t.d.fact 46 (f := .glo "column_at") rfl), h⟩) (c.t.d.def_ 1 (d := dd_column_at) rfl)
  d_is_letters := (fun ⟨fd, h⟩ => ⟨_, fd, He.glo_ok X G (c.t.d.fact 47 (f := .glo "is_letters") rfl), h⟩) (c.t.d.def_ 2 (d := dd_is_letters) rfl)
  d_rooms := (fun ⟨fd, h⟩ => ⟨_, fd, He.glo_ok X G (c.t.d.fact 48 (f := .glo "rooms") rfl), h⟩) (c.t.d.def_ 3 (d := dd_rooms) rfl)
  d_check_word := (fun ⟨fd, h⟩ => ⟨_, fd, He.glo_ok X G (c.t.d.fact 49 (f := .glo "check_word") rfl), h⟩) (c.t.d.def_ 4 (d := dd_check_word) rfl)
  d_check_letters := (fun ⟨fd, h⟩ => ⟨_, fd, He.glo_ok X G (c.t.d.fact 50 (f := .glo "check_letters") rfl), h⟩) (c.t.d.def_ 5 (d := dd_check_letters) rfl)
  d_check_rooms := (fun ⟨fd, h⟩ => ⟨_, fd, He.glo_ok X G (c.t.d.fact 51 (f := .glo "check_rooms") rfl), h⟩) (c.t.d.def_ 6 (d := dd_check_rooms) rfl)
  d_noughts := (fun ⟨fd, h⟩ => ⟨_, fd, He.glo_ok X G (c.t.d.fact 52 (f := .glo "noughts") rfl), h⟩) (c.t.d.def_ 7 (d := dd_noughts) rfl)
  d_by_all := (fun ⟨fd, h⟩ => ⟨_, fd, He.glo_ok X G (c.t.d.fact 53 (f := .glo "by_all") rfl), h⟩) (c.t.d.def_ 8 (d := dd_by_all) rfl)
  d_scaled := (fun ⟨fd, h⟩ => ⟨_, fd, He.glo_ok X G (c.t.d.fact 54 (f := .glo "scaled") rfl), h⟩) (c.t.d.def_ 9 (d := dd_scaled) rfl)
  d_added := (fun ⟨fd, h⟩ => ⟨_, fd, He.glo_ok X G (c.t.d.fact 55 (f := .glo "added") rfl), h⟩) (c.t.d.def_ 10 (d := dd_added) rfl)
  d_joined := (fun ⟨fd, h⟩ => ⟨_, fd, He.glo_ok X G (c.t.d.fact 56 (f := .glo "joined") rfl), h⟩) (c.t.d.def_ 11 (d := dd_joined) rfl)
  d_turned := (fun ⟨fd, h⟩ => ⟨_, fd, He.glo_ok X G (c.t.d.fact 57 (f := .glo "turned") rfl), h⟩) (c.t.d.def_ 12 (d := dd_turned) rfl)
  d_closed := (fun ⟨fd, h⟩ => ⟨_, fd, He.glo_ok X G (c.t.d.fact 58 (f := .glo "closed") rfl), h⟩) (c.t.d.def_ 13 (d := dd_closed) rfl)
  d_single := (fun ⟨fd, h⟩ => ⟨_, fd, He.glo_ok X G (c.t.d.fact 59 (f := .glo "single") rfl), h⟩) (c.t.d.def_ 14 (d := dd_single) rfl)
  d_steps_of := (fun ⟨fd, h⟩ => ⟨_, fd, He.glo_ok X G (c.t.d.fact 60 (f := .glo "steps_of") rfl), h⟩) (c.t.d.def_ 15 (d := dd_steps_of) rfl)
  d_reached := (fun ⟨fd, h⟩ => ⟨_, fd, He.glo_ok X G (c.t.d.fact 61 (f := .glo "reached") rfl), h⟩) (c.t.d.def_ 16 (d := dd_reached) rfl)
  d_useful := (fun ⟨fd, h⟩ => ⟨_, fd, He.glo_ok X G (c.t.d.fact 62 (f := .glo "useful") rfl), h⟩) (c.t.d.def_ 17 (d := dd_useful) rfl)
  d_raised := (fun ⟨fd, h⟩ => ⟨_, fd, He.glo_ok X G (c.t.d.fact 63 (f := .glo "raised") rfl), h⟩) (c.t.d.def_ 18 (d := dd_raised) rfl)
  d_levels_of := (fun ⟨fd, h⟩ => ⟨_, fd, He.glo_ok X G (c.t.d.fact 64 (f := .glo "levels_of") rfl), h⟩) (c.t.d.def_ 19 (d := dd_levels_of) rfl)
  d_way_to := (fun ⟨fd, h⟩ => ⟨_, fd, He.glo_ok X G (c.t.d.fact 65 (f := .glo "way_to") rfl), h⟩) (c.t.d.def_ 20 (d := dd_way_to) rfl)
  d_way_out := (fun ⟨fd, h⟩ => ⟨_, fd, He.glo_ok X G (c.t.d.fact 66 (f := .glo "way_out") rfl), h⟩) (c.t.d.def_ 21 (d := dd_way_out) rfl)
  d_ring_in := (fun ⟨fd, h⟩ => ⟨_, fd, He.glo_ok X G (c.t.d.fact 67 (f := .glo "ring_in") rfl), h⟩) (c.t.d.def_ 22 (d := dd_ring_in) rfl)
  d_prices_of := (fun ⟨fd, h⟩ => ⟨_, fd, He.glo_ok X G (c.t.d.fact 68 (f := .glo "prices_of") rfl), h⟩) (c.t.d.def_ 23 (d := dd_prices_of) rfl)
  d_cheapest := (fun ⟨fd, h⟩ => ⟨_, fd, He.glo_ok X G (c.t.d.fact 69 (f := .glo "cheapest") rfl), h⟩) (c.t.d.def_ 24 (d := dd_cheapest) rfl)
  d_read_whole := (fun ⟨fd, h⟩ => ⟨_, fd, He.glo_ok X G (c.t.d.fact 70 (f := .glo "read_whole") rfl), h⟩) (c.t.d.def_ 25 (d := dd_read_whole) rfl)
  d_Costs_nought := (fun ⟨fd, h⟩ => ⟨_, fd, He.meth_ok (c.t.d.fact 71 (f := .meth "Costs" "nought") rfl), h⟩) (c.t.d.def_ 26 (d := dd_Costs_nought) rfl)
  d_Costs_one := (fun ⟨fd, h⟩ => ⟨_, fd, He.meth_ok (c.t.d.fact 72 (f := .meth "Costs" "one") rfl), h⟩) (c.t.d.def_ 27 (d := dd_Costs_one) rfl)
  d_Costs_plus := (fun ⟨fd, h⟩ => ⟨_, fd, He.meth_ok (c.t.d.fact 73 (f := .meth "Costs" "plus") rfl), h⟩) (c.t.d.def_ 28 (d := dd_Costs_plus) rfl)
  d_Costs_times := (fun ⟨fd, h⟩ => ⟨_, fd, He.meth_ok (c.t.d.fact 74 (f := .meth "Costs" "times") rfl), h⟩) (c.t.d.def_ 29 (d := dd_Costs_times) rfl)
  d_Costs_shown := (fun ⟨fd, h⟩ => ⟨_, fd, He.meth_ok (c.t.d.fact 75 (f := .meth "Costs" "shown") rfl), h⟩) (c.t.d.def_ 30 (d := dd_Costs_shown) rfl)
  d_Costs_read := (fun ⟨fd, h⟩ => ⟨_, fd, He.meth_ok (c.t.d.fact 76 (f := .meth "Costs" "read") rfl), h⟩) (c.t.d.def_ 31 (d := dd_Costs_read) rfl)
  d_within := (fun ⟨fd, h⟩ => ⟨_, fd, He.glo_ok X G (c.t.d.fact 77 (f := .glo "within") rfl), h⟩) (c.t.d.def_ 32 (d := dd_within) rfl)
  d_built := (fun ⟨fd, h⟩ => ⟨_, fd, He.glo_ok X G (c.t.d.fact 78 (f := .glo "built") rfl), h⟩) (c.t.d.def_ 33 (d := dd_built) rfl)
  d_read_word := (fun ⟨fd, h⟩ => ⟨_, fd, He.glo_ok X G (c.t.d.fact 79 (f := .glo "read_word") rfl), h⟩) (c.t.d.def_ 34 (d := dd_read_word) rfl)
  d_read_at := (fun ⟨fd, h⟩ => ⟨_, fd, He.glo_ok X G (c.t.d.fact 80 (f := .glo "read_at") rfl), h⟩) (c.t.d.def_ 35 (d := dd_read_at) rfl)
  d_many_parts := (fun ⟨fd, h⟩ => ⟨_, fd, He.glo_ok X G (c.t.d.fact 81 (f := .glo "many_parts") rfl), h⟩) (c.t.d.def_ 36 (d := dd_many_parts) rfl)
  d_read_saying := (fun ⟨fd, h⟩ => ⟨_, fd, He.glo_ok X G (c.t.d.fact 82 (f := .glo "read_saying") rfl), h⟩) (c.t.d.def_ 37 (d := dd_read_saying) rfl)
  d_read_line := (fun ⟨fd, h⟩ => ⟨_, fd, He.glo_ok X G (c.t.d.fact 83 (f := .glo "read_line") rfl), h⟩) (c.t.d.def_ 38 (d := dd_read_line) rfl)
  d_read_table := (fun ⟨fd, h⟩ => ⟨_, fd, He.glo_ok X G (c.t.d.fact 84 (f := .glo "read_table") rfl), h⟩) (c.t.d.def_ 39 (d := dd_read_table) rfl)
  d_read_machine := (fun ⟨fd, h⟩ => ⟨_, fd, He.glo_ok X G (c.t.d.fact 85 (f := .glo "read_machine") rfl), h⟩) (c.t.d.def_ 40 (d := dd_read_machine) rfl)
  d_is_call := (fun ⟨fd, h⟩ => ⟨_, fd, He.glo_ok X G (c.t.d.fact 86 (f := .glo "is_call") rfl), h⟩) (c.t.d.def_ 41 (d := dd_is_call) rfl)
  d_taken_apart := (fun ⟨fd, h⟩ => ⟨_, fd, He.glo_ok X G (c.t.d.fact 87 (f := .glo "taken_apart") rfl), h⟩) (c.t.d.def_ 42 (d := dd_taken_apart) rfl)
  d_Desk_say := (fun ⟨fd, h⟩ => ⟨_, fd, He.meth_ok (c.t.d.fact 88 (f := .meth "Desk" "say") rfl), h⟩) (c.t.d.def_ 43 (d := dd_Desk_say) rfl)
  d_Desk_made := (fun ⟨fd, h⟩ => ⟨_, fd, He.meth_ok (c.t.d.fact 89 (f := .meth "Desk" "made") rfl), h⟩) (c.t.d.def_ 44 (d := dd_Desk_made) rfl)
  d_Desk_asked := (fun ⟨fd, h⟩ => ⟨_, fd, He.meth_ok (c.t.d.fact 90 (f := .meth "Desk" "asked") rfl), h⟩) (c.t.d.def_ 45 (d := dd_Desk_asked) rfl)
  d__law_state := (fun ⟨fd, h⟩ => ⟨_, fd, He.glo_ok X G (c.t.d.fact 91 (f := .glo "_law_state") rfl), h⟩) (c.t.d.def_ 46 (d := dd__law_state) rfl)
  d__law_next := (fun ⟨fd, h⟩ => ⟨_, fd, He.glo_ok X G (c.t.d.fact 92 (f := .glo "_law_next") rfl), h⟩) (c.t.d.def_ 47 (d := dd__law_next) rfl)
  d__law_rooms := (fun ⟨fd, h⟩ => ⟨_, fd, He.glo_ok X G (c.t.d.fact 93 (f := .glo "_law_rooms") rfl), h⟩) (c.t.d.def_ 48 (d := dd__law_rooms) rfl)
  d__law_letters := (fun ⟨fd, h⟩ => ⟨_, fd, He.glo_ok X G (c.t.d.fact 94 (f := .glo "_law_letters") rfl), h⟩) (c.t.d.def_ 49 (d := dd__law_letters) rfl)
  d__law_calls := (fun ⟨fd, h⟩ => ⟨_, fd, He.glo_ok X G (c.t.d.fact 95 (f := .glo "_law_calls") rfl), h⟩) (c.t.d.def_ 50 (d := dd__law_calls) rfl)
  d__law_costs := (fun ⟨fd, h⟩ => ⟨_, fd, He.glo_ok X G (c.t.d.fact 96 (f := .glo "_law_costs") rfl), h⟩) (c.t.d.def_ 51 (d := dd__law_costs) rfl)
  d__law_far := (fun ⟨fd, h⟩ => ⟨_, fd, He.glo_ok X G (c.t.d.fact 97 (f := .glo "_law_far") rfl), h⟩) (c.t.d.def_ 52 (d := dd__law_far) rfl)
  d__law_any_machine := (fun ⟨fd, h⟩ => ⟨_, fd, He.glo_ok X G (c.t.d.fact 98 (f := .glo "_law_any_machine") rfl), h⟩) (c.t.d.def_ 53 (d := dd__law_any_machine) rfl)
  d__law_step := (fun ⟨fd, h⟩ => ⟨_, fd, He.glo_ok X G (c.t.d.fact 99 (f := .glo "_law_step") rfl), h⟩) (c.t.d.def_ 54 (d := dd__law_step) rfl)
  d__law_come_to := (fun ⟨fd, h⟩ => ⟨_, fd, He.glo_ok X G (c.t.d.fact 100 (f := .glo "_law_come_to") rfl), h⟩) (c.t.d.def_ 55 (d := dd__law_come_to) rfl)
  d__law_of_use := (fun ⟨fd, h⟩ => ⟨_, fd, He.glo_ok X G (c.t.d.fact 101 (f := .glo "_law_of_use") rfl), h⟩) (c.t.d.def_ 56 (d := dd__law_of_use) rfl)
  d__law_round := (fun ⟨fd, h⟩ => ⟨_, fd, He.glo_ok X G (c.t.d.fact 102 (f := .glo "_law_round") rfl), h⟩) (c.t.d.def_ 57 (d := dd__law_round) rfl)
  d__law_prices := (fun ⟨fd, h⟩ => ⟨_, fd, He.glo_ok X G (c.t.d.fact 103 (f := .glo "_law_prices") rfl), h⟩) (c.t.d.def_ 58 (d := dd__law_prices) rfl)
  d__law_told := (fun ⟨fd, h⟩ => ⟨_, fd, He.glo_ok X G (c.t.d.fact 104 (f := .glo "_law_told") rfl), h⟩) (c.t.d.def_ 59 (d := dd__law_told) rfl)
  d__law_of := (fun ⟨fd, h⟩ => ⟨_, fd, He.glo_ok X G (c.t.d.fact 105 (f := .glo "_law_of") rfl), h⟩) (c.t.d.def_ 60 (d := dd__law_of) rfl)
  d__law_shown := (fun ⟨fd, h⟩ => ⟨_, fd, He.glo_ok X G (c.t.d.fact 106 (f := .glo "_law_shown") rfl), h⟩) (c.t.d.def_ 61 (d := dd__law_shown) rfl)
  d__law_line := (fun ⟨fd, h⟩ => ⟨_, fd, He.glo_ok X G (c.t.d.fact 107 (f := .glo "_law_line") rfl), h⟩) (c.t.d.def_ 62 (d := dd__law_line) rfl)
  d__law_text := (fun ⟨fd, h⟩ => ⟨_, fd, He.glo_ok X G (c.t.d.fact 108 (f := .glo "_law_text") rfl), h⟩) (c.t.d.def_ 63 (d := dd__law_text) rfl)
  d__law_lesser := (fun ⟨fd, h⟩ => ⟨_, fd, He.glo_ok X G (c.t.d.fact 109 (f := .glo "_law_lesser") rfl), h⟩) (c.t.d.def_ 64 (d := dd__law_lesser) rfl)
  d__law_read_in := (fun ⟨fd, h⟩ => ⟨_, fd, He.glo_ok X G (c.t.d.fact 110 (f := .glo "_law_read_in") rfl), h⟩) (c.t.d.def_ 65 (d := dd__law_read_in) rfl)
  d__law_added := (fun ⟨fd, h⟩ => ⟨_, fd, He.glo_ok X G (c.t.d.fact 111 (f := .glo "_law_added") rfl), h⟩) (c.t.d.def_ 66 (d := dd__law_added) rfl)
  d__law_joined := (fun ⟨fd, h⟩ => ⟨_, fd, He.glo_ok X G (c.t.d.fact 112 (f := .glo "_law_joined") rfl), h⟩) (c.t.d.def_ 67 (d := dd__law_joined) rfl)
  d__law_made := (fun ⟨fd, h⟩ => ⟨_, fd, He.glo_ok X G (c.t.d.fact 113 (f := .glo "_law_made") rfl), h⟩) (c.t.d.def_ 68 (d := dd__law_made) rfl)
  d__law_scaled := (fun ⟨fd, h⟩ => ⟨_, fd, He.glo_ok X G (c.t.d.fact 114 (f := .glo "_law_scaled") rfl), h⟩) (c.t.d.def_ 69 (d := dd__law_scaled) rfl)
  d__law_row := (fun ⟨fd, h⟩ => ⟨_, fd, He.glo_ok X G (c.t.d.fact 115 (f := .glo "_law_row") rfl), h⟩) (c.t.d.def_ 70 (d := dd__law_row) rfl)
  d_law := (fun ⟨fd, h⟩ => ⟨_, fd, He.glo_ok X G (c.t.d.fact 116 (f := .glo "law") rfl), h⟩) (c.t.d.def_ 71 (d := dd_law) rfl)
  n_kind := He.noat_ok (c.t.d.fact 117 (f := .noat "Desk" "kind") rfl)
  n_letters := He.noat_ok (c.t.d.fact 118 (f := .noat "Desk" "letters") rfl)
  n_machines := He.noat_ok (c.t.d.fact 119 (f := .noat "Desk" "machines") rfl)
  k_Desk := He.mkr_ok (c.t.d.fact 120 (f := .mkr "Desk") rfl)
  d_Desk_init := c.t.d.def_ 72 (d := dd_Desk_init) rfl
  m0_Costs := m0B_ok (exA c.more 2)
  x_NoClosure := (He.exc_ok (c.t.d.fact 121 (f := .exc "NoClosure") rfl)).1
  kp_NoClosure := (He.exc_ok (c.t.d.fact 121 (f := .exc "NoClosure") rfl)).2.1
  b_NoClosure := (He.exc_ok (c.t.d.fact 121 (f := .exc "NoClosure") rfl)).2.2.1
  t_NoClosure := (He.exc_ok (c.t.d.fact 121 (f := .exc "NoClosure") rfl)).2.2.2
  e_NoClosure := He.exm_ok (c.t.d.fact 122 (f := .exm "NoClosure" "WeighError" true) rfl)
  ec_NoClosure := ecB_ok (exA c.more 3)
  i_NoClosure_NoKind := of_decide_eq_true (exA c.more 4)
  i_NoClosure_WrongKind := of_decide_eq_true (exA c.more 5)
  i_NoClosure_NoWeight := of_decide_eq_true (exA c.more 6)
  i_NoClosure_NoWord := of_decide_eq_true (exA c.more 7)
  i_NoClosure_Unlike := of_decide_eq_true (exA c.more 8)
  i_NoClosure_NoClosure := of_decide_eq_true (exA c.more 9)
  i_NoClosure_TooGreat := of_decide_eq_true (exA c.more 10)
  i_NoClosure_NoText := of_decide_eq_true (exA c.more 11)
  i_NoClosure_NoName := of_decide_eq_true (exA c.more 12)
  i_NoClosure_NoRow := of_decide_eq_true (exA c.more 13)
  i_NoClosure_ValueError := of_decide_eq_true (exA c.more 14)
  x_TooGreat := (He.exc_ok (c.t.d.fact 123 (f := .exc "TooGreat") rfl)).1
  kp_TooGreat := (He.exc_ok (c.t.d.fact 123 (f := .exc "TooGreat") rfl)).2.1
  b_TooGreat := (He.exc_ok (c.t.d.fact 123 (f := .exc "TooGreat") rfl)).2.2.1
  t_TooGreat := (He.exc_ok (c.t.d.fact 123 (f := .exc "TooGreat") rfl)).2.2.2
  e_TooGreat := He.exm_ok (c.t.d.fact 124 (f := .exm "TooGreat" "WeighError" true) rfl)
  ec_TooGreat := ecB_ok (exA c.more 15)
  i_TooGreat_NoKind := of_decide_eq_true (exA c.more 16)
  i_TooGreat_WrongKind := of_decide_eq_true (exA c.more 17)
  i_TooGreat_NoWeight := of_decide_eq_true (exA c.more 18)
  i_TooGreat_NoWord := of_decide_eq_true (exA c.more 19)
  i_TooGreat_Unlike := of_decide_eq_true (exA c.more 20)
  i_TooGreat_NoClosure := of_decide_eq_true (exA c.more 21)
  i_TooGreat_TooGreat := of_decide_eq_true (exA c.more 22)
  i_TooGreat_NoText := of_decide_eq_true (exA c.more 23)
  i_TooGreat_NoName := of_decide_eq_true (exA c.more 24)
  i_TooGreat_NoRow := of_decide_eq_true (exA c.more 25)
  i_TooGreat_ValueError := of_decide_eq_true (exA c.more 26)
  x_NoName := (He.exc_ok (c.t.d.fact 125 (f := .exc "NoName") rfl)).1
  kp_NoName := (He.exc_ok (c.t.d.fact 125 (f := .exc "NoName") rfl)).2.1
  b_NoName := (He.exc_ok (c.t.d.fact 125 (f := .exc "NoName") rfl)).2.2.1
  t_NoName := (He.exc_ok (c.t.d.fact 125 (f := .exc "NoName") rfl)).2.2.2
  e_NoName := He.exm_ok (c.t.d.fact 126 (f := .exm "NoName" "WeighError" true) rfl)
  ec_NoName := ecB_ok (exA c.more 27)
  i_NoName_NoKind := of_decide_eq_true (exA c.more 28)
  i_NoName_WrongKind := of_decide_eq_true (exA c.more 29)
  i_NoName_NoWeight := of_decide_eq_true (exA c.more 30)
  i_NoName_NoWord := of_decide_eq_true (exA c.more 31)
  i_NoName_Unlike := of_decide_eq_true (exA c.more 32)
  i_NoName_NoClosure := of_decide_eq_true (exA c.more 33)
  i_NoName_TooGreat := of_decide_eq_true (exA c.more 34)
  i_NoName_NoText := of_decide_eq_true (exA c.more 35)
  i_NoName_NoName := of_decide_eq_true (exA c.more 36)
  i_NoName_NoRow := of_decide_eq_true (exA c.more 37)
  i_NoName_ValueError := of_decide_eq_true (exA c.more 38)
  i_Costs_Costs := of_decide_eq_true (exA c.more 39)
  ic_Costs := of_decide_eq_true (exA c.more 40)
  i_Costs_Truths := of_decide_eq_true (exA c.more 41)
  k_FORMS := c.t.tab 0 (t := tabF) rfl
  v_FORMS_say := formB_ok (exA c.more 42)
  v_FORMS_read := formB_ok (exA c.more 43)
  v_FORMS_scale := formB_ok (exA c.more 44)
  v_FORMS_add := formB_ok (exA c.more 45)
  v_FORMS_join := formB_ok (exA c.more 46)
  v_FORMS_cross := formB_ok (exA c.more 47)
  v_FORMS_turn := formB_ok (exA c.more 48)
  v_FORMS_close := formB_ok (exA c.more 49)
  v_FORMS_least := formB_ok (exA c.more 50)
  v_FORMS_rooms := formB_ok (exA c.more 51)
  v_FORMS_show := formB_ok (exA c.more 52)
  v_FORMS_weigh := formB_ok (exA c.more 53)
  v_FORMS_alike := formB_ok (exA c.more 54)
  v_FORMS_cheapest := formB_ok (exA c.more 55)
end Hd
end L2.Ww
set_option Elab.async false
set_option linter.all false
set_option maxRecDepth 100000
set_option maxHeartbeats 4000000
/-! Costs, rows, dots. -/
namespace L2.Ww
open PySem PySem.Spec PyProof.Rows
/-- a weight: a cost, or none -/
abbrev Wt := Option Int
def vW : Wt → V
  | none => .non
  | some i => .int i
def wplus : Wt → Wt → Wt
  | none, y => y
  | some x, none => some x
  | some x, some y => some (if y < x then y else x)
def wtimes : Wt → Wt → Wt
  | some x, some y => some (x + y)
  | _, _ => none
/-- the kind's instance -/
def CostsAt (K : PySem.W.Frag) (H : Hp) (v : V) : Prop := ∃ a dx, v = .ref a ∧ H a = some (.ins (He.ga K "Costs") dx [])
theorem CostsAt.same {K : PySem.W.Frag} {H H' : Hp} {v : V} (k : Same H H') (h : CostsAt K H v) : CostsAt K H' v := by
  obtain ⟨a, dx, e, h⟩ := h
  exact ⟨a, dx, e, k _ _ h⟩
def spNought : Sp := fun vs H Q _ => ∃ v, vs = [v] ∧ Q .non H
def spOne : Sp := fun vs H Q _ => ∃ v, vs = [v] ∧ Q (.int 0) H
def spPlus : Sp := fun vs H Q _ => ∃ v x y, vs = [v, vW x, vW y] ∧ Q (vW (wplus x y)) H
def spTimes : Sp := fun vs H Q _ => ∃ v x y, vs = [v, vW x, vW y] ∧ Q (vW (wtimes x y)) H
section
variable {P : Program} {w : World} {K : PySem.W.Frag} {mg : Str → Option Value} {base : Heap}
abbrev s_Costs_nought : Stmt := inClass (top 73) 1
theorem sc_Costs_nought : FnScope ["self"] ["self"] (defScope s_Costs_nought) := ⟨rfl, rfl, rfl, by decide +kernel, rfl, by decide +kernel, by decide +kernel⟩
theorem ok_Costs_nought (T : Txt w K mg) : Met P w K mg base CX0 1 (He.ga K "Costs") "nought" spNought := by
  refine met_ok T.c_Costs T.d_Costs_nought (fun _ _ _ _ _ _ us hl => match us, hl with | [_], _ => rfl) sc_Costs_nought (fun vs H Q E h => ?_) (fun cdv A outer s f H vs Q E hr h => ?_)
  · obtain ⟨v, rfl, _⟩ := h; rfl
  · obtain ⟨v, rfl, k⟩ := h
    exact ⟨_, PSs.nox (pss_one (ps_ret pe_non)), k⟩
abbrev s_Costs_one : Stmt := inClass (top 73) 2
theorem sc_Costs_one : FnScope ["self"] ["self"] (defScope s_Costs_one) := ⟨rfl, rfl, rfl, by decide +kernel, rfl, by decide +kernel, by decide +kernel⟩
theorem ok_Costs_one (T : Txt w K mg) : Met P w K mg base CX0 1 (He.ga K "Costs") "one" spOne := by
  refine met_ok T.c_Costs T.d_Costs_one (fun _ _ _ _ _ _ us hl => match us, hl with | [_], _ => rfl) sc_Costs_one (fun vs H Q E h => ?_) (fun cdv A outer s f H vs Q E hr h => ?_)
  · obtain ⟨v, rfl, _⟩ := h; rfl
  · obtain ⟨v, rfl, k⟩ := h
    exact ⟨_, PSs.nox (pss_one (ps_ret pe_int)), k⟩
abbrev s_Costs_plus : Stmt := inClass (top 73) 3
theorem sc_Costs_plus : FnScope ["self", "x", "y"] ["self", "x", "y"] (defScope s_Costs_plus) := ⟨rfl, rfl, rfl, by decide +kernel, rfl, by decide +kernel, by decide +kernel⟩
theorem ok_Costs_plus (T : Txt w K mg) : Met P w K mg base CX0 1 (He.ga K "Costs") "plus" spPlus := by
  refine met_ok T.c_Costs T.d_Costs_plus (fun _ _ _ _ _ _ us hl => match us, hl with | [_, _, _], _ => rfl) sc_Costs_plus (fun vs H Q E h => ?_) (fun cdv A outer s f H vs Q E hr h => ?_)
  · obtain ⟨v, x, y, rfl, _⟩ := h; rfl
  · obtain ⟨v, x, y, rfl, k⟩ := h
    refine ⟨_, PSs.nox (pss_cons (ps_if (pt_cmpR op_isN (pv 1) pe_non (nomark _)) (pss_one (ps_ret (pv 2))) pss_nil)
      (pss_cons (ps_if (pt_cmpR op_isN (pv 2) pe_non (nomark _)) (pss_one (ps_ret (pv 1))) pss_nil)
      (pss_one (ps_ret (pe_callB (call_min2 rfl) (by rfl) T.f_min (by decide +kernel) (pa_cons (pv 1) (pa_cons (pv 2) pa_nil))))))), ?_⟩
    refine ⟨_, rfl, rfl, _, rfl, ?_⟩
    cases x with
    | none => exact iteT ⟨_, rfl, k⟩
    | some x =>
      refine iteF ⟨_, rfl, rfl, _, rfl, ?_⟩
      cases y with
      | none => exact iteT ⟨_, rfl, k⟩
      | some y => exact iteF ⟨_, rfl, _, rfl, _, _, rfl, k⟩
abbrev s_Costs_times : Stmt := inClass (top 73) 4
theorem sc_Costs_times : FnScope ["self", "x", "y"] ["self", "x", "y"] (defScope s_Costs_times) := ⟨rfl, rfl, rfl, by decide +kernel, rfl, by decide +kernel, by decide +kernel⟩
theorem ok_Costs_times (T : Txt w K mg) : Met P w K mg base CX0 1 (He.ga K "Costs") "times" spTimes := by
  refine met_ok T.c_Costs T.d_Costs_times (fun _ _ _ _ _ _ us hl => match us, hl with | [_, _, _], _ => rfl) sc_Costs_times (fun vs H Q E h => ?_) (fun cdv A outer s f H vs Q E hr h => ?_)
  · obtain ⟨v, x, y, rfl, _⟩ := h; rfl
  · obtain ⟨v, x, y, rfl, k⟩ := h
    refine ⟨_, PSs.nox (pss_cons (ps_if (PW.pt (pw_or (pt_cmpR op_isN (pv 1) pe_non (nomark _)) (pw_or1 (pt_cmpR op_isN (pv 2) pe_non (nomark _))))) (pss_one (ps_ret pe_non)) pss_nil)
      (pss_one (ps_ret (pe_op op_add (pv 1) (pv 2))))), ?_⟩
    refine ⟨_, rfl, rfl, _, rfl, ?_⟩
    cases x with
    | none => exact iteT (iteT k)
    | some x =>
      refine iteF ⟨_, rfl, rfl, _, rfl, ?_⟩
      cases y with
      | none => exact iteT k
      | some y => exact iteF ⟨_, rfl, _, rfl, _, _, rfl, rfl, k⟩
end
end L2.Ww
set_option Elab.async false
set_option linter.all false
set_option maxRecDepth 100000
set_option maxHeartbeats 4000000
/-! Loops, comprehensions, readings by data. -/
namespace L2.Ww
open PySem PySem.Spec PyProof.Rows
/-! ### lists by place -/
theorem fm_range_succ {α : Type} (out : Nat → Option α) (i : Nat) : (List.range (i + 1)).filterMap out = (List.range i).filterMap out ++ (match out i with | some d => [d] | none => []) := by
  rw [List.range_succ, List.filterMap_append]
  congr 1
  cases h : out i <;> simp [h]
theorem fm_range {α β : Type} (l : List α) (f : α → Option β) : (List.range l.length).filterMap (fun i => (l[i]?).bind f) = l.filterMap f := by
  induction l with
  | nil => rfl
  | cons x l ih =>
    rw [List.length_cons, List.range_succ_eq_map, List.filterMap_cons, List.filterMap_map, List.filterMap_cons]
    have e : ((fun i => ((x :: l)[i]?).bind f) ∘ Nat.succ) = fun i => (l[i]?).bind f := by
      funext i; simp
    rw [e, ih]
    simp
theorem fm_map {α β : Type} (l : List α) (f : α → β) : (List.range l.length).filterMap (fun i => (l[i]?).map f) = l.map f := by
  have := fm_range l (fun x => some (f x))
  rw [List.filterMap_eq_map'] at this
  rw [← this]
  congr 1
  funext i
  cases l[i]? <;> rfl
theorem fm_rng {β : Type} (n : Nat) (f : Nat → β) : (List.range n).filterMap (fun i => some (f i)) = (List.range n).map f := by rw [List.filterMap_eq_map']
/-! ### comprehensions -/
theorem lc_gen {J : It} {n : Nat} {G : Hp → Prop} {Y : Nat → Hp → V → Hp → Prop} (w : Walk J n G Y) {H0 : Hp} {Dd : Addr} (hD : H0 Dd = none) (hn : n ≤ sizeLine) (hG : ∀ H, Same H0 H → G H) (hY : ∀ i H x H', Y i H x H' → Same H H')
    (out : Nat → Option D) {g : TG} {tt : TT} {te : TE} {vs : List Nat} {σ : St} {Qd : Hp → Prop}
    (hs : ∀ i x H H', i < n → Same H0 H' → Y i H x H' → Same H0 H → ∀ (Kf : Hp → Prop) (Kt : V → Hp → Prop), (out i = none → ∀ H3, Same H' H3 → Kf H3) → (∀ d, out i = some d → ∀ y H4, Same H' H4 → Rep H4 d y → Kt y H4) →
      g x (wipe σ vs) H' fun σ2 H2 => wipe σ2 vs = wipe σ vs ∧ tt σ2 H2 fun b H3 => if b = true then te σ2 H3 Kt else Kf H3)
    (hd : ∀ Hf, Same H0 Hf → LstAt Hf Dd ((List.range n).filterMap out) → Qd Hf) :
    ∃ W : Nat → Nat → Hp → Prop, (∃ m, W 0 m (upd H0 Dd (.lst []))) ∧ ∀ i m H, W i m H →
      (J.stop i H ∧ Qd H) ∨ (J.go i H ∧ ∃ Nx : Hp → Prop, (∀ H', Nx H' → ∃ m', m' < m ∧ W (i + 1) m' H') ∧ ∀ x H', J.yld i H x H' → g x (wipe σ vs) H' fun σ2 H2 => wipe σ2 vs = wipe σ vs ∧ tt σ2 H2 fun b H3 =>
        if b = true then te σ2 H3 fun y H4 => ∃ acc, H4 Dd = some (.lst acc) ∧ acc.length < sizeLine ∧ Nx (upd H4 Dd (.lst (acc ++ [y]))) else Nx H3) := by
  refine lc_it (Qd := Qd) w (fun i H => Same H0 H ∧ LstAt H Dd ((List.range i).filterMap out)) ⟨Same.upd' hD, [], upd_same, Reps.nil⟩ (fun i H _ p => hG H p.1) ?_ (fun H p => hd H p.1 p.2)
  rintro i x H H' hi ⟨s, acc, e, r⟩ y
  have sH := hY i H x H' y
  have hl : acc.length ≤ i := by
    rw [r.len]
    exact Nat.le_trans (List.length_filterMap_le _ _) (by rw [List.length_range]; exact Nat.le_refl _)
  refine hs i x H H' hi (s.trans sH) y s _ _ (fun ho H3 s3 => ?_) (fun d ho z H4 s4 rz => ?_)
  · refine ⟨(s.trans sH).trans s3, acc, s3 _ _ (sH _ _ e), ?_⟩
    rw [fm_range_succ, ho, List.append_nil]
    exact (r.same sH).same s3
  · have e4 : H4 Dd = some (.lst acc) := s4 _ _ (sH _ _ e)
    refine ⟨acc, e4, by omega, Same.upd ((s.trans sH).trans s4) hD, _, upd_same, ?_⟩
    rw [fm_range_succ, ho]
    exact (((r.same sH).same s4).snoc rz).up (TupLe.upd_lst e4)
theorem same_YAt {xs : List V} : ∀ i H x H', YAt xs i H x H' → Same H H' := fun _ H _ _ y => by rw [y.1]; exact Same.refl H
theorem same_YFn {f : Nat → V} : ∀ i H x H', YFn f i H x H' → Same H H' := fun _ H _ _ y => by rw [y.1]; exact Same.refl H
theorem same_YPair {f g : Nat → Option V} : ∀ i H x H', YPair f g i H x H' → Same H H' := fun _ H _ _ y => by
  obtain ⟨T, _, _, _, hT, e, _⟩ := y
  rw [e]; exact Same.upd' hT
theorem walk_range0 {n : Nat} : Walk (Itr 0 n) n (fun _ => True) (YFn fun i => .int (i : Nat)) :=
  walk_range.mono (fun _ h => h) fun i H x H' _ _ y => ⟨y.1, by rw [y.2]; show V.int (0 + (i : Int)) = _; rw [Int.zero_add]⟩
theorem walk_zipT {K : PySem.W.Frag} {a b : Addr} {xs ys : List V} {n : Nat} (hn : n = min xs.length ys.length) : Walk (RZ.ItzT K a b) n (fun H => SqT K H a xs ∧ SqT K H b ys) (YPair (fun i => xs[i]?) (fun i => ys[i]?)) := by
  subst hn
  refine ⟨fun i _ hi q => ?_, fun _ q => ⟨xs, ys, q.1, q.2, by omega⟩, fun i H v H' _ q y => ?_⟩
  · have h1 : i < xs.length := by omega
    have h2 : i < ys.length := by omega
    exact ⟨xs, ys, xs[i], ys[i], q.1, q.2, by simp [h1], by simp [h2]⟩
  · obtain ⟨T, x, z, h1, h2, h3, h4, h5⟩ := y
    exact ⟨T, x, z, h1, h2, h3, h4 xs q.1, h5 ys q.2⟩
theorem sqT_same {K : PySem.W.Frag} {H H' : Hp} {a : Addr} {xs : List V} (e : Same H H') (h : SqT K H a xs) : SqT K H' a xs := by
  rcases h with (h | ⟨o, h⟩) | h
  · exact .inl (.inl (e _ _ h))
  · exact .inl (.inr ⟨o, e _ _ h⟩)
  · exact .inr h
/-! ### the rules with K named; what they ask stands under names that stay shut -/
@[irreducible] def qIxL (K : PySem.W.Frag) : R2 := rIxL K
@[irreducible] def qIxT (K : PySem.W.Frag) : R2 := rIxT K
@[irreducible] def qIn (K : PySem.W.Frag) (b : Bool) : R2 := rIn K b
@[irreducible] def qCatT (K : PySem.W.Frag) : R2 := rCatA K
@[irreducible] def qCatL : R2 := rCat
@[irreducible] def qApp : V → List V → Hp → VK → Prop := rAppend
@[irreducible] def qLen (K : PySem.W.Frag) : List V → Hp → VK → Prop := fun xs H Q => ∃ p ys, xs = [.ref p] ∧ (SqL K H p ys ∨ SqT K H p ys) ∧ Q (.int ys.length) H
@[irreducible] def qTup (K : PySem.W.Frag) : List V → Hp → VK → Prop := fun xs H Q => ∃ p ys, xs = [.ref p] ∧ ((SqL K H p ys ∧ ∀ l, H l = none → Q (.ref l) (upd H l (.tup ys))) ∨ (SqT K H p ys ∧ Q (.ref p) H))
@[irreducible] def qLst (K : PySem.W.Frag) : List V → Hp → VK → Prop := fun xs H Q => ∃ p ys, xs = [.ref p] ∧ (SqL K H p ys ∨ SqT K H p ys) ∧ ∀ l, H l = none → Q (.ref l) (upd H l (.lst ys))
@[irreducible] def qNewT : List V → Hp → VK → Prop := fun xs H Q => xs.length ≤ sizeLine ∧ ∀ p, H p = none → Q (.ref p) (upd H p (.tup xs))
@[irreducible] def qNewL : List V → Hp → VK → Prop := fun xs H Q => xs.length ≤ sizeLine ∧ ∀ p, H p = none → Q (.ref p) (upd H p (.lst xs))
section
variable {X : Cx} (K : PySem.W.Frag)
theorem ix_listQ (hK : X.K = K := by rfl) : IxR X (qIxL K) := by unfold qIxL; exact hK ▸ ix_list
theorem ix_tupQ (hK : X.K = K := by rfl) : IxR X (qIxT K) := by unfold qIxT; exact hK ▸ ix_tup
theorem op_in_seqQ (hK : X.K = K := by rfl) : OpR X (compareOp .In) (qIn K false) := by unfold qIn; exact hK ▸ op_in_seq
theorem op_notIn_seqQ (hK : X.K = K := by rfl) : OpR X (compareOp .NotIn) (qIn K true) := by unfold qIn; exact hK ▸ op_notIn_seq
theorem op_catTQ (hK : X.K = K := by rfl) : OpR X (binaryOp .Add) (qCatT K) := by unfold qCatT; exact hK ▸ op_catA
theorem op_catLQ : OpR X (binaryOp .Add) qCatL := by unfold qCatL; exact op_cat
theorem mt_appQ : MtM X "list.append" qApp := by unfold qApp; exact mt_append
theorem call_lenQ (hK : X.K = K := by rfl) : CallR X (.builtin "len") (qLen K) := by unfold qLen; exact hK ▸ call_len_seq
theorem call_tupQ (hK : X.K = K := by rfl) : CallR X (.type "tuple") (qTup K) := by unfold qTup; exact hK ▸ call_tuple_of
theorem call_lstQ (hK : X.K = K := by rfl) : CallR X (.type "list") (qLst K) := by unfold qLst; exact hK ▸ call_list_of
theorem pe_fldK {e : Expr} {f : Str} {pos : Pos} {ta : TE} (he : PE X e ta) (hb : attributeBase e f X.env (eval e X.env) = eval e X.env) (hK : X.K = K := by rfl) : PE X (.Attribute e f pos) (tFld K ta f) := hK ▸ pe_fld he hb
theorem pg_tupK {pos : Pos} {es : List Expr} {k : Nat} {t : TGs} {n : Nat} (hc : X.calm = true) (h : PGs X es t)
    (hn : (assignEach es X.env).length = n := by rfl) (hst : (assignEach es X.env).findIdx? (·.1) = none := by rfl) (hK : X.K = K := by rfl) : PG X (.Tuple es k pos) (gTup K n t) := hK ▸ pg_tup hc h hn hst
end
@[irreducible] def qSetL : V → V → V → Hp → (Hp → Prop) → Prop := rSetL
theorem set_listQ {X : Cx} : PSet X qSetL := by unfold qSetL; exact set_list
def tNewT (t : TA) : TE := fun σ H Q => t σ H fun xs H1 => qNewT xs H1 Q
def tNewL (t : TA) : TE := fun σ H Q => t σ H fun xs H1 => qNewL xs H1 Q
theorem pe_tupQ {X : Cx} {es : List Expr} {t : TA} {pos : Pos} {x1} (h : PA X es t) : PE X (.Tuple es x1 pos) (tNewT t) := by
  have e : tNewT t = tTup t := by funext σ H Q; unfold tNewT tTup qNewT; rfl
  rw [e]; exact pe_tup h
theorem pe_lstQ {X : Cx} {es : List Expr} {t : TA} {pos : Pos} (h : PA X es t) : PE X (.List es pos) (tNewL t) := by
  have e : tNewL t = tLst t := by funext σ H Q; unfold tNewL tLst qNewL; rfl
  rw [e]; exact pe_lst h
/-! ### readings -/
section
variable {K : PySem.W.Frag} {H : Hp} {Q : VK} {x : V} {ds : List D}
theorem r_ixT (i : Nat) {d : D} (h : Rep H (.t ds) x) (hi : ds[i]? = some d) (k : ∀ v, Rep H d v → Q v H) : qIxT K x (.int (i : Nat)) H Q := by
  obtain ⟨p, vs, rfl, hp, r⟩ := h
  obtain ⟨v, hv, hr⟩ := r.get hi
  unfold qIxT
  exact ⟨p, vs, _, v, rfl, rfl, SqT.of hp, atI_nat hv, k v hr⟩
/-- the same, the data told at an earlier heap -/
theorem r_ixS (i : Nat) {H0 : Hp} {d : D} (h : Rep H0 (.t ds) x) (s : Same H0 H) (hi : ds[i]? = some d) (k : ∀ v, Rep H0 d v → Q v H) : qIxT K x (.int (i : Nat)) H Q := by
  obtain ⟨p, vs, rfl, hp, r⟩ := h
  obtain ⟨v, hv, hr⟩ := r.get hi
  unfold qIxT
  exact ⟨p, vs, _, v, rfl, rfl, SqT.of (s _ _ hp), atI_nat hv, k v hr⟩
theorem r_ixL {p : Addr} (i : Nat) {d : D} (h : LstAt H p ds) (hi : ds[i]? = some d) (k : ∀ v, Rep H d v → Q v H) : qIxL K (.ref p) (.int (i : Nat)) H Q := by
  obtain ⟨vs, hp, r⟩ := h
  obtain ⟨v, hv, hr⟩ := r.get hi
  unfold qIxL
  exact ⟨p, vs, _, v, rfl, rfl, SqL.of hp, atI_nat hv, k v hr⟩
theorem r_lenT (h : Rep H (.t ds) x) (k : Q (.int ds.length) H) : qLen K [x] H Q := by
  obtain ⟨p, vs, rfl, hp, r⟩ := h
  unfold qLen
  exact ⟨p, vs, rfl, .inr (SqT.of hp), by rw [r.len]; exact k⟩
theorem r_lenL {p : Addr} (h : LstAt H p ds) (k : Q (.int ds.length) H) : qLen K [.ref p] H Q := by
  obtain ⟨vs, hp, r⟩ := h
  unfold qLen
  exact ⟨p, vs, rfl, .inl (SqL.of hp), by rw [r.len]; exact k⟩
/-- tuple(list) -/
theorem r_tupL {p : Addr} (h : LstAt H p ds) (k : Gives H (.t ds) Q) : qTup K [.ref p] H Q := by
  obtain ⟨vs, hp, r⟩ := h
  unfold qTup
  exact ⟨p, vs, rfl, .inl ⟨SqL.of hp, fun l hl => k _ _ (Same.upd' hl) ⟨l, vs, rfl, upd_same, r.up (TupLe.upd_none hl)⟩⟩⟩
/-- list(tuple), list(list) -/
theorem r_lstT (h : Rep H (.t ds) x) (k : GivesL H ds Q) : qLst K [x] H Q := by
  obtain ⟨p, vs, rfl, hp, r⟩ := h
  unfold qLst
  exact ⟨p, vs, rfl, .inr (SqT.of hp), fun l hl => k l _ (Same.upd' hl) hl ⟨vs, upd_same, r.up (TupLe.upd_none hl)⟩⟩
theorem r_lstL {p : Addr} (h : LstAt H p ds) (k : GivesL H ds Q) : qLst K [.ref p] H Q := by
  obtain ⟨vs, hp, r⟩ := h
  unfold qLst
  exact ⟨p, vs, rfl, .inl (SqL.of hp), fun l hl => k l _ (Same.upd' hl) hl ⟨vs, upd_same, r.up (TupLe.upd_none hl)⟩⟩
/-- (a, b, ..) -/
theorem r_tup {vs : List V} (r : Reps H ds vs) (hl : ds.length ≤ sizeLine) (k : Gives H (.t ds) Q) : qNewT vs H Q := by
  unfold qNewT
  exact ⟨by rw [r.len]; exact hl, fun p hp => k _ _ (Same.upd' hp) ⟨p, vs, rfl, upd_same, r.up (TupLe.upd_none hp)⟩⟩
theorem r_lst {vs : List V} (r : Reps H ds vs) (hl : ds.length ≤ sizeLine) (k : GivesL H ds Q) : qNewL vs H Q := by
  unfold qNewL
  exact ⟨by rw [r.len]; exact hl, fun p hp => k _ _ (Same.upd' hp) hp ⟨vs, upd_same, r.up (TupLe.upd_none hp)⟩⟩
/-- t + u -/
theorem r_catT {y : V} {es : List D} (h : Rep H (.t ds) x) (h2 : Rep H (.t es) y) (hl : ds.length + es.length ≤ sizeLine) (k : Gives H (.t (ds ++ es)) Q) : qCatT K x y H Q := by
  obtain ⟨p, vs, rfl, hp, r⟩ := h
  obtain ⟨q, ws, rfl, hq, r2⟩ := h2
  unfold qCatT
  refine ⟨p, q, vs, ws, rfl, rfl, SqT.of hp, SqT.of hq, by rw [r.len, r2.len]; exact hl, fun e => ?_, fun _ e => ?_, fun _ _ l hl => ?_⟩
  · subst e
    have : ds = [] := List.length_eq_zero_iff.mp r.len.symm
    subst this
    exact k _ _ (Same.refl H) ⟨q, ws, rfl, hq, r2⟩
  · subst e
    have : es = [] := List.length_eq_zero_iff.mp r2.len.symm
    subst this
    exact k _ _ (Same.refl H) ⟨p, vs, rfl, hp, by rw [List.append_nil]; exact r⟩
  · exact k _ _ (Same.upd' hl) ⟨l, vs ++ ws, rfl, upd_same, (r.app r2).up (TupLe.upd_none hl)⟩
/-- l + m -/
theorem r_catL {p q : Addr} {es : List D} (h : LstAt H p ds) (h2 : LstAt H q es) (hl : ds.length + es.length ≤ sizeLine) (k : GivesL H (ds ++ es) Q) : qCatL (.ref p) (.ref q) H Q := by
  obtain ⟨vs, hp, r⟩ := h
  obtain ⟨ws, hq, r2⟩ := h2
  unfold qCatL
  exact ⟨p, q, vs, ws, rfl, rfl, hp, hq, by rw [r.len, r2.len]; exact hl, fun l hl => k l _ (Same.upd' hl) hl ⟨vs ++ ws, upd_same, (r.app r2).up (TupLe.upd_none hl)⟩⟩
theorem ixN_nat {n j : Nat} (h : j < n) : ixN n (j : Int) = some j := by
  have h2 := atI_nat (xs := List.range n) (j := j) (v := j) (by rw [List.getElem?_range h])
  unfold atI at h2
  rw [List.length_range] at h2
  cases e : ixN n (j : Int) with
  | none => rw [e] at h2; cases h2
  | some m =>
    rw [e] at h2
    have h3 : (List.range n)[m]? = some j := h2
    obtain ⟨h4, h5⟩ := List.getElem?_eq_some_iff.mp h3
    rw [List.getElem_range] at h5
    rw [h5]
/-- xs[j] = e -/
theorem r_setL {p : Addr} (j : Nat) {d : D} {y : V} {Q : Hp → Prop} (h : LstAt H p ds) (hy : Rep H d y) (hl : j < ds.length) (k : ∀ H', (∀ H0 : Hp, H0 p = none → Same H0 H → Same H0 H') → TupLe H H' → (∀ b, b ≠ p → H' b = H b) → LstAt H' p (ds.set j d) → Q H') : qSetL (.ref p) (.int (j : Nat)) y H Q := by
  obtain ⟨vs, hp, r⟩ := h
  unfold qSetL
  exact ⟨p, vs, _, j, rfl, rfl, hp, ixN_nat (by rw [r.len]; exact hl), k _ (fun H0 h0 s => Same.upd s h0) (TupLe.upd_lst hp) (fun b hb => upd_ne hb) ⟨_, upd_same, (r.set hy j).up (TupLe.upd_lst hp)⟩⟩
theorem tyL {p : Addr} (h : LstAt H p ds) : tyV K "list" (.ref p) H := by
  obtain ⟨vs, hp, _⟩ := h
  exact .inl ⟨rfl, _, SqL.of hp⟩
/-- xs.append(e): the rest of the heap stands -/
theorem r_app {p : Addr} {d : D} {y : V} (h : LstAt H p ds) (hy : Rep H d y) (hl : ds.length < sizeLine) (k : ∀ H', (∀ H0 : Hp, H0 p = none → Same H0 H → Same H0 H') → TupLe H H' → (∀ b, b ≠ p → H' b = H b) → LstAt H' p (ds ++ [d]) → Q .non H') : qApp (.ref p) [y] H Q := by
  obtain ⟨vs, hp, r⟩ := h
  unfold qApp
  exact ⟨p, vs, y, rfl, rfl, hp, by rw [r.len]; exact hl, k _ (fun H0 h0 s => Same.upd s h0) (TupLe.upd_lst hp) (fun b hb => upd_ne hb) ⟨_, upd_same, (r.snoc hy).up (TupLe.upd_lst hp)⟩⟩
end
/-! ### rows of weights -/
def dW (x : Wt) : D := .a (vW x)
def dRow (r : List Wt) : D := .t (r.map dW)
def dTab (t : List (List Wt)) : D := .t (t.map dRow)
def dTabs (t : List (List (List Wt))) : D := .t (t.map dTab)
theorem rep_W {H : Hp} {x : Wt} {v : V} (h : Rep H (dW x) v) : v = vW x := h
def wdot (r c : List Wt) : Wt := ((r.zip c).map fun p => wtimes p.1 p.2).foldl wplus none
def spDot (K : PySem.W.Frag) : Sp := fun vs H Q _ => ∃ k a b r c, vs = [k, a, b] ∧ CostsAt K H k ∧ Rep H (dRow r) a ∧ Rep H (dRow c) b ∧ ∀ H', Same H H' → Q (vW (wdot r c)) H'
section
variable {P : Program} {w : World} {K : PySem.W.Frag} {mg : Str → Option Value} {base : Heap}
abbrev s_dot : Stmt := top 14
theorem sc_dot : FnScope ["kind", "row", "column", "total", "x", "y"] ["kind", "row", "column"] (defScope s_dot) := ⟨rfl, rfl, rfl, by decide +kernel, rfl, by decide +kernel, by decide +kernel⟩
theorem ok_dot (T : Txt w K mg) : Cal P w K mg base CX0 2 "dot" (spDot K) := by
  refine cal_ok T.d_dot (fun _ _ _ _ _ _ us hl => match us, hl with | [_, _, _], _ => rfl) sc_dot (fun vs H Q E h => ?_) (fun cdv A outer s f H vs Q E hr h => ?_)
  · obtain ⟨_, _, _, _, _, rfl, _⟩ := h; rfl
  · obtain ⟨kd, a, b, r, c, rfl, hk, ha, hb, k⟩ := h
    refine ⟨_, PSs.nox (pss_cons (ps_set (i := 3) sc_dot.nd rfl (Or.inl rfl) (pe_m00 (ok_Costs_nought T) hr (by decide) (pv 0)))
      (pss_cons (ps_for PassesOwn.never rfl (RZ.pi_zipA rfl T.f_zip (pa_cons (pv 1) (pa_cons (pv 2) pa_nil))) (pg_tup (n := 2) rfl (pgs_cons (pg_name (i := 4) sc_dot.nd rfl (Or.inl rfl)) (pgs_cons (pg_name (i := 5) sc_dot.nd rfl (Or.inl rfl)) pgs_nil)))
      (pss_one (ps_set (i := 3) sc_dot.nd rfl (Or.inl rfl) (pe_mc (ok_Costs_plus T) hr (by decide) (pv 0) (pa_cons (pv 3) (pa_cons (pe_mc (ok_Costs_times T) hr (by decide) (pv 0) (pa_cons (pv 4) (pa_cons (pv 5) pa_nil))) pa_nil))))))
      (pss_one (ps_ret (pv 3))))), ?_⟩
    obtain ⟨ka, kdx, rfl, hka⟩ := id hk
    refine ⟨_, rfl, ka, kdx, _, rfl, hka, rfl, _, rfl, ?_⟩
    obtain ⟨p, vs, rfl, hp, rp⟩ := id ha
    obtain ⟨q, ws, rfl, hq, rq⟩ := id hb
    refine ⟨_, rfl, _, rfl, p, q, vs, ws, rfl, .inr ⟨SqT.of hp, SqT.of hq, for_it (walk_zipT (xs := vs) (ys := ws) rfl) (fun i σ H2 => ∃ x y, σ = [some (.ref ka), some (.ref p), some (.ref q), some (vW (((r.zip c).take i |>.map fun p => wtimes p.1 p.2).foldl wplus none)), x, y] ∧ Same H H2)
      ⟨none, none, rfl, Same.refl H⟩ (fun i σ H2 _ ⟨_, _, _, s2⟩ => ⟨sqT_same s2 (SqT.of hp), sqT_same s2 (SqT.of hq)⟩) ?_ ?_⟩⟩
    · rintro i x σ H2 H3 hi ⟨x0, y0, rfl, s2⟩ ⟨T0, u, v, rfl, hT, rfl, hu, hv⟩
      have h1 : vs.length = r.length := by rw [rp.len, List.length_map]
      have h2 : ws.length = c.length := by rw [rq.len, List.length_map]
      obtain ⟨du, hdu, ru⟩ := rp.getV hu
      obtain ⟨dv, hdv, rv⟩ := rq.getV hv
      rw [List.getElem?_map, Option.map_eq_some_iff] at hdu hdv
      obtain ⟨a0, ha0, rfl⟩ := hdu
      obtain ⟨b0, hb0, rfl⟩ := hdv
      cases rep_W ru
      cases rep_W rv
      have s3 : Same H (upd H2 T0 (.tup [vW a0, vW b0])) := s2.trans (Same.upd' hT)
      refine ⟨T0, _, rfl, SqT.of upd_same, rfl, _, _, rfl, _, _, rfl, rfl, ?_⟩
      refine ⟨_, rfl, ka, kdx, _, rfl, s3 _ _ hka, rfl, _, rfl, _, rfl, ka, kdx, _, rfl, s3 _ _ hka, rfl, _, rfl, _, rfl, _, a0, b0, rfl, _, _, _, rfl, ?_⟩
      refine ⟨some (vW a0), some (vW b0), ?_, s3⟩
      have e : (r.zip c).take (i + 1) = (r.zip c).take i ++ [(a0, b0)] := by
        have h3 : (r.zip c)[i]? = some (a0, b0) := by rw [List.getElem?_zip_eq_some]; exact ⟨ha0, hb0⟩
        rw [List.take_add_one, h3] <;> rfl
      rw [e, List.map_append, List.foldl_append] <;> rfl
    · rintro σ H2 ⟨x0, y0, rfl, s2⟩
      have h1 : vs.length = r.length := by rw [rp.len, List.length_map]
      have h2 : ws.length = c.length := by rw [rq.len, List.length_map]
      refine ⟨_, rfl, ?_⟩
      rw [List.take_of_length_le (by rw [List.length_zip, h1, h2]; exact Nat.le_refl _)]
      exact k H2 s2
end
end L2.Ww
set_option Elab.async false
set_option linter.all false
set_option maxRecDepth 100000
set_option maxHeartbeats 4000000
/-! Machines built: rows, sums. -/
namespace L2.Ww
open PySem PySem.Spec PyProof.Rows
/-! ### machines -/
structure Mach where
  ls : Str
  st : List Wt
  tabs : List (List (List Wt))
  en : List Wt

structure Mach.WF (M : Mach) : Prop where
  lt : M.tabs.length = M.ls.length
  rows : ∀ t ∈ M.tabs, t.length = M.st.length
  cols : ∀ t ∈ M.tabs, ∀ r ∈ t, r.length = M.st.length
  ends : M.en.length = M.st.length
  few : M.st.length ≤ 20
  let3 : M.ls.length ≤ 3
def dMach (M : Mach) : D := .t [.a (.str M.ls), dRow M.st, dTabs M.tabs, dRow M.en]
theorem small {n : Nat} (h : n ≤ 1000) : n ≤ sizeLine := Nat.le_of_lt (small1000 h)
def spNoughts (K : PySem.W.Frag) : Sp := fun vs H Q _ => ∃ k, ∃ m : Nat, vs = [k, .int m] ∧ CostsAt K H k ∧ m ≤ 1000 ∧ Gives H (dRow (List.replicate m none)) Q
def spByAll (K : PySem.W.Frag) : Sp := fun vs H Q _ => ∃ k x a r, vs = [k, vW x, a] ∧ CostsAt K H k ∧ Rep H (dRow r) a ∧ r.length ≤ 1000 ∧ Gives H (dRow (r.map (wtimes x))) Q
def colAt (t : List (List Wt)) (i : Nat) : List Wt := t.map fun r => (r[i]?).getD none
def spColumn : Sp := fun vs H Q _ => ∃ a t, ∃ i : Nat, vs = [a, .int i] ∧ Rep H (dTab t) a ∧ t.length ≤ 1000 ∧ (∀ r ∈ t, i < r.length) ∧ Gives H (dRow (colAt t i)) Q
def spRooms : Sp := fun vs H Q _ => ∃ a M, vs = [a] ∧ Rep H (dMach M) a ∧ Q (.int M.st.length) H
def spLetters : Sp := fun vs H Q _ => ∃ a b M N, vs = [a, b] ∧ Rep H (dMach M) a ∧ Rep H (dMach N) b ∧ M.ls = N.ls ∧ Q .non H
def spRoomsOk (K : PySem.W.Frag) : Sp := fun vs H Q E => ∃ m : Nat, vs = [.int m] ∧ (m ≤ 20 → Q .non H) ∧ (20 < m → E (.ref (He.ga K "TooGreat")) none H)
section
variable {P : Program} {w : World} {K : PySem.W.Frag} {mg : Str → Option Value} {base : Heap}
abbrev s_noughts : Stmt := top 46
theorem sc_noughts : FnScope ["kind", "many", "k"] ["kind", "many"] (defScope s_noughts) := ⟨rfl, rfl, rfl, by decide +kernel, rfl, by decide +kernel, by decide +kernel⟩
theorem ok_noughts (T : Txt w K mg) : Cal P w K mg base CX0 2 "noughts" (spNoughts K) := by
  refine cal_ok T.d_noughts (fun _ _ _ _ _ _ us hl => match us, hl with | [_, _], _ => rfl) sc_noughts (fun vs H Q E h => ?_) (fun cdv A outer s f H vs Q E hr h => ?_)
  · obtain ⟨_, _, rfl, _⟩ := h; rfl
  · obtain ⟨kd, m, rfl, hk, hm, k⟩ := h
    refine ⟨_, PSs.nox (pss_one (ps_ret (pe_callTy (call_tupQ K) (by rfl) T.f_tuple (by decide +kernel) (pa_cons (pe_lc (own := [("k", 2)]) rfl sc_noughts.nd (pi_range1 rfl T.f_range (pa_cons (pv 1) pa_nil)) (blkOk_by (own := [("k", 2)]) (N := ["kind", "many", "k"]) (sc := defScope s_noughts) (by decide +kernel)) (fun _ _ _ _ _ => (pg_name (i := 2) sc_noughts.nd rfl (Or.inl rfl))) (fun _ _ _ _ _ => pts_nil) (fun _ _ _ _ _ => (pe_m00 (ok_Costs_nought T) hr (by decide) (pv 0)))) pa_nil)))), ?_⟩
    refine ⟨_, rfl, m, rfl, by omega, by omega, fun Dd hD => ?_⟩
    refine lc_gen (H0 := H) (walk_range (n := (m : Int).toNat)) hD (small (by omega)) (fun _ _ => trivial) same_YFn (fun _ => some (dW none)) ?_ ?_
    · rintro i x H1 H2 hi s2 ⟨rfl, rfl⟩ s1 Kf Kt hf ht
      obtain ⟨a, dx, rfl, ha⟩ := hk
      exact ⟨rfl, _, rfl, a, dx, _, rfl, s2 _ _ ha, rfl, _, rfl, ht _ rfl _ _ (Same.refl _) rfl⟩
    · intro Hf sf hl
      refine r_tupL hl fun v H' s' r => k v H' (sf.trans s') ?_
      rw [fm_rng] at r
      have e : (List.range (m : Int).toNat).map (fun _ => dW none) = (List.replicate m none).map dW := by
        rw [List.map_replicate, show (m : Int).toNat = m by omega]
        apply List.ext_getElem <;> simp
      rw [e] at r
      exact r
abbrev s_by_all : Stmt := top 47
theorem sc_by_all : FnScope ["kind", "by", "row", "x"] ["kind", "by", "row"] (defScope s_by_all) := ⟨rfl, rfl, rfl, by decide +kernel, rfl, by decide +kernel, by decide +kernel⟩
theorem ok_by_all (T : Txt w K mg) : Cal P w K mg base CX0 2 "by_all" (spByAll K) := by
  refine cal_ok T.d_by_all (fun _ _ _ _ _ _ us hl => match us, hl with | [_, _, _], _ => rfl) sc_by_all (fun vs H Q E h => ?_) (fun cdv A outer s f H vs Q E hr h => ?_)
  · obtain ⟨_, _, _, _, rfl, _⟩ := h; rfl
  · obtain ⟨kd, x, a, r, rfl, hk, ha, hm, k⟩ := h
    refine ⟨_, PSs.nox (pss_one (ps_ret (pe_callTy (call_tupQ K) (by rfl) T.f_tuple (by decide +kernel) (pa_cons (pe_lc (own := [("x", 3)]) rfl sc_by_all.nd (pi_tup (pv 2)) (blkOk_by (own := [("x", 3)]) (N := ["kind", "by", "row", "x"]) (sc := defScope s_by_all) (by decide +kernel)) (fun _ _ _ _ _ => (pg_name (i := 3) sc_by_all.nd rfl (Or.inl rfl))) (fun _ _ _ _ _ => pts_nil) (fun _ _ _ _ _ => (pe_mc (ok_Costs_times T) hr (by decide) (pv 0) (pa_cons (pv 1) (pa_cons (pv 3) pa_nil))))) pa_nil)))), ?_⟩
    obtain ⟨p, vs, rfl, hp, rp⟩ := id ha
    refine ⟨_, rfl, p, rfl, ⟨_, SqT.of hp⟩, fun Dd hD => ?_⟩
    have hl : vs.length = r.length := by rw [rp.len, List.length_map]
    refine lc_gen (H0 := H) (walk_tup (xs := vs)) hD (small (by omega)) (fun H1 s1 => sqT_same s1 (SqT.of hp)) same_YAt (fun i => (r[i]?).map fun y => dW (wtimes x y)) ?_ ?_
    · rintro i v H1 H2 hi s2 ⟨rfl, hv⟩ s1 Kf Kt hf ht
      obtain ⟨d, hd, rv⟩ := rp.getV hv
      rw [List.getElem?_map, Option.map_eq_some_iff] at hd
      obtain ⟨y, hy, rfl⟩ := hd
      cases rep_W rv
      obtain ⟨a, dx, rfl, ha⟩ := hk
      exact ⟨rfl, _, rfl, a, dx, _, rfl, s2 _ _ ha, rfl, _, rfl, _, rfl, _, x, y, rfl, ht (dW (wtimes x y)) (by rw [hy] <;> rfl) _ _ (Same.refl _) rfl⟩
    · intro Hf sf hlst
      refine r_tupL hlst fun v H' s' rr => k v H' (sf.trans s') ?_
      rw [hl, fm_map] at rr
      show Rep H' (.t _) v
      rw [List.map_map]
      exact rr
abbrev s_column_at : Stmt := top 15
theorem sc_column_at : FnScope ["table", "at", "row"] ["table", "at"] (defScope s_column_at) := ⟨rfl, rfl, rfl, by decide +kernel, rfl, by decide +kernel, by decide +kernel⟩
theorem ok_column_at (T : Txt w K mg) : Cal P w K mg base CX0 1 "column_at" spColumn := by
  refine cal_ok T.d_column_at (fun _ _ _ _ _ _ us hl => match us, hl with | [_, _], _ => rfl) sc_column_at (fun vs H Q E h => ?_) (fun cdv A outer s f H vs Q E hr h => ?_)
  · obtain ⟨_, _, _, rfl, _⟩ := h; rfl
  · obtain ⟨a, t, i, rfl, ha, hm, hi0, k⟩ := h
    refine ⟨_, PSs.nox (pss_one (ps_ret (pe_callTy (call_tupQ K) (by rfl) T.f_tuple (by decide +kernel) (pa_cons (pe_lc (own := [("row", 2)]) rfl sc_column_at.nd (pi_tup (pv 0)) (blkOk_by (own := [("row", 2)]) (N := ["table", "at", "row"]) (sc := defScope s_column_at) (by decide +kernel)) (fun _ _ _ _ _ => (pg_name (i := 2) sc_column_at.nd rfl (Or.inl rfl))) (fun _ _ _ _ _ => pts_nil) (fun _ _ _ _ _ => (pe_ix (ix_tupQ K) (pv 2) (pv 1) (fun _ _ => rfl)))) pa_nil)))), ?_⟩
    obtain ⟨p, vs, rfl, hp, rp⟩ := id ha
    refine ⟨_, rfl, p, rfl, ⟨_, SqT.of hp⟩, fun Dd hD => ?_⟩
    have hl : vs.length = t.length := by rw [rp.len, List.length_map]
    refine lc_gen (H0 := H) (walk_tup (xs := vs)) hD (small (by omega)) (fun H1 s1 => sqT_same s1 (SqT.of hp)) same_YAt (fun j => (t[j]?).map fun r => dW ((r[i]?).getD none)) ?_ ?_
    · rintro j v H1 H2 hi s2 ⟨rfl, hv⟩ s1 Kf Kt hf ht
      obtain ⟨d, hd, rv⟩ := rp.getV hv
      rw [List.getElem?_map, Option.map_eq_some_iff] at hd
      obtain ⟨r, hr', rfl⟩ := hd
      have hir := hi0 r (List.mem_of_getElem? hr')
      refine ⟨rfl, _, rfl, _, rfl, r_ixT i (d := dW r[i]) (rv.same s2) (by rw [List.getElem?_map, List.getElem?_eq_getElem hir] <;> rfl) fun u hu => ?_⟩
      refine ht _ ?_ _ _ (Same.refl _) hu
      rw [hr', Option.map_some, List.getElem?_eq_getElem hir] <;> rfl
    · intro Hf sf hlst
      refine r_tupL hlst fun v H' s' rr => k v H' (sf.trans s') ?_
      rw [hl, fm_map] at rr
      show Rep H' (.t _) v
      unfold colAt
      rw [List.map_map]
      exact rr
abbrev s_rooms : Stmt := top 23
theorem sc_rooms : FnScope ["machine"] ["machine"] (defScope s_rooms) := ⟨rfl, rfl, rfl, by decide +kernel, rfl, by decide +kernel, by decide +kernel⟩
theorem ok_rooms (T : Txt w K mg) : Cal P w K mg base CX0 1 "rooms" spRooms := by
  refine cal_ok T.d_rooms (fun _ _ _ _ _ _ us hl => match us, hl with | [_], _ => rfl) sc_rooms (fun vs H Q E h => ?_) (fun cdv A outer s f H vs Q E hr h => ?_)
  · obtain ⟨_, _, rfl, _⟩ := h; rfl
  · obtain ⟨a, M, rfl, ha, k⟩ := h
    refine ⟨_, PSs.nox (pss_one (ps_ret (pe_callB (call_lenQ K) (by rfl) T.f_len PySem.boot_len (pa_cons (pe_ix (ix_tupQ K) (pv 0) pe_int (fun _ _ => rfl)) pa_nil)))), ?_⟩
    refine ⟨_, rfl, r_ixT 1 ha rfl fun v hv => r_lenT hv ?_⟩
    rw [List.length_map]
    exact k
abbrev s_check_letters : Stmt := top 44
theorem sc_check_letters : FnScope ["one", "other"] ["one", "other"] (defScope s_check_letters) := ⟨rfl, rfl, rfl, by decide +kernel, rfl, by decide +kernel, by decide +kernel⟩
theorem ok_check_letters (T : Txt w K mg) : Cal P w K mg base CX0 1 "check_letters" spLetters := by
  refine cal_ok T.d_check_letters (fun _ _ _ _ _ _ us hl => match us, hl with | [_, _], _ => rfl) sc_check_letters (fun vs H Q E h => ?_) (fun cdv A outer s f H vs Q E hr h => ?_)
  · obtain ⟨_, _, _, _, rfl, _⟩ := h; rfl
  · obtain ⟨a, b, M, N, rfl, ha, hb, e, k⟩ := h
    refine ⟨_, PSs.nox (pss_one (ps_if (pt_cmpR op_ne (pe_ix (ix_tupQ K) (pv 0) pe_int (fun _ _ => rfl)) (pe_ix (ix_tupQ K) (pv 1) pe_int (fun _ _ => rfl)) (nomark _)) (pss_one ps_never) pss_nil)), ?_⟩
    refine ⟨_, rfl, r_ixT 0 ha rfl fun u hu => ?_⟩
    cases hu
    refine ⟨_, rfl, r_ixT 0 hb rfl fun u hu => ?_⟩
    cases hu
    refine ⟨rfl, _, rfl, ?_⟩
    rw [e, decide_eq_true rfl]
    exact iteF k
abbrev s_check_rooms : Stmt := top 45
theorem sc_check_rooms : FnScope ["many"] ["many"] (defScope s_check_rooms) := ⟨rfl, rfl, rfl, by decide +kernel, rfl, by decide +kernel, by decide +kernel⟩
theorem ok_check_rooms (T : Txt w K mg) : Cal P w K mg base (L2.CX P w) 1 "check_rooms" (spRoomsOk K) := by
  refine cal_ok T.d_check_rooms (fun _ _ _ _ _ _ us hl => match us, hl with | [_], _ => rfl) sc_check_rooms (fun vs H Q E h => ?_) (fun cdv A outer s f H vs Q E hr h => ?_)
  · obtain ⟨_, rfl, _⟩ := h; rfl
  · obtain ⟨m, rfl, k1, k2⟩ := h
    refine ⟨_, (pss_one (ps_if (pt_cmpR op_gt (pv 0) (C8.pe_gc rfl T.g_MOST_ROOMS) (nomark _)) (pss_one (ps_raise rfl (takes_of rfl rfl rfl rfl) (pmk_own PySem.F.excBase_ValueError T.x_TooGreat T.g_TooGreat T.kp_TooGreat (raises_own T.b_TooGreat T.t_TooGreat) rfl))) pss_nil)), ?_⟩
    refine ⟨_, rfl, _, _, rfl, rfl, _, rfl, ?_⟩
    refine ite2 (fun h => ?_) (fun h => ?_)
    · have h2 := of_decide_eq_true h
      exact k2 (by omega)
    · have h2 : ¬ ((20 : Int) < m) := fun z => h (decide_eq_true z)
      exact k1 (by omega)
end
end L2.Ww
set_option Elab.async false
set_option linter.all false
set_option maxRecDepth 100000
set_option maxHeartbeats 4000000
/-! Machines built: scaled, added, joined, turned, closed, single. -/
namespace L2.Ww
open PySem PySem.Spec PyProof.Rows
def mScale (x : Wt) (M : Mach) : Mach := { M with st := M.st.map (wtimes x) }
def addTab (A B : Mach) (p : List (List Wt) × List (List Wt)) : List (List Wt) := p.1.map (· ++ List.replicate B.st.length none) ++ p.2.map (List.replicate A.st.length none ++ ·)
def mAdd (A B : Mach) : Mach := ⟨A.ls, A.st ++ B.st, (A.tabs.zip B.tabs).map (addTab A B), A.en ++ B.en⟩
def tooGreat (K : PySem.W.Frag) (H : Hp) (E : XK) : Prop := ∀ H', Same H H' → E (.ref (He.ga K "TooGreat")) none H'
def spScaled (K : PySem.W.Frag) : Sp := fun vs H Q _ => ∃ k x a M, vs = [k, vW x, a] ∧ CostsAt K H k ∧ Rep H (dMach M) a ∧ M.st.length ≤ 20 ∧ Gives H (dMach (mScale x M)) Q
def spAdded (K : PySem.W.Frag) : Sp := fun vs H Q E => ∃ k a b A B, vs = [k, a, b] ∧ CostsAt K H k ∧ Rep H (dMach A) a ∧ Rep H (dMach B) b ∧ A.WF ∧ B.WF ∧ A.ls = B.ls ∧ (A.st.length + B.st.length ≤ 20 → Gives H (dMach (mAdd A B)) Q) ∧ (20 < A.st.length + B.st.length → tooGreat K H E)
theorem rep_dTabs {H : Hp} {t : List (List (List Wt))} {v : V} (h : Rep H (dTabs t) v) : ∃ p vs, v = .ref p ∧ H p = some (.tup vs) ∧ Reps H (t.map dTab) vs := h
section
variable {P : Program} {w : World} {K : PySem.W.Frag} {mg : Str → Option Value} {base : Heap}
abbrev s_scaled : Stmt := top 48
theorem sc_scaled : FnScope ["kind", "by", "machine"] ["kind", "by", "machine"] (defScope s_scaled) := ⟨rfl, rfl, rfl, by decide +kernel, rfl, by decide +kernel, by decide +kernel⟩
theorem ok_scaled (T : Txt w K mg) : Cal P w K mg base CX0 3 "scaled" (spScaled K) := by
  refine cal_ok T.d_scaled (fun _ _ _ _ _ _ us hl => match us, hl with | [_, _, _], _ => rfl) sc_scaled (fun vs H Q E h => ?_) (fun cdv A outer s f H vs Q E hr h => ?_)
  · obtain ⟨_, _, _, _, rfl, _⟩ := h; rfl
  · obtain ⟨kd, x, a, M, rfl, hk, ha, hn, k⟩ := h
    refine ⟨_, PSs.nox (pss_one (ps_ret (pe_tupQ (pa_cons (pe_ix (ix_tupQ K) (pv 2) pe_int (fun _ _ => rfl)) (pa_cons (pe_c0 (ok_by_all T) hr (by decide) rfl (pa_cons (pv 0) (pa_cons (pv 1) (pa_cons (pe_ix (ix_tupQ K) (pv 2) pe_int (fun _ _ => rfl)) pa_nil)))) (pa_cons (pe_ix (ix_tupQ K) (pv 2) pe_int (fun _ _ => rfl)) (pa_cons (pe_ix (ix_tupQ K) (pv 2) pe_int (fun _ _ => rfl)) pa_nil))))))), ?_⟩
    refine ⟨_, rfl, r_ixT 0 ha rfl fun u hu => ?_⟩
    refine ⟨_, rfl, _, rfl, _, rfl, r_ixT 1 ha rfl fun r1 hr1 => ?_⟩
    refine ⟨kd, x, r1, M.st, rfl, hk, hr1, Nat.le_trans hn (by decide), fun v H' s' hv => ?_⟩
    refine ⟨_, rfl, r_ixT 2 (ha.same s') rfl fun r2 hr2 => ?_⟩
    refine ⟨_, rfl, r_ixT 3 (ha.same s') rfl fun r3 hr3 => ?_⟩
    exact r_tup (Reps.cons (hu.same s') (Reps.cons hv (Reps.cons hr2 (Reps.cons hr3 Reps.nil)))) (small (by simp)) fun v2 H2 s2 h2 => k v2 H2 (s'.trans s2) h2
abbrev s_added : Stmt := top 49
theorem sc_added : FnScope ["kind", "one", "other", "tables", "table", "beside", "upper", "lower", "row"] ["kind", "one", "other"] (defScope s_added) := ⟨rfl, rfl, rfl, by decide +kernel, rfl, by decide +kernel, by decide +kernel⟩
theorem ok_added (T : Txt w K mg) : Cal P w K mg base (L2.CX P w) 3 "added" (spAdded K) := by
  refine cal_ok T.d_added (fun _ _ _ _ _ _ us hl => match us, hl with | [_, _, _], _ => rfl) sc_added (fun vs H Q E h => ?_) (fun cdv A outer s f H vs Q E hr h => ?_)
  · obtain ⟨_, _, _, _, _, rfl, _⟩ := h; rfl
  · obtain ⟨kd, a, b, A', B', rfl, hk, ha, hb, wA, wB, el, k, kE⟩ := h
    refine ⟨_, (pss_cons (ps_expr (pe_c0 (ok_check_letters T) hr (by decide) rfl (pa_cons (pv 1) (pa_cons (pv 2) pa_nil))))
      (pss_cons (ps_expr (pe_cX (ok_check_rooms T) (takes_of rfl rfl rfl rfl) hr (by decide) rfl (pa_cons (pe_op op_add (pe_c0 (ok_rooms T) hr (by decide) rfl (pa_cons (pv 1) pa_nil)) (pe_c0 (ok_rooms T) hr (by decide) rfl (pa_cons (pv 2) pa_nil))) pa_nil)))
      (pss_cons (ps_set (i := 3) sc_added.nd rfl (Or.inl rfl) (pe_lstQ pa_nil))
      (pss_cons (ps_for (passes_of rfl) rfl (RZ.pi_zipA rfl T.f_zip (pa_cons (pe_ix (ix_tupQ K) (pv 1) pe_int (fun _ _ => rfl)) (pa_cons (pe_ix (ix_tupQ K) (pv 2) pe_int (fun _ _ => rfl)) pa_nil))) (pg_tup (n := 2) rfl (pgs_cons (pg_name (i := 4) sc_added.nd rfl (Or.inl rfl)) (pgs_cons (pg_name (i := 5) sc_added.nd rfl (Or.inl rfl)) pgs_nil)))
      (pss_cons (ps_setLc (i := 6) rfl sc_added.nd rfl rfl (sw_true rfl rfl rfl (by decide +kernel)) (own := [("row", 8)]) (pi_tup (pv 4)) (blkOk_by (own := [("row", 8)]) (N := ["kind", "one", "other", "tables", "table", "beside", "upper", "lower", "row"]) (sc := defScope s_added) (by decide +kernel)) (fun _ _ _ _ _ => (pg_name (i := 8) sc_added.nd rfl (Or.inl rfl))) (fun _ _ _ _ _ => pts_nil) (fun _ _ _ _ _ => (pe_op (op_catTQ K) (pv 8) (pe_c0 (ok_noughts T) hr (by decide) rfl (pa_cons (pv 0) (pa_cons (pe_c0 (ok_rooms T) hr (by decide) rfl (pa_cons (pv 2) pa_nil)) pa_nil))))))
      (pss_cons (ps_setLc (i := 7) rfl sc_added.nd rfl rfl (sw_true rfl rfl rfl (by decide +kernel)) (own := [("row", 8)]) (pi_tup (pv 5)) (blkOk_by (own := [("row", 8)]) (N := ["kind", "one", "other", "tables", "table", "beside", "upper", "lower", "row"]) (sc := defScope s_added) (by decide +kernel)) (fun _ _ _ _ _ => (pg_name (i := 8) sc_added.nd rfl (Or.inl rfl))) (fun _ _ _ _ _ => pts_nil) (fun _ _ _ _ _ => (pe_op (op_catTQ K) (pe_c0 (ok_noughts T) hr (by decide) rfl (pa_cons (pv 0) (pa_cons (pe_c0 (ok_rooms T) hr (by decide) rfl (pa_cons (pv 1) pa_nil)) pa_nil))) (pv 8))))
      (pss_one (ps_expr (pe_bm PySem.F.plainAttrs_list PySem.F.slot_list_append PySem.F.type_list_append mt_appQ (pv 3) (pa_cons (pe_callTy (call_tupQ K) (by rfl) T.f_tuple (by decide +kernel) (pa_cons (pe_op op_catLQ (pv 6) (pv 7)) pa_nil)) pa_nil)))))))
      (pss_one (ps_ret (pe_tupQ (pa_cons (pe_ix (ix_tupQ K) (pv 1) pe_int (fun _ _ => rfl)) (pa_cons (pe_op (op_catTQ K) (pe_ix (ix_tupQ K) (pv 1) pe_int (fun _ _ => rfl)) (pe_ix (ix_tupQ K) (pv 2) pe_int (fun _ _ => rfl))) (pa_cons (pe_callTy (call_tupQ K) (by rfl) T.f_tuple (by decide +kernel) (pa_cons (pv 3) pa_nil)) (pa_cons (pe_op (op_catTQ K) (pe_ix (ix_tupQ K) (pv 1) pe_int (fun _ _ => rfl)) (pe_ix (ix_tupQ K) (pv 2) pe_int (fun _ _ => rfl))) pa_nil))))))))))), ?_⟩
    refine ⟨_, rfl, _, rfl, a, b, A', B', rfl, ha, hb, el, ?_⟩
    refine ⟨_, rfl, a, A', rfl, ha, _, rfl, b, B', rfl, hb, _, _, rfl, rfl, A'.st.length + B'.st.length, by rw [Int.natCast_add], fun hle => ?_, fun hgt => kE hgt H (Same.refl H)⟩
    refine r_lst Reps.nil (small (by simp)) fun p H1 s1 hp hl => ?_
    refine ⟨_, rfl, r_ixS 2 ha s1 rfl fun ta hta => ?_⟩
    refine ⟨_, rfl, r_ixS 2 hb s1 rfl fun tb htb => ?_⟩
    obtain ⟨qa, va, rfl, hqa, ra⟩ := id hta
    obtain ⟨qb, vb, rfl, hqb, rb⟩ := id htb
    have la : va.length = A'.tabs.length := by rw [ra.len, List.length_map]
    have lb : vb.length = B'.tabs.length := by rw [rb.len, List.length_map]
    have lab : A'.tabs.length = B'.tabs.length := by rw [wA.lt, wB.lt, el]
    have lt3 : A'.tabs.length ≤ 3 := by rw [wA.lt]; exact wA.let3
    refine ⟨qa, qb, va, vb, rfl, .inr ⟨SqT.of (s1 _ _ hqa), SqT.of (s1 _ _ hqb), for_it (walk_zipT (xs := va) (ys := vb) (n := A'.tabs.length) (by omega)) (fun i σ H2 => ∃ y4 y5 y6 y7, σ = [some kd, some a, some b, some (.ref p), y4, y5, y6, y7, none] ∧ Same H H2 ∧ LstAt H2 p (((A'.tabs.zip B'.tabs).take i).map fun z => dTab (addTab A' B' z)))
      ⟨none, none, none, none, rfl, s1, hl⟩ (fun i σ H2 _ ⟨_, _, _, _, _, s2, _⟩ => ⟨SqT.of (s2 _ _ hqa), SqT.of (s2 _ _ hqb)⟩) ?_ ?_⟩⟩
    · rintro i x σ H2 H3 hi ⟨y4, y5, y6, y7, rfl, s2, hl2⟩ ⟨T0, u, v, rfl, hT, rfl, hu, hv⟩
      obtain ⟨du, hdu, ru⟩ := ra.getV hu
      obtain ⟨dv, hdv, rv⟩ := rb.getV hv
      rw [List.getElem?_map, Option.map_eq_some_iff] at hdu hdv
      obtain ⟨t1, ht1, rfl⟩ := hdu
      obtain ⟨t2, ht2, rfl⟩ := hdv
      have s3 : Same H (upd H2 T0 (.tup [u, v])) := s2.trans (Same.upd' hT)
      have hl3 : LstAt (upd H2 T0 (.tup [u, v])) p _ := hl2.same (Same.upd' hT)
      refine ⟨T0, _, rfl, SqT.of upd_same, rfl, _, _, rfl, _, _, rfl, rfl, ?_⟩
      generalize upd H2 T0 (.tup [u, v]) = H3 at s3 hl3
      obtain ⟨pu, vu, rfl, hpu, rru⟩ := id ru
      obtain ⟨pv', vv, rfl, hpv, rrv⟩ := id rv
      have m1 : t1 ∈ A'.tabs := List.mem_of_getElem? ht1
      have m2 : t2 ∈ B'.tabs := List.mem_of_getElem? ht2
      have l1 : vu.length = t1.length := by rw [rru.len, List.length_map]
      have l2 : vv.length = t2.length := by rw [rrv.len, List.length_map]
      have n1 := wA.rows t1 m1
      have n2 := wB.rows t2 m2
      have f1 := wA.few
      have f2 := wB.few
      -- upper
      refine ⟨_, rfl, pu, rfl, ⟨_, SqT.of (s3 _ _ hpu)⟩, fun D1 hD1 => ?_⟩
      refine lc_gen (H0 := H3) (walk_tup (xs := vu)) hD1 (small (by omega)) (fun H4 s4 => SqT.of (s4 _ _ (s3 _ _ hpu))) same_YAt (fun j => (t1[j]?).map fun r => dRow (r ++ List.replicate B'.st.length none)) ?_ ?_
      · rintro j z H4 H5 hj s5 ⟨rfl, hz⟩ s4 Kf Kt hf ht
        obtain ⟨d, hd, rz⟩ := rru.getV hz
        rw [List.getElem?_map, Option.map_eq_some_iff] at hd
        obtain ⟨r, hr1, rfl⟩ := hd
        have lr := wA.cols t1 m1 r (List.mem_of_getElem? hr1)
        have sH := s3.trans s5
        refine ⟨rfl, _, rfl, _, rfl, _, rfl, b, B', rfl, hb.same sH, kd, B'.st.length, rfl, hk.same sH, by omega, fun v6 H6 s6 h6 => ?_⟩
        refine r_catT ((rz.same sH).same s6) h6 (by simp only [List.length_map, List.length_replicate]; exact small (by omega)) fun v7 H7 s7 h7 => ?_
        refine ht _ (by rw [hr1] <;> rfl) _ _ (s6.trans s7) ?_
        rw [← List.map_append] at h7
        exact h7
      intro H4 s4 hu4
      rw [l1, fm_map] at hu4
      have s4' := s3.trans s4
      -- lower
      refine ⟨_, rfl, pv', rfl, ⟨_, SqT.of (s4' _ _ hpv)⟩, fun D2 hD2 => ?_⟩
      refine lc_gen (H0 := H4) (walk_tup (xs := vv)) hD2 (small (by omega)) (fun H5 s5 => SqT.of (s5 _ _ (s4' _ _ hpv))) same_YAt (fun j => (t2[j]?).map fun r => dRow (List.replicate A'.st.length none ++ r)) ?_ ?_
      · rintro j z H5 H6 hj s6 ⟨rfl, hz⟩ s5 Kf Kt hf ht
        obtain ⟨d, hd, rz⟩ := rrv.getV hz
        rw [List.getElem?_map, Option.map_eq_some_iff] at hd
        obtain ⟨r, hr1, rfl⟩ := hd
        have lr := wB.cols t2 m2 r (List.mem_of_getElem? hr1)
        have sH := s4'.trans s6
        refine ⟨rfl, _, rfl, _, rfl, a, A', rfl, ha.same sH, kd, A'.st.length, rfl, hk.same sH, by omega, fun v6 H6 s6 h6 => ?_⟩
        refine ⟨_, rfl, r_catT h6 ((rz.same sH).same s6) (by simp only [List.length_map, List.length_replicate]; exact small (by omega)) fun v7 H7 s7 h7 => ?_⟩
        refine ht _ (by rw [hr1] <;> rfl) _ _ (s6.trans s7) ?_
        rw [← List.map_append] at h7
        exact h7
      intro H5 s5 hl5
      rw [l2, fm_map] at hl5
      -- tables.append(tuple(upper + lower))
      have hu5 := hu4.same s5
      have hp5 := (hl3.same s4).same s5
      refine ⟨_, rfl, tyL hp5, _, rfl, _, rfl, r_catL hu5 hl5 (by simp only [List.length_map]; exact small (by omega)) fun p6 H6 s6 hp6 hl6 => ?_⟩
      refine r_tupL hl6 fun v7 H7 s7 h7 => ?_
      refine r_app ((hp5.same s6).same s7) h7 (by rw [List.length_map, List.length_take]; exact small1000 (by omega)) fun H8 k8 t8 _ hl8 => ?_
      refine ⟨_, _, _, _, rfl, k8 H hp (((s4'.trans s5).trans s6).trans s7), ?_⟩
      have e : (A'.tabs.zip B'.tabs).take (i + 1) = (A'.tabs.zip B'.tabs).take i ++ [(t1, t2)] := by
        have h3 : (A'.tabs.zip B'.tabs)[i]? = some (t1, t2) := by rw [List.getElem?_zip_eq_some]; exact ⟨ht1, ht2⟩
        rw [List.take_add_one, h3] <;> rfl
      rw [e, List.map_append]
      have e2 : dTab (addTab A' B' (t1, t2)) = D.t (List.map (fun r => dRow (r ++ List.replicate B'.st.length none)) t1 ++ List.map (fun r => dRow (List.replicate A'.st.length none ++ r)) t2) := by
        show D.t _ = _
        unfold addTab
        rw [List.map_append, List.map_map, List.map_map] <;> rfl
      show LstAt H8 p (_ ++ [dTab (addTab A' B' (t1, t2))])
      rw [e2]
      exact hl8
    · rintro σ H2 ⟨y4, y5, y6, y7, rfl, s2, hl2⟩
      have f1 := wA.few
      have f2 := wB.few
      refine ⟨_, rfl, r_ixS 0 ha s2 rfl fun u0 h0 => ?_⟩
      refine ⟨_, rfl, r_ixS 1 ha s2 rfl fun u1 h1 => ?_⟩
      refine ⟨_, rfl, r_ixS 1 hb s2 rfl fun u2 h2 => ?_⟩
      refine r_catT (h1.same s2) (h2.same s2) (by simp only [List.length_map]; exact small (by omega)) fun v3 H3 s3 h3 => ?_
      refine ⟨_, rfl, r_tupL (hl2.same s3) fun v4 H4 s4 h4 => ?_⟩
      have s24 := (s2.trans s3).trans s4
      refine ⟨_, rfl, r_ixS 3 ha s24 rfl fun u5 h5 => ?_⟩
      refine ⟨_, rfl, r_ixS 3 hb s24 rfl fun u6 h6 => ?_⟩
      refine r_catT (h5.same s24) (h6.same s24) (by simp only [List.length_map, wA.ends, wB.ends]; exact small (by omega)) fun v7 H7 s7 h7 => ?_
      refine r_tup (Reps.cons (h0.same (s24.trans s7)) (Reps.cons ((h3.same s4).same s7) (Reps.cons (h4.same s7) (Reps.cons h7 Reps.nil)))) (small (by simp)) fun v8 H8 s8 h8 => k hle v8 H8 ((s24.trans s7).trans s8) ?_
      have e3 : dMach (mAdd A' B') = D.t [D.a (.str A'.ls), D.t (A'.st.map dW ++ B'.st.map dW), D.t (((A'.tabs.zip B'.tabs).take A'.tabs.length).map fun z => dTab (addTab A' B' z)), D.t (A'.en.map dW ++ B'.en.map dW)] := by
        unfold dMach mAdd dRow dTabs
        rw [List.take_of_length_le (by rw [List.length_zip]; omega), List.map_append, List.map_append, List.map_map] <;> rfl
      rw [e3]
      exact h8
end
end L2.Ww
set_option Elab.async false
set_option linter.all false
set_option maxRecDepth 100000
set_option maxHeartbeats 4000000
/-! Machines built: joined, turned. -/
namespace L2.Ww
open PySem PySem.Spec PyProof.Rows
def joinTab (A B : Mach) (p : List (List Wt) × List (List Wt)) : List (List Wt) := p.1.map (fun r => r ++ B.st.map (wtimes (wdot r A.en))) ++ p.2.map (List.replicate A.st.length none ++ ·)
def mJoin (A B : Mach) : Mach := ⟨A.ls, A.st ++ B.st.map (wtimes (wdot A.st A.en)), (A.tabs.zip B.tabs).map (joinTab A B), List.replicate A.st.length none ++ B.en⟩
def mTurn (M : Mach) : Mach := ⟨M.ls, M.en, M.tabs.map fun t => (List.range M.st.length).map (colAt t), M.st⟩
def spJoined (K : PySem.W.Frag) : Sp := fun vs H Q E => ∃ k a b A B, vs = [k, a, b] ∧ CostsAt K H k ∧ Rep H (dMach A) a ∧ Rep H (dMach B) b ∧ A.WF ∧ B.WF ∧ A.ls = B.ls ∧ (A.st.length + B.st.length ≤ 20 → Gives H (dMach (mJoin A B)) Q) ∧ (20 < A.st.length + B.st.length → tooGreat K H E)
def spTurned (K : PySem.W.Frag) : Sp := fun vs H Q _ => ∃ k a M, vs = [k, a] ∧ Rep H (dMach M) a ∧ M.WF ∧ Gives H (dMach (mTurn M)) Q
section
variable {P : Program} {w : World} {K : PySem.W.Frag} {mg : Str → Option Value} {base : Heap}
abbrev s_joined : Stmt := top 50
theorem sc_joined : FnScope ["kind", "one", "other", "tables", "table", "beside", "upper", "lower", "start", "row"] ["kind", "one", "other"] (defScope s_joined) := ⟨rfl, rfl, rfl, by decide +kernel, rfl, by decide +kernel, by decide +kernel⟩
theorem ok_joined (T : Txt w K mg) : Cal P w K mg base (L2.CX P w) 3 "joined" (spJoined K) := by
  refine cal_ok T.d_joined (fun _ _ _ _ _ _ us hl => match us, hl with | [_, _, _], _ => rfl) sc_joined (fun vs H Q E h => ?_) (fun cdv A outer s f H vs Q E hr h => ?_)
  · obtain ⟨_, _, _, _, _, rfl, _⟩ := h; rfl
  · obtain ⟨kd, a, b, A', B', rfl, hk, ha, hb, wA, wB, el, k, kE⟩ := h
    refine ⟨_, (pss_cons (ps_expr (pe_c0 (ok_check_letters T) hr (by decide) rfl (pa_cons (pv 1) (pa_cons (pv 2) pa_nil))))
      (pss_cons (ps_expr (pe_cX (ok_check_rooms T) (takes_of rfl rfl rfl rfl) hr (by decide) rfl (pa_cons (pe_op op_add (pe_c0 (ok_rooms T) hr (by decide) rfl (pa_cons (pv 1) pa_nil)) (pe_c0 (ok_rooms T) hr (by decide) rfl (pa_cons (pv 2) pa_nil))) pa_nil)))
      (pss_cons (ps_set (i := 3) sc_joined.nd rfl (Or.inl rfl) (pe_lstQ pa_nil))
      (pss_cons (ps_for (passes_of rfl) rfl (RZ.pi_zipA rfl T.f_zip (pa_cons (pe_ix (ix_tupQ K) (pv 1) pe_int (fun _ _ => rfl)) (pa_cons (pe_ix (ix_tupQ K) (pv 2) pe_int (fun _ _ => rfl)) pa_nil))) (pg_tup (n := 2) rfl (pgs_cons (pg_name (i := 4) sc_joined.nd rfl (Or.inl rfl)) (pgs_cons (pg_name (i := 5) sc_joined.nd rfl (Or.inl rfl)) pgs_nil)))
      (pss_cons (ps_setLc (i := 6) rfl sc_joined.nd rfl rfl (sw_true rfl rfl rfl (by decide +kernel)) (own := [("row", 9)]) (pi_tup (pv 4)) (blkOk_by (own := [("row", 9)]) (N := ["kind", "one", "other", "tables", "table", "beside", "upper", "lower", "start", "row"]) (sc := defScope s_joined) (by decide +kernel)) (fun _ _ _ _ _ => (pg_name (i := 9) sc_joined.nd rfl (Or.inl rfl))) (fun _ _ _ _ _ => pts_nil) (fun _ _ _ _ _ => (pe_op (op_catTQ K) (pv 9) (pe_c0 (ok_by_all T) hr (by decide) rfl (pa_cons (pv 0) (pa_cons (pe_c0 (ok_dot T) hr (by decide) rfl (pa_cons (pv 0) (pa_cons (pv 9) (pa_cons (pe_ix (ix_tupQ K) (pv 1) pe_int (fun _ _ => rfl)) pa_nil)))) (pa_cons (pe_ix (ix_tupQ K) (pv 2) pe_int (fun _ _ => rfl)) pa_nil)))))))
      (pss_cons (ps_setLc (i := 7) rfl sc_joined.nd rfl rfl (sw_true rfl rfl rfl (by decide +kernel)) (own := [("row", 9)]) (pi_tup (pv 5)) (blkOk_by (own := [("row", 9)]) (N := ["kind", "one", "other", "tables", "table", "beside", "upper", "lower", "start", "row"]) (sc := defScope s_joined) (by decide +kernel)) (fun _ _ _ _ _ => (pg_name (i := 9) sc_joined.nd rfl (Or.inl rfl))) (fun _ _ _ _ _ => pts_nil) (fun _ _ _ _ _ => (pe_op (op_catTQ K) (pe_c0 (ok_noughts T) hr (by decide) rfl (pa_cons (pv 0) (pa_cons (pe_c0 (ok_rooms T) hr (by decide) rfl (pa_cons (pv 1) pa_nil)) pa_nil))) (pv 9))))
      (pss_one (ps_expr (pe_bm PySem.F.plainAttrs_list PySem.F.slot_list_append PySem.F.type_list_append mt_appQ (pv 3) (pa_cons (pe_callTy (call_tupQ K) (by rfl) T.f_tuple (by decide +kernel) (pa_cons (pe_op op_catLQ (pv 6) (pv 7)) pa_nil)) pa_nil)))))))
      (pss_cons (ps_set (i := 8) sc_joined.nd rfl (Or.inl rfl) (pe_op (op_catTQ K) (pe_ix (ix_tupQ K) (pv 1) pe_int (fun _ _ => rfl)) (pe_c0 (ok_by_all T) hr (by decide) rfl (pa_cons (pv 0) (pa_cons (pe_c0 (ok_dot T) hr (by decide) rfl (pa_cons (pv 0) (pa_cons (pe_ix (ix_tupQ K) (pv 1) pe_int (fun _ _ => rfl)) (pa_cons (pe_ix (ix_tupQ K) (pv 1) pe_int (fun _ _ => rfl)) pa_nil)))) (pa_cons (pe_ix (ix_tupQ K) (pv 2) pe_int (fun _ _ => rfl)) pa_nil))))))
      (pss_one (ps_ret (pe_tupQ (pa_cons (pe_ix (ix_tupQ K) (pv 1) pe_int (fun _ _ => rfl)) (pa_cons (pv 8) (pa_cons (pe_callTy (call_tupQ K) (by rfl) T.f_tuple (by decide +kernel) (pa_cons (pv 3) pa_nil)) (pa_cons (pe_op (op_catTQ K) (pe_c0 (ok_noughts T) hr (by decide) rfl (pa_cons (pv 0) (pa_cons (pe_c0 (ok_rooms T) hr (by decide) rfl (pa_cons (pv 1) pa_nil)) pa_nil))) (pe_ix (ix_tupQ K) (pv 2) pe_int (fun _ _ => rfl))) pa_nil)))))))))))), ?_⟩
    refine ⟨_, rfl, _, rfl, a, b, A', B', rfl, ha, hb, el, ?_⟩
    refine ⟨_, rfl, a, A', rfl, ha, _, rfl, b, B', rfl, hb, _, _, rfl, rfl, A'.st.length + B'.st.length, by rw [Int.natCast_add], fun hle => ?_, fun hgt => kE hgt H (Same.refl H)⟩
    refine r_lst Reps.nil (small (by simp)) fun p H1 s1 hp hl => ?_
    refine ⟨_, rfl, r_ixS 2 ha s1 rfl fun ta hta => ?_⟩
    refine ⟨_, rfl, r_ixS 2 hb s1 rfl fun tb htb => ?_⟩
    obtain ⟨qa, va, rfl, hqa, ra⟩ := id hta
    obtain ⟨qb, vb, rfl, hqb, rb⟩ := id htb
    have la : va.length = A'.tabs.length := by rw [ra.len, List.length_map]
    have lb : vb.length = B'.tabs.length := by rw [rb.len, List.length_map]
    have lab : A'.tabs.length = B'.tabs.length := by rw [wA.lt, wB.lt, el]
    have lt3 : A'.tabs.length ≤ 3 := by rw [wA.lt]; exact wA.let3
    have f1 := wA.few
    have f2 := wB.few
    refine ⟨qa, qb, va, vb, rfl, .inr ⟨SqT.of (s1 _ _ hqa), SqT.of (s1 _ _ hqb), for_it (walk_zipT (xs := va) (ys := vb) (n := A'.tabs.length) (by omega)) (fun i σ H2 => ∃ y4 y5 y6 y7, σ = [some kd, some a, some b, some (.ref p), y4, y5, y6, y7, none, none] ∧ Same H H2 ∧ LstAt H2 p (((A'.tabs.zip B'.tabs).take i).map fun z => dTab (joinTab A' B' z)))
      ⟨none, none, none, none, rfl, s1, hl⟩ (fun i σ H2 _ ⟨_, _, _, _, _, s2, _⟩ => ⟨SqT.of (s2 _ _ hqa), SqT.of (s2 _ _ hqb)⟩) ?_ ?_⟩⟩
    · rintro i x σ H2 H3 hi ⟨y4, y5, y6, y7, rfl, s2, hl2⟩ ⟨T0, u, v, rfl, hT, rfl, hu, hv⟩
      obtain ⟨du, hdu, ru⟩ := ra.getV hu
      obtain ⟨dv, hdv, rv⟩ := rb.getV hv
      rw [List.getElem?_map, Option.map_eq_some_iff] at hdu hdv
      obtain ⟨t1, ht1, rfl⟩ := hdu
      obtain ⟨t2, ht2, rfl⟩ := hdv
      have s3 : Same H (upd H2 T0 (.tup [u, v])) := s2.trans (Same.upd' hT)
      have hl3 : LstAt (upd H2 T0 (.tup [u, v])) p _ := hl2.same (Same.upd' hT)
      refine ⟨T0, _, rfl, SqT.of upd_same, rfl, _, _, rfl, _, _, rfl, rfl, ?_⟩
      generalize upd H2 T0 (.tup [u, v]) = H3 at s3 hl3
      obtain ⟨pu, vu, rfl, hpu, rru⟩ := id ru
      obtain ⟨pv', vv, rfl, hpv, rrv⟩ := id rv
      have m1 : t1 ∈ A'.tabs := List.mem_of_getElem? ht1
      have m2 : t2 ∈ B'.tabs := List.mem_of_getElem? ht2
      have l1 : vu.length = t1.length := by rw [rru.len, List.length_map]
      have l2 : vv.length = t2.length := by rw [rrv.len, List.length_map]
      have n1 := wA.rows t1 m1
      have n2 := wB.rows t2 m2
      -- upper
      refine ⟨_, rfl, pu, rfl, ⟨_, SqT.of (s3 _ _ hpu)⟩, fun D1 hD1 => ?_⟩
      refine lc_gen (H0 := H3) (walk_tup (xs := vu)) hD1 (small (by omega)) (fun H4 s4 => SqT.of (s4 _ _ (s3 _ _ hpu))) same_YAt (fun j => (t1[j]?).map fun r => dRow (r ++ B'.st.map (wtimes (wdot r A'.en)))) ?_ ?_
      · rintro j z H4 H5 hj s5 ⟨rfl, hz⟩ s4 Kf Kt hf ht
        obtain ⟨d, hd, rz⟩ := rru.getV hz
        rw [List.getElem?_map, Option.map_eq_some_iff] at hd
        obtain ⟨r, hr1, rfl⟩ := hd
        have lr := wA.cols t1 m1 r (List.mem_of_getElem? hr1)
        have sH := s3.trans s5
        refine ⟨rfl, _, rfl, _, rfl, _, rfl, _, rfl, _, rfl, r_ixS 3 ha sH rfl fun u3 h3 => ?_⟩
        refine ⟨kd, z, u3, r, A'.en, rfl, hk.same sH, rz.same sH, h3.same sH, fun H6 s6 => ?_⟩
        refine ⟨_, rfl, r_ixS 1 hb (sH.trans s6) rfl fun u1 h1 => ?_⟩
        refine ⟨kd, _, u1, B'.st, rfl, hk.same (sH.trans s6), h1.same (sH.trans s6), Nat.le_trans f2 (by decide), fun v7 H7 s7 h7 => ?_⟩
        refine r_catT (((rz.same sH).same s6).same s7) h7 (by simp only [List.length_map]; exact small (by omega)) fun v8 H8 s8 h8 => ?_
        refine ht _ (by rw [hr1] <;> rfl) _ _ ((s6.trans s7).trans s8) ?_
        rw [← List.map_append] at h8
        exact h8
      intro H4 s4 hu4
      rw [l1, fm_map] at hu4
      have s4' := s3.trans s4
      -- lower
      refine ⟨_, rfl, pv', rfl, ⟨_, SqT.of (s4' _ _ hpv)⟩, fun D2 hD2 => ?_⟩
      refine lc_gen (H0 := H4) (walk_tup (xs := vv)) hD2 (small (by omega)) (fun H5 s5 => SqT.of (s5 _ _ (s4' _ _ hpv))) same_YAt (fun j => (t2[j]?).map fun r => dRow (List.replicate A'.st.length none ++ r)) ?_ ?_
      · rintro j z H5 H6 hj s6 ⟨rfl, hz⟩ s5 Kf Kt hf ht
        obtain ⟨d, hd, rz⟩ := rrv.getV hz
        rw [List.getElem?_map, Option.map_eq_some_iff] at hd
        obtain ⟨r, hr1, rfl⟩ := hd
        have lr := wB.cols t2 m2 r (List.mem_of_getElem? hr1)
        have sH := s4'.trans s6
        refine ⟨rfl, _, rfl, _, rfl, a, A', rfl, ha.same sH, kd, A'.st.length, rfl, hk.same sH, by omega, fun v6 H6 s6 h6 => ?_⟩
        refine ⟨_, rfl, r_catT h6 ((rz.same sH).same s6) (by simp only [List.length_map, List.length_replicate]; exact small (by omega)) fun v7 H7 s7 h7 => ?_⟩
        refine ht _ (by rw [hr1] <;> rfl) _ _ (s6.trans s7) ?_
        rw [← List.map_append] at h7
        exact h7
      intro H5 s5 hl5
      rw [l2, fm_map] at hl5
      -- tables.append(tuple(upper + lower))
      have hu5 := hu4.same s5
      have hp5 := (hl3.same s4).same s5
      refine ⟨_, rfl, tyL hp5, _, rfl, _, rfl, r_catL hu5 hl5 (by simp only [List.length_map]; exact small (by omega)) fun p6 H6 s6 hp6 hl6 => ?_⟩
      refine r_tupL hl6 fun v7 H7 s7 h7 => ?_
      refine r_app ((hp5.same s6).same s7) h7 (by rw [List.length_map, List.length_take]; exact small1000 (by omega)) fun H8 k8 t8 _ hl8 => ?_
      refine ⟨_, _, _, _, rfl, k8 H hp (((s4'.trans s5).trans s6).trans s7), ?_⟩
      have e : (A'.tabs.zip B'.tabs).take (i + 1) = (A'.tabs.zip B'.tabs).take i ++ [(t1, t2)] := by
        have h3 : (A'.tabs.zip B'.tabs)[i]? = some (t1, t2) := by rw [List.getElem?_zip_eq_some]; exact ⟨ht1, ht2⟩
        rw [List.take_add_one, h3] <;> rfl
      rw [e, List.map_append]
      have e2 : dTab (joinTab A' B' (t1, t2)) = D.t (List.map (fun r => dRow (r ++ B'.st.map (wtimes (wdot r A'.en)))) t1 ++ List.map (fun r => dRow (List.replicate A'.st.length none ++ r)) t2) := by
        show D.t _ = _
        unfold joinTab
        rw [List.map_append, List.map_map, List.map_map] <;> rfl
      show LstAt H8 p (_ ++ [dTab (joinTab A' B' (t1, t2))])
      rw [e2]
      exact hl8
    · rintro σ H2 ⟨y4, y5, y6, y7, rfl, s2, hl2⟩
      -- start = one[1] + by_all(kind, dot(kind, one[1], one[3]), other[1])
      refine ⟨_, rfl, r_ixS 1 ha s2 rfl fun u1 h1 => ?_⟩
      refine ⟨_, rfl, _, rfl, _, rfl, r_ixS 1 ha s2 rfl fun u1' h1' => ?_⟩
      refine ⟨_, rfl, r_ixS 3 ha s2 rfl fun u3 h3 => ?_⟩
      refine ⟨kd, u1', u3, A'.st, A'.en, rfl, hk.same s2, h1'.same s2, h3.same s2, fun H3 s3 => ?_⟩
      have s23 := s2.trans s3
      refine ⟨_, rfl, r_ixS 1 hb s23 rfl fun u2 h2 => ?_⟩
      refine ⟨kd, _, u2, B'.st, rfl, hk.same s23, h2.same s23, Nat.le_trans f2 (by decide), fun v4 H4 s4 h4 => ?_⟩
      have s24 := s23.trans s4
      refine r_catT (h1.same s24) h4 (by simp only [List.length_map]; exact small (by omega)) fun v5 H5 s5 h5 => ?_
      have s25 := s24.trans s5
      -- return
      refine ⟨_, rfl, r_ixS 0 ha s25 rfl fun u0 h0 => ?_⟩
      refine ⟨_, rfl, _, rfl, r_tupL (((hl2.same s3).same s4).same s5) fun v6 H6 s6 h6 => ?_⟩
      have s26 := s25.trans s6
      refine ⟨_, rfl, _, rfl, a, A', rfl, ha.same s26, kd, A'.st.length, rfl, hk.same s26, by omega, fun v7 H7 s7 h7 => ?_⟩
      have s27 := s26.trans s7
      refine ⟨_, rfl, r_ixS 3 hb s27 rfl fun u8 h8 => ?_⟩
      refine r_catT h7 (h8.same s27) (by simp only [List.length_map, List.length_replicate, wB.ends]; exact small (by omega)) fun v9 H9 s9 h9 => ?_
      refine r_tup (Reps.cons (h0.same (s27.trans s9)) (Reps.cons (((h5.same s6).same s7).same s9) (Reps.cons ((h6.same s7).same s9) (Reps.cons h9 Reps.nil)))) (small (by simp)) fun vA HA sA hA => k hle vA HA ((s27.trans s9).trans sA) ?_
      have e3 : dMach (mJoin A' B') = D.t [D.a (.str A'.ls), D.t (A'.st.map dW ++ (B'.st.map (wtimes (wdot A'.st A'.en))).map dW), D.t (((A'.tabs.zip B'.tabs).take A'.tabs.length).map fun z => dTab (joinTab A' B' z)), D.t ((List.replicate A'.st.length none).map dW ++ B'.en.map dW)] := by
        rw [List.take_of_length_le (by rw [List.length_zip]; omega)]
        simp only [dMach, mJoin, dRow, dTabs, List.map_append, List.map_map]
        rfl
      rw [e3]
      exact hA
abbrev s_turned : Stmt := top 53
theorem sc_turned : FnScope ["kind", "machine", "tables", "table", "at"] ["kind", "machine"] (defScope s_turned) := ⟨rfl, rfl, rfl, by decide +kernel, rfl, by decide +kernel, by decide +kernel⟩
theorem ok_turned (T : Txt w K mg) : Cal P w K mg base CX0 2 "turned" (spTurned K) := by
  refine cal_ok T.d_turned (fun _ _ _ _ _ _ us hl => match us, hl with | [_, _], _ => rfl) sc_turned (fun vs H Q E h => ?_) (fun cdv A outer s f H vs Q E hr h => ?_)
  · obtain ⟨_, _, _, rfl, _⟩ := h; rfl
  · obtain ⟨kd, a, M, rfl, ha, wM, k⟩ := h
    refine ⟨_, PSs.nox (pss_cons (ps_set (i := 2) sc_turned.nd rfl (Or.inl rfl) (pe_lstQ pa_nil))
      (pss_cons (ps_for PassesOwn.never rfl (pi_tup (pe_ix (ix_tupQ K) (pv 1) pe_int (fun _ _ => rfl))) (pg_name (i := 3) sc_turned.nd rfl (Or.inr rfl))
      (pss_one (ps_expr (pe_bm PySem.F.plainAttrs_list PySem.F.slot_list_append PySem.F.type_list_append mt_appQ (pv 2) (pa_cons (pe_callTy (call_tupQ K) (by rfl) T.f_tuple (by decide +kernel) (pa_cons (pe_lc (own := [("at", 4)]) rfl sc_turned.nd (pi_range1 rfl T.f_range (pa_cons (pe_c0 (ok_rooms T) hr (by decide) rfl (pa_cons (pv 1) pa_nil)) pa_nil)) (blkOk_by (own := [("at", 4)]) (N := ["kind", "machine", "tables", "table", "at"]) (sc := defScope s_turned) (by decide +kernel)) (fun _ _ _ _ _ => (pg_name (i := 4) sc_turned.nd rfl (Or.inl rfl))) (fun _ _ _ _ _ => pts_nil) (fun _ _ _ _ _ => (pe_c0 (ok_column_at T) hr (by decide) rfl (pa_cons (pv 3) (pa_cons (pv 4) pa_nil))))) pa_nil)) pa_nil)))))
      (pss_one (ps_ret (pe_tupQ (pa_cons (pe_ix (ix_tupQ K) (pv 1) pe_int (fun _ _ => rfl)) (pa_cons (pe_ix (ix_tupQ K) (pv 1) pe_int (fun _ _ => rfl)) (pa_cons (pe_callTy (call_tupQ K) (by rfl) T.f_tuple (by decide +kernel) (pa_cons (pv 2) pa_nil)) (pa_cons (pe_ix (ix_tupQ K) (pv 1) pe_int (fun _ _ => rfl)) pa_nil))))))))), ?_⟩
    have f1 := wM.few
    refine r_lst Reps.nil (small (by simp)) fun p H1 s1 hp hl => ?_
    refine ⟨_, rfl, r_ixS 2 ha s1 rfl fun ta hta => ?_⟩
    obtain ⟨qa, va, rfl, hqa, ra⟩ := id hta
    have la : va.length = M.tabs.length := by rw [ra.len, List.length_map]
    have lt3 : M.tabs.length ≤ 3 := by rw [wM.lt]; exact wM.let3
    refine ⟨qa, rfl, ⟨_, SqT.of (s1 _ _ hqa)⟩, for_it (walk_tup (xs := va)) (fun i σ H2 => ∃ y3, σ = [some kd, some a, some (.ref p), y3, none] ∧ Same H H2 ∧ LstAt H2 p ((M.tabs.take i).map fun t => dTab ((List.range M.st.length).map (colAt t))))
      ⟨none, rfl, s1, hl⟩ (fun i σ H2 _ ⟨_, _, s2, _⟩ => SqT.of (s2 _ _ hqa)) ?_ ?_⟩
    · rintro i x σ H2 H3 hi ⟨y3, rfl, s2, hl2⟩ ⟨rfl, hu⟩
      obtain ⟨du, hdu, ru⟩ := ra.getV hu
      rw [List.getElem?_map, Option.map_eq_some_iff] at hdu
      obtain ⟨t1, ht1, rfl⟩ := hdu
      have m1 : t1 ∈ M.tabs := List.mem_of_getElem? ht1
      have n1 := wM.rows t1 m1
      refine ⟨_, rfl, tyL hl2, _, rfl, a, M, rfl, ha.same s2, _, rfl, by omega, by omega, fun Dd hD => ?_⟩
      refine lc_gen (H0 := H3) (walk_range0 (n := (M.st.length : Int).toNat)) hD (small (by omega)) (fun _ _ => trivial) same_YFn (fun j => some (dRow (colAt t1 j))) ?_ ?_
      · rintro j z H5 H6 hj s6 ⟨rfl, rfl⟩ s5 Kf Kt hf ht
        refine ⟨rfl, _, rfl, _, rfl, x, t1, j, rfl, (ru.same s2).same s6, by omega, fun r hr => ?_, fun v7 H7 s7 h7 => ht _ rfl _ _ s7 h7⟩
        have := wM.cols t1 m1 r hr
        omega
      · intro H5 s5 hl5
        rw [fm_rng] at hl5
        refine r_tupL hl5 fun v7 H7 s7 h7 => ?_
        refine r_app ((hl2.same s5).same s7) h7 (by rw [List.length_map, List.length_take]; exact small1000 (by omega)) fun H8 k8 t8 _ hl8 => ?_
        refine ⟨_, rfl, k8 H hp ((s2.trans s5).trans s7), ?_⟩
        rw [List.take_add_one, ht1, List.map_append]
        have e2 : dTab ((List.range M.st.length).map (colAt t1)) = D.t (List.map (fun j => dRow (colAt t1 j)) (List.range (M.st.length : Int).toNat)) := by
          show D.t _ = _
          rw [List.map_map] <;> rfl
        show LstAt H8 p (_ ++ [dTab ((List.range M.st.length).map (colAt t1))])
        rw [e2]
        exact hl8
    · rintro σ H2 ⟨y3, rfl, s2, hl2⟩
      refine ⟨_, rfl, r_ixS 0 ha s2 rfl fun u0 h0 => ?_⟩
      refine ⟨_, rfl, r_ixS 3 ha s2 rfl fun u3 h3 => ?_⟩
      refine ⟨_, rfl, r_tupL hl2 fun v6 H6 s6 h6 => ?_⟩
      refine ⟨_, rfl, r_ixS 1 ha (s2.trans s6) rfl fun u1 h1 => ?_⟩
      have s26 := s2.trans s6
      refine r_tup (Reps.cons (h0.same s26) (Reps.cons (h3.same s26) (Reps.cons h6 (Reps.cons (h1.same s26) Reps.nil)))) (small (by simp)) fun vA HA sA hA => k vA HA (s26.trans sA) ?_
      have e3 : dMach (mTurn M) = D.t [D.a (.str M.ls), dRow M.en, D.t ((M.tabs.take va.length).map fun t => dTab ((List.range M.st.length).map (colAt t))), dRow M.st] := by
        rw [List.take_of_length_le (by omega)]
        simp only [dMach, mTurn, dTabs, List.map_map]
        rfl
      rw [e3]
      exact hA
end
end L2.Ww
set_option Elab.async false
set_option linter.all false
set_option maxRecDepth 100000
set_option maxHeartbeats 4000000
/-! Machines built: closed. -/
namespace L2.Ww
open PySem PySem.Spec PyProof.Rows
def closeRow (M : Mach) (r : List Wt) : List Wt := ((r.zip (M.st.map (wtimes (wdot r M.en)))).map fun p => wplus p.1 p.2) ++ [none]
def closeTab (M : Mach) (t : List (List Wt)) : List (List Wt) := t.map (closeRow M) ++ [List.replicate (M.st.length + 1) none]
def mClose (M : Mach) : Mach := ⟨M.ls, M.st ++ [some 0], M.tabs.map (closeTab M), M.en ++ [some 0]⟩
def spClosed (K : PySem.W.Frag) : Sp := fun vs H Q E => ∃ k a M, vs = [k, a] ∧ CostsAt K H k ∧ Rep H (dMach M) a ∧ M.WF ∧ (wdot M.st M.en ≠ none → ∀ H', Same H H' → E (.ref (He.ga K "NoClosure")) none H') ∧
  (wdot M.st M.en = none → 20 < M.st.length + 1 → tooGreat K H E) ∧ (wdot M.st M.en = none → M.st.length + 1 ≤ 20 → Gives H (dMach (mClose M)) Q)
theorem vW_non {x : Wt} : (vW x = .non) ↔ x = none := by cases x <;> simp [vW]
theorem scal_W (x : Wt) : scal (vW x) .non = true := by cases x <;> rfl
section
variable {P : Program} {w : World} {K : PySem.W.Frag} {mg : Str → Option Value} {base : Heap}
abbrev s_closed : Stmt := top 54
theorem sc_closed : FnScope ["kind", "machine", "tables", "table", "lines", "row", "again", "both", "x", "y"] ["kind", "machine"] (defScope s_closed) := ⟨rfl, rfl, rfl, by decide +kernel, rfl, by decide +kernel, by decide +kernel⟩
theorem ok_closed (T : Txt w K mg) : Cal P w K mg base (L2.CX P w) 3 "closed" (spClosed K) := by
  refine cal_ok T.d_closed (fun _ _ _ _ _ _ us hl => match us, hl with | [_, _], _ => rfl) sc_closed (fun vs H Q E h => ?_) (fun cdv A outer s f H vs Q E hr h => ?_)
  · obtain ⟨_, _, _, rfl, _⟩ := h; rfl
  · obtain ⟨kd, a, M, rfl, hk, ha, wM, kC, kG, k⟩ := h
    refine ⟨_, (pss_cons (ps_if (pt_cmpR op_ne (pe_c0 (ok_dot T) hr (by decide) rfl (pa_cons (pv 0) (pa_cons (pe_ix (ix_tupQ K) (pv 1) pe_int (fun _ _ => rfl)) (pa_cons (pe_ix (ix_tupQ K) (pv 1) pe_int (fun _ _ => rfl)) pa_nil)))) (pe_m00 (ok_Costs_nought T) hr (by decide) (pv 0)) (nomark _)) (pss_one (ps_raise rfl (takes_of rfl rfl rfl rfl) (pmk_own PySem.F.excBase_ValueError T.x_NoClosure T.g_NoClosure T.kp_NoClosure (raises_own T.b_NoClosure T.t_NoClosure) rfl))) pss_nil)
      (pss_cons (ps_expr (pe_cX (ok_check_rooms T) (takes_of rfl rfl rfl rfl) hr (by decide) rfl (pa_cons (pe_op op_add (pe_c0 (ok_rooms T) hr (by decide) rfl (pa_cons (pv 1) pa_nil)) pe_int) pa_nil)))
      (pss_cons (ps_set (i := 2) sc_closed.nd rfl (Or.inl rfl) (pe_lstQ pa_nil))
      (pss_cons (ps_for (passes_of rfl) rfl (pi_tup (pe_ix (ix_tupQ K) (pv 1) pe_int (fun _ _ => rfl))) (pg_name (i := 3) sc_closed.nd rfl (Or.inl rfl))
      (pss_cons (ps_set (i := 4) sc_closed.nd rfl (Or.inl rfl) (pe_lstQ pa_nil))
      (pss_cons (ps_for (passes_of rfl) rfl (pi_tup (pv 3)) (pg_name (i := 5) sc_closed.nd rfl (Or.inl rfl))
      (pss_cons (ps_set (i := 6) sc_closed.nd rfl (Or.inl rfl) (pe_c0 (ok_by_all T) hr (by decide) rfl (pa_cons (pv 0) (pa_cons (pe_c0 (ok_dot T) hr (by decide) rfl (pa_cons (pv 0) (pa_cons (pv 5) (pa_cons (pe_ix (ix_tupQ K) (pv 1) pe_int (fun _ _ => rfl)) pa_nil)))) (pa_cons (pe_ix (ix_tupQ K) (pv 1) pe_int (fun _ _ => rfl)) pa_nil)))))
      (pss_cons (ps_setLc (i := 7) rfl sc_closed.nd rfl rfl (sw_true rfl rfl rfl (by decide +kernel)) (own := [("x", 8), ("y", 9)]) (RZ.pi_zipA rfl T.f_zip (pa_cons (pv 5) (pa_cons (pv 6) pa_nil))) (blkOk_by (own := [("x", 8), ("y", 9)]) (N := ["kind", "machine", "tables", "table", "lines", "row", "again", "both", "x", "y"]) (sc := defScope s_closed) (by decide +kernel)) (fun _ _ _ _ _ => (pg_tupK (n := 2) K rfl (pgs_cons (pg_name (i := 8) sc_closed.nd rfl (Or.inl rfl)) (pgs_cons (pg_name (i := 9) sc_closed.nd rfl (Or.inl rfl)) pgs_nil)))) (fun _ _ _ _ _ => pts_nil) (fun _ _ _ _ _ => (pe_mc (ok_Costs_plus T) hr (by decide) (pv 0) (pa_cons (pv 8) (pa_cons (pv 9) pa_nil)))))
      (pss_one (ps_expr (pe_bm PySem.F.plainAttrs_list PySem.F.slot_list_append PySem.F.type_list_append mt_appQ (pv 4) (pa_cons (pe_op (op_catTQ K) (pe_callTy (call_tupQ K) (by rfl) T.f_tuple (by decide +kernel) (pa_cons (pv 7) pa_nil)) (pe_c0 (ok_noughts T) hr (by decide) rfl (pa_cons (pv 0) (pa_cons pe_int pa_nil)))) pa_nil)))))))
      (pss_one (ps_expr (pe_bm PySem.F.plainAttrs_list PySem.F.slot_list_append PySem.F.type_list_append mt_appQ (pv 2) (pa_cons (pe_callTy (call_tupQ K) (by rfl) T.f_tuple (by decide +kernel) (pa_cons (pe_op op_catLQ (pv 4) (pe_lstQ (pa_cons (pe_c0 (ok_noughts T) hr (by decide) rfl (pa_cons (pv 0) (pa_cons (pe_op op_add (pe_c0 (ok_rooms T) hr (by decide) rfl (pa_cons (pv 1) pa_nil)) pe_int) pa_nil))) pa_nil))) pa_nil)) pa_nil)))))))
      (pss_one (ps_ret (pe_tupQ (pa_cons (pe_ix (ix_tupQ K) (pv 1) pe_int (fun _ _ => rfl)) (pa_cons (pe_op (op_catTQ K) (pe_ix (ix_tupQ K) (pv 1) pe_int (fun _ _ => rfl)) (pe_tupQ (pa_cons (pe_m00 (ok_Costs_one T) hr (by decide) (pv 0)) pa_nil))) (pa_cons (pe_callTy (call_tupQ K) (by rfl) T.f_tuple (by decide +kernel) (pa_cons (pv 2) pa_nil)) (pa_cons (pe_op (op_catTQ K) (pe_ix (ix_tupQ K) (pv 1) pe_int (fun _ _ => rfl)) (pe_tupQ (pa_cons (pe_m00 (ok_Costs_one T) hr (by decide) (pv 0)) pa_nil))) pa_nil))))))))))), ?_⟩
    have f1 := wM.few
    obtain ⟨ka, kdx, rfl, hka⟩ := id hk
    refine ⟨_, rfl, _, rfl, r_ixT 1 ha rfl fun u1 h1 => ?_⟩
    refine ⟨_, rfl, r_ixT 3 ha rfl fun u3 h3 => ?_⟩
    refine ⟨_, u1, u3, M.st, M.en, rfl, hk, h1, h3, fun H1 s1 => ?_⟩
    refine ⟨_, rfl, ka, kdx, _, rfl, s1 _ _ hka, rfl, _, rfl, scal_W _, _, rfl, ?_⟩
    by_cases hd : wdot M.st M.en = none
    case neg =>
      rw [show (!decide (vW (wdot M.st M.en) = V.non)) = true by rw [decide_eq_false (fun z => hd (vW_non.mp z))] <;> rfl]
      exact iteT (kC hd H1 s1)
    rw [show (!decide (vW (wdot M.st M.en) = V.non)) = false by rw [decide_eq_true (vW_non.mpr hd)] <;> rfl]
    refine iteF ?_
    refine ⟨_, rfl, a, M, rfl, ha.same s1, _, _, rfl, rfl, M.st.length + 1, by rw [Int.natCast_add] <;> rfl, fun hle => ?_, fun hgt => kG hd hgt H1 s1⟩
    refine r_lst Reps.nil (small (by simp)) fun p H2 s12 hp1 hl => ?_
    have s2 := s1.trans s12
    have hp := s1.free hp1
    refine ⟨_, rfl, r_ixS 2 ha s2 rfl fun ta hta => ?_⟩
    obtain ⟨qa, va, rfl, hqa, ra⟩ := id hta
    have la : va.length = M.tabs.length := by rw [ra.len, List.length_map]
    have lt3 : M.tabs.length ≤ 3 := by rw [wM.lt]; exact wM.let3
    refine ⟨qa, rfl, ⟨_, SqT.of (s2 _ _ hqa)⟩, for_it (walk_tup (xs := va)) (fun i σ H2 => ∃ y3 y4 y5 y6 y7, σ = [some (.ref ka), some a, some (.ref p), y3, y4, y5, y6, y7, none, none] ∧ Same H H2 ∧ LstAt H2 p ((M.tabs.take i).map fun t => dTab (closeTab M t)))
      ⟨none, none, none, none, none, rfl, s2, hl⟩ (fun i σ H2 _ ⟨_, _, _, _, _, _, s2, _⟩ => SqT.of (s2 _ _ hqa)) ?_ ?_⟩
    · rintro i x σ H3 H3' hi ⟨y3, y4, y5, y6, y7, rfl, s3, hl3⟩ ⟨rfl, hu⟩
      obtain ⟨du, hdu, ru⟩ := ra.getV hu
      rw [List.getElem?_map, Option.map_eq_some_iff] at hdu
      obtain ⟨t1, ht1, rfl⟩ := hdu
      have m1 : t1 ∈ M.tabs := List.mem_of_getElem? ht1
      have n1 := wM.rows t1 m1
      obtain ⟨pu, vu, rfl, hpu, rru⟩ := id ru
      have l1 : vu.length = t1.length := by rw [rru.len, List.length_map]
      refine r_lst Reps.nil (small (by simp)) fun q H4 s34 hq3 hl4 => ?_
      have s4 := s3.trans s34
      have hq := s3.free hq3
      have hpq : p ≠ q := by
        obtain ⟨_, e, _⟩ := hl3
        exact ne_of_none e hq3
      refine ⟨_, rfl, pu, rfl, ⟨_, SqT.of (s4 _ _ hpu)⟩, for_it (walk_tup (xs := vu)) (fun j σ H5 => ∃ y5 y6 y7, σ = [some (.ref ka), some a, some (.ref p), some (.ref pu), some (.ref q), y5, y6, y7, none, none] ∧ Same H H5 ∧ LstAt H5 p ((M.tabs.take i).map fun t => dTab (closeTab M t)) ∧ LstAt H5 q ((t1.take j).map fun r => dRow (closeRow M r)))
        ⟨_, _, _, rfl, s4, hl3.same s34, hl4⟩ (fun j σ H5 _ ⟨_, _, _, _, s5, _⟩ => SqT.of (s5 _ _ hpu)) ?_ ?_⟩
      · rintro j z σ H5 H5' hj ⟨y5, y6, y7, rfl, s5, hlp, hlq⟩ ⟨rfl, hz⟩
        obtain ⟨d, hd, rz⟩ := rru.getV hz
        rw [List.getElem?_map, Option.map_eq_some_iff] at hd
        obtain ⟨r, hr1, rfl⟩ := hd
        have lr := wM.cols t1 m1 r (List.mem_of_getElem? hr1)
        -- again
        refine ⟨_, rfl, _, rfl, _, rfl, _, rfl, r_ixS 3 ha s5 rfl fun u3 h3 => ?_⟩
        refine ⟨_, z, u3, r, M.en, rfl, hk.same s5, rz.same s5, h3.same s5, fun H6 s6 => ?_⟩
        have s56 := s5.trans s6
        refine ⟨_, rfl, r_ixS 1 ha s56 rfl fun u1 h1 => ?_⟩
        refine ⟨_, _, u1, M.st, rfl, hk.same s56, h1.same s56, Nat.le_trans f1 (by decide), fun v7 H7 s7 h7 => ?_⟩
        have s57 := s56.trans s7
        -- both
        obtain ⟨pz, vz, rfl, hpz, rrz⟩ := id rz
        obtain ⟨pa, vv, rfl, hpa, rra⟩ := id h7
        have lz : vz.length = r.length := by rw [rrz.len, List.length_map]
        have lv : vv.length = M.st.length := by rw [rra.len, List.length_map, List.length_map]
        refine ⟨_, rfl, _, rfl, pz, pa, vz, vv, rfl, .inr ⟨SqT.of (s57 _ _ hpz), SqT.of hpa, fun D1 hD1 => ?_⟩⟩
        refine lc_gen (H0 := H7) (walk_zipT (xs := vz) (ys := vv) (n := r.length) (by omega)) hD1 (small (by omega)) (fun H8 s8 => ⟨SqT.of (s8 _ _ (s57 _ _ hpz)), SqT.of (s8 _ _ hpa)⟩) same_YPair (fun m => ((r.zip (M.st.map (wtimes (wdot r M.en))))[m]?).map fun p => dW (wplus p.1 p.2)) ?_ ?_
        · rintro m zz H8 H9 hm s9 ⟨T0, x1, x2, rfl, hT, rfl, hx1, hx2⟩ s8 Kf Kt hf ht
          obtain ⟨d1, hd1, rx1⟩ := rrz.getV hx1
          obtain ⟨d2, hd2, rx2⟩ := rra.getV hx2
          rw [List.getElem?_map, Option.map_eq_some_iff] at hd1 hd2
          obtain ⟨w1, hw1, rfl⟩ := hd1
          obtain ⟨w2, hw2, rfl⟩ := hd2
          cases rep_W rx1
          cases rep_W rx2
          refine ⟨T0, _, rfl, SqT.of upd_same, rfl, _, _, rfl, _, _, rfl, rfl, rfl, ?_⟩
          refine ⟨_, rfl, ka, kdx, _, rfl, (s57.trans s9) _ _ hka, rfl, _, rfl, _, rfl, _, w1, w2, rfl, ht (dW (wplus w1 w2)) ?_ _ _ (Same.refl _) rfl⟩
          have h3 : (r.zip (M.st.map (wtimes (wdot r M.en))))[m]? = some (w1, w2) := by rw [List.getElem?_zip_eq_some]; exact ⟨hw1, hw2⟩
          rw [h3] <;> rfl
        intro H8 s8 hl8
        have hlen : (r.zip (M.st.map (wtimes (wdot r M.en)))).length = r.length := by rw [List.length_zip, List.length_map]; omega
        have hl8' : LstAt H8 D1 ((r.zip (M.st.map (wtimes (wdot r M.en)))).map fun p => dW (wplus p.1 p.2)) := by
          rw [← fm_map, hlen]
          exact hl8
        have s58 := s57.trans s8
        -- lines.append(tuple(both) + noughts(kind, 1))
        have e7 := (hlq.same s6).same (s7.trans s8)
        refine ⟨_, rfl, tyL e7, _, rfl, r_tupL hl8' fun v9 H9 s9 h9 => ?_⟩
        refine ⟨_, rfl, _, 1, rfl, hk.same (s58.trans s9), by decide, fun vA HA sA hA => ?_⟩
        refine r_catT (h9.same sA) hA (by simp only [List.length_map, List.length_replicate, hlen]; exact small (by omega)) fun vB HB sB hB => ?_
        refine r_app (d := dRow (closeRow M r)) (((e7.same s9).same sA).same sB) ?_ (by rw [List.length_map, List.length_take]; exact small1000 (by omega)) fun HC kC' tC' oC hlC => ?_
        · show Rep HB (D.t _) vB
          unfold closeRow
          rw [List.map_append, List.map_map]
          exact hB
        refine ⟨_, _, _, rfl, kC' H hq (((s58.trans s9).trans sA).trans sB), ?_, ?_⟩
        · obtain ⟨vp, ep, rp⟩ := ((((hlp.same s6).same (s7.trans s8)).same s9).same sA).same sB
          exact ⟨vp, by rw [oC p hpq]; exact ep, rp.up tC'⟩
        · rw [List.take_add_one, hr1, List.map_append]
          exact hlC
      · rintro σ H5 ⟨y5, y6, y7, rfl, s5, hlp, hlq⟩
        rw [l1, List.take_length] at hlq
        -- tables.append(tuple(lines + [noughts(kind, rooms(machine) + 1)]))
        refine ⟨_, rfl, tyL hlp, _, rfl, _, rfl, _, rfl, a, M, rfl, ha.same s5, _, _, rfl, rfl, ?_⟩
        refine ⟨_, M.st.length + 1, by rw [Int.natCast_add] <;> rfl, hk.same s5, by omega, fun v6 H6 s6 h6 => ?_⟩
        refine r_lst (Reps.cons h6 Reps.nil) (small (by simp)) fun p7 H7 s7 hp7 hl7 => ?_
        refine r_catL ((hlq.same s6).same s7) hl7 (by simp only [List.length_map, List.length_cons, List.length_nil]; exact small (by omega)) fun p8 H8 s8 hp8 hl8 => ?_
        refine r_tupL hl8 fun v9 H9 s9 h9 => ?_
        refine r_app (d := dTab (closeTab M t1)) ((((hlp.same s6).same s7).same s8).same s9) ?_ (by rw [List.length_map, List.length_take]; exact small1000 (by omega)) fun HA kA tA _ hlA => ?_
        · show Rep H9 (D.t _) v9
          unfold closeTab
          rw [List.map_append, List.map_map]
          exact h9
        refine ⟨_, _, _, _, _, rfl, kA H hp ((((s5.trans s6).trans s7).trans s8).trans s9), ?_⟩
        rw [List.take_add_one, ht1, List.map_append]
        exact hlA
    · rintro σ H3 ⟨y3, y4, y5, y6, y7, rfl, s3, hl3⟩
      refine ⟨_, rfl, r_ixS 0 ha s3 rfl fun u0 h0 => ?_⟩
      refine ⟨_, rfl, r_ixS 1 ha s3 rfl fun u1 h1 => ?_⟩
      refine ⟨_, rfl, ka, kdx, _, rfl, s3 _ _ hka, rfl, _, rfl, ?_⟩
      refine r_tup (Reps.cons (d := dW (some 0)) rfl Reps.nil) (small (by simp)) fun v4 H4 s4 h4 => ?_
      refine r_catT ((h1.same s3).same s4) h4 (by simp only [List.length_map, List.length_cons, List.length_nil]; exact small (by omega)) fun v5 H5 s5 h5 => ?_
      refine ⟨_, rfl, r_tupL ((hl3.same s4).same s5) fun v6 H6 s6 h6 => ?_⟩
      have s36 := ((s3.trans s4).trans s5).trans s6
      refine ⟨_, rfl, r_ixS 3 ha s36 rfl fun u7 h7 => ?_⟩
      refine ⟨_, rfl, ka, kdx, _, rfl, s36 _ _ hka, rfl, _, rfl, ?_⟩
      refine r_tup (Reps.cons (d := dW (some 0)) rfl Reps.nil) (small (by simp)) fun v8 H8 s8 h8 => ?_
      refine r_catT ((h7.same s36).same s8) h8 (by simp only [List.length_map, List.length_cons, List.length_nil, wM.ends]; exact small (by omega)) fun v9 H9 s9 h9 => ?_
      have s69 := s8.trans s9
      refine r_tup (Reps.cons (h0.same (s36.trans s69)) (Reps.cons ((h5.same s6).same s69) (Reps.cons (h6.same s69) (Reps.cons h9 Reps.nil)))) (small (by simp)) fun vA HA sA hA => k hd hle vA HA ((s36.trans s69).trans sA) ?_
      have e3 : dMach (mClose M) = D.t [D.a (.str M.ls), D.t (M.st.map dW ++ [dW (some 0)]), D.t ((M.tabs.take va.length).map fun t => dTab (closeTab M t)), D.t (M.en.map dW ++ [dW (some 0)])] := by
        rw [List.take_of_length_le (by omega)]
        simp only [dMach, mClose, dRow, dTabs, List.map_map, List.map_append]
        rfl
      rw [e3]
      exact hA
end
end L2.Ww
set_option Elab.async false
set_option linter.all false
set_option maxRecDepth 100000
set_option maxHeartbeats 4000000
/-! Machines built: single. -/
namespace L2.Ww
open PySem PySem.Spec PyProof.Rows
def sLine (word : Str) (l i : Nat) : List Wt := if word.cps.toList[i]? = some l then (List.replicate (word.length + 1) none).set (i + 1) (some 0) else List.replicate (word.length + 1) none
def mSingle (ls word : Str) : Mach := ⟨ls, some 0 :: List.replicate word.length none, ls.cps.toList.map fun l => (List.range (word.length + 1)).map (sLine word l), List.replicate word.length none ++ [some 0]⟩
def spWordOk : Sp := fun vs H Q _ => ∃ ls word : Str, vs = [.str ls, .str word] ∧ (∀ c ∈ word.cps.toList, c ∈ ls.cps.toList) ∧ Q .non H
def spSingle (K : PySem.W.Frag) : Sp := fun vs H Q _ => ∃ k, ∃ ls word : Str, vs = [k, .str ls, .str word, .int 0] ∧ CostsAt K H k ∧ (∀ c ∈ word.cps.toList, c ∈ ls.cps.toList) ∧ word.length ≤ 3 ∧ ls.length ≤ 3 ∧ Gives H (dMach (mSingle ls word)) Q
theorem one_sign {word : Str} {i l : Nat} (hi : i ≤ word.length) : (V.str (cutS word (some (i : Int)) (some ((i : Int) + 1))) = V.str ⟨#[l]⟩) ↔ word.cps.toList[i]? = some l := by
  have e1 : HT.sIx word.length 0 (some (i : Int)) = i := by rw [HT.sIx_nat]; omega
  have e2 : HT.sIx word.length word.length (some ((i : Int) + 1)) = min (i + 1) word.length := by
    have := HT.sIx_nat word.length word.length (i + 1)
    rw [Int.natCast_add] at this
    exact this
  have hl : word.length = word.cps.toList.length := TL.len_tl word
  unfold cutS
  rw [e1, e2]
  constructor
  · intro h
    have h2 := congrArg (fun v => match v with | V.str z => z.cps.toList | _ => []) h
    have h3 : (word.cps.toList.drop i).take (min (i + 1) word.length - i) = [l] := h2
    have h4 := congrArg (fun z => z[0]?) h3
    simp only [List.getElem?_cons_zero] at h4
    rw [List.getElem?_take] at h4
    split at h4
    · rw [List.getElem?_drop, Nat.add_zero] at h4
      exact h4
    · cases h4
  · intro h
    obtain ⟨h5, h6⟩ := List.getElem?_eq_some_iff.mp h
    have h7 : min (i + 1) word.length - i = 1 := by omega
    rw [h7, List.drop_eq_getElem_cons h5, h6] <;> rfl
@[irreducible] def qIsi (K : PySem.W.Frag) : List V → Hp → VK → Prop := rIsi K
theorem call_isiQ (K : PySem.W.Frag) {X : Cx} (hK : X.K = K := by rfl) : CallR X (.builtin "isinstance") (qIsi K) := by unfold qIsi; exact hK ▸ call_isi
theorem isi_str {K : PySem.W.Frag} {H : Hp} {Q : VK} {x : Str} (k : Q (.bl true) H) : qIsi K [.str x, .ty "str"] H Q := by
  unfold qIsi
  exact ⟨_, _, _, _, true, rfl, .ty "str", .base (.str x), kit_ty (by decide +kernel), k⟩
section
variable {P : Program} {w : World} {K : PySem.W.Frag} {mg : Str → Option Value} {base : Heap}
abbrev s_check_word : Stmt := top 24
theorem sc_check_word : FnScope ["letters", "word", "letter"] ["letters", "word"] (defScope s_check_word) := ⟨rfl, rfl, rfl, by decide +kernel, rfl, by decide +kernel, by decide +kernel⟩
theorem ok_check_word (T : Txt w K mg) : Cal P w K mg base CX0 1 "check_word" spWordOk := by
  refine cal_ok T.d_check_word (fun _ _ _ _ _ _ us hl => match us, hl with | [_, _], _ => rfl) sc_check_word (fun vs H Q E h => ?_) (fun cdv A outer s f H vs Q E hr h => ?_)
  · obtain ⟨_, _, rfl, _⟩ := h; rfl
  · obtain ⟨ls, word, rfl, hw, k⟩ := h
    refine ⟨_, PSs.nox (pss_cons (ps_if (pt_not (pt_val (pe_callB (call_isiQ K) (by rfl) T.f_isinstance (by decide +kernel) (pa_cons (pv 1) (pa_cons (pe_bltn (v := .ty "str") rfl T.f_str (by decide +kernel) rfl) pa_nil))))) (pss_one ps_never) pss_nil)
      (pss_one (ps_for PassesOwn.never rfl (pi_str (pv 1)) (pg_name (i := 2) sc_check_word.nd rfl (Or.inl rfl))
      (pss_one (ps_if (pt_cmpR op_notIn_sign (pv 2) (pv 0) (by rfl)) (pss_one ps_never) pss_nil))))), ?_⟩
    refine ⟨_, rfl, isi_str ⟨_, rfl, iteF ?_⟩⟩
    refine ⟨_, rfl, _, rfl, for_it (walk_str (z := word)) (fun i σ H2 => ∃ y, σ = [some (.str ls), some (.str word), y] ∧ H2 = H) ⟨none, rfl, rfl⟩ (fun _ _ _ _ _ => trivial) ?_ ?_⟩
    · rintro i x σ H2 H3 hi ⟨y, rfl, rfl⟩ ⟨rfl, c, hc, rfl⟩
      refine ⟨_, rfl, _, rfl, c, ls, rfl, rfl, _, rfl, ?_⟩
      have hm : c ∈ ls.cps.toList := hw c (List.mem_of_getElem? (by rw [Array.getElem?_toList]; exact hc))
      rw [decide_eq_true hm]
      exact iteF ⟨_, rfl, rfl⟩
    · rintro σ H2 ⟨y, rfl, rfl⟩
      exact k
abbrev s_single : Stmt := top 55
theorem sc_single : FnScope ["kind", "letters", "word", "by", "tables", "letter", "lines", "at", "line", "start"] ["kind", "letters", "word", "by"] (defScope s_single) := ⟨rfl, rfl, rfl, by decide +kernel, rfl, by decide +kernel, by decide +kernel⟩
theorem ok_single (T : Txt w K mg) : Cal P w K mg base CX0 3 "single" (spSingle K) := by
  refine cal_ok T.d_single (fun _ _ _ _ _ _ us hl => match us, hl with | [_, _, _, _], _ => rfl) sc_single (fun vs H Q E h => ?_) (fun cdv A outer s f H vs Q E hr h => ?_)
  · obtain ⟨_, _, _, rfl, _⟩ := h; rfl
  · obtain ⟨kd, ls, word, rfl, hk, hw, hl3, hls, k⟩ := h
    refine ⟨_, PSs.nox (pss_cons (ps_expr (pe_c0 (ok_check_word T) hr (by decide) rfl (pa_cons (pv 1) (pa_cons (pv 2) pa_nil))))
      (pss_cons (ps_expr (pe_cX (ok_check_rooms T) takes0 hr (by decide) rfl (pa_cons (pe_op op_add (pe_callB call_len_str (by rfl) T.f_len PySem.boot_len (pa_cons (pv 2) pa_nil)) pe_int) pa_nil)))
      (pss_cons (ps_set (i := 4) sc_single.nd rfl (Or.inl rfl) (pe_lstQ pa_nil))
      (pss_cons (ps_for PassesOwn.never rfl (pi_str (pv 1)) (pg_name (i := 5) sc_single.nd rfl (Or.inl rfl))
      (pss_cons (ps_set (i := 6) sc_single.nd rfl (Or.inl rfl) (pe_lstQ pa_nil))
      (pss_cons (ps_for PassesOwn.never rfl (pi_range1 rfl T.f_range (pa_cons (pe_op op_add (pe_callB call_len_str (by rfl) T.f_len PySem.boot_len (pa_cons (pv 2) pa_nil)) pe_int) pa_nil)) (pg_name (i := 7) sc_single.nd rfl (Or.inl rfl))
      (pss_cons (ps_set (i := 8) sc_single.nd rfl (Or.inl rfl) (pe_callTy (call_lstQ K) (by rfl) T.f_list (by decide +kernel) (pa_cons (pe_c0 (ok_noughts T) hr (by decide) rfl (pa_cons (pv 0) (pa_cons (pe_op op_add (pe_callB call_len_str (by rfl) T.f_len PySem.boot_len (pa_cons (pv 2) pa_nil)) pe_int) pa_nil))) pa_nil)))
      (pss_cons (ps_if (pt_cmpR op_eq (pe_slice sl_str (pv 2) (po_some (pv 7)) (po_some (pe_op op_add (pv 7) pe_int))) (pv 5) (nomark _)) (pss_one (ps_asg (pe_m00 (ok_Costs_one T) hr (by decide) (pv 0)) (pg_sub (pv 8) (pe_op op_add (pv 7) pe_int) set_listQ))) pss_nil)
      (pss_one (ps_expr (pe_bm PySem.F.plainAttrs_list PySem.F.slot_list_append PySem.F.type_list_append mt_appQ (pv 6) (pa_cons (pe_callTy (call_tupQ K) (by rfl) T.f_tuple (by decide +kernel) (pa_cons (pv 8) pa_nil)) pa_nil)))))))
      (pss_one (ps_expr (pe_bm PySem.F.plainAttrs_list PySem.F.slot_list_append PySem.F.type_list_append mt_appQ (pv 4) (pa_cons (pe_callTy (call_tupQ K) (by rfl) T.f_tuple (by decide +kernel) (pa_cons (pv 6) pa_nil)) pa_nil)))))))
      (pss_cons (ps_set (i := 9) sc_single.nd rfl (Or.inl rfl) (pe_op (op_catTQ K) (pe_tupQ (pa_cons (pv 3) pa_nil)) (pe_c0 (ok_noughts T) hr (by decide) rfl (pa_cons (pv 0) (pa_cons (pe_callB call_len_str (by rfl) T.f_len PySem.boot_len (pa_cons (pv 2) pa_nil)) pa_nil)))))
      (pss_one (ps_ret (pe_tupQ (pa_cons (pv 1) (pa_cons (pv 9) (pa_cons (pe_callTy (call_tupQ K) (by rfl) T.f_tuple (by decide +kernel) (pa_cons (pv 4) pa_nil)) (pa_cons (pe_op (op_catTQ K) (pe_c0 (ok_noughts T) hr (by decide) rfl (pa_cons (pv 0) (pa_cons (pe_callB call_len_str (by rfl) T.f_len PySem.boot_len (pa_cons (pv 2) pa_nil)) pa_nil))) (pe_tupQ (pa_cons (pe_m00 (ok_Costs_one T) hr (by decide) (pv 0)) pa_nil))) pa_nil)))))))))))), ?_⟩
    have hz : word.length ≤ sizeLine := small (by omega)
    obtain ⟨ka, kdx, rfl, hka⟩ := id hk
    refine ⟨_, rfl, _, rfl, ls, word, rfl, hw, ?_⟩
    refine ⟨_, rfl, _, rfl, hz, _, _, rfl, rfl, word.length + 1, by rw [Int.natCast_add] <;> rfl, fun _ => ?_, fun h => by omega⟩
    refine r_lst Reps.nil (small (by simp)) fun p H1 s1 hp hl => ?_
    have hlen : ls.length = ls.cps.toList.length := TL.len_tl ls
    refine ⟨_, rfl, _, rfl, for_it (walk_str (z := ls)) (fun i σ H2 => ∃ y5 y6 y7 y8, σ = [some (.ref ka), some (.str ls), some (.str word), some (.int 0), some (.ref p), y5, y6, y7, y8, none] ∧ Same H H2 ∧ LstAt H2 p ((ls.cps.toList.take i).map fun l => dTab ((List.range (word.length + 1)).map (sLine word l))))
      ⟨none, none, none, none, rfl, s1, hl⟩ (fun _ _ _ _ _ => trivial) ?_ ?_⟩
    · rintro i x σ H2 H3 hi ⟨y5, y6, y7, y8, rfl, s2, hl2⟩ ⟨rfl, l, hl0, rfl⟩
      have hl1 : ls.cps.toList[i]? = some l := by rw [Array.getElem?_toList]; exact hl0
      refine r_lst Reps.nil (small (by simp)) fun q H4 s34 hq3 hl4 => ?_
      have s4 := s2.trans s34
      have hq := s2.free hq3
      have hpq : p ≠ q := by
        obtain ⟨_, e, _⟩ := hl2
        exact ne_of_none e hq3
      refine ⟨_, rfl, _, rfl, hz, _, _, rfl, rfl, _, rfl, by omega, by omega, for_it (walk_range0 (n := ((word.length : Int) + 1).toNat)) (fun j σ H5 => ∃ y7 y8, σ = [some (.ref ka), some (.str ls), some (.str word), some (.int 0), some (.ref p), some (.str ⟨#[l]⟩), some (.ref q), y7, y8, none] ∧ Same H H5 ∧ LstAt H5 p ((ls.cps.toList.take i).map fun l => dTab ((List.range (word.length + 1)).map (sLine word l))) ∧ LstAt H5 q ((List.range j).map fun i => dRow (sLine word l i)))
        ⟨_, _, rfl, s4, hl2.same s34, hl4⟩ (fun _ _ _ _ _ => trivial) ?_ ?_⟩
      · rintro j z σ Hx H5 hj ⟨y7, y8, rfl, s5, hlp, hlq⟩ ⟨rfl, rfl⟩
        have hj2 : j ≤ word.length := by omega
        -- line = list(noughts(kind, len(word) + 1))
        refine ⟨_, rfl, _, rfl, _, rfl, hz, _, _, rfl, rfl, _, word.length + 1, by rw [Int.natCast_add] <;> rfl, hk.same s5, by omega, fun v6 H6 s6 h6 => ?_⟩
        refine r_lstT h6 fun r H7 s7 hr6 hl7 => ?_
        have s57 := s6.trans s7
        have s7' := s5.trans s57
        have hr5 : H5 r = none := s6.free hr6
        have hrH : H r = none := s5.free hr5
        have hp7 := hlp.same s57
        have hq7 := hlq.same s57
        have hrp : p ≠ r := by
          obtain ⟨_, e, _⟩ := hlp
          exact ne_of_none e hr5
        have hrq : q ≠ r := by
          obtain ⟨_, e, _⟩ := hlq
          exact ne_of_none e hr5
        -- the end of a turn: lines.append(tuple(line))
        have fin : ∀ H8 : Hp, Same H H8 → LstAt H8 p ((ls.cps.toList.take i).map fun l => dTab ((List.range (word.length + 1)).map (sLine word l))) → LstAt H8 q ((List.range j).map fun i => dRow (sLine word l i)) → LstAt H8 r ((sLine word l j).map dW) →
            ∀ Q : VK, (∀ H9, Same H H9 → LstAt H9 p ((ls.cps.toList.take i).map fun l => dTab ((List.range (word.length + 1)).map (sLine word l))) → LstAt H9 q ((List.range (j + 1)).map fun i => dRow (sLine word l i)) → Q .non H9) →
            qTup K [.ref r] H8 fun x H => qApp (.ref q) [x] H Q := fun H8 s8 p8 q8 r8 Q kQ => by
          refine r_tupL r8 fun v9 H9 s9 h9 => ?_
          refine r_app (d := dRow (sLine word l j)) (q8.same s9) h9 (by rw [List.length_map, List.length_range]; exact small1000 (by omega)) fun HA kA tA oA hlA => ?_
          refine kQ HA (kA H hq (s8.trans s9)) ?_ ?_
          · obtain ⟨vp, ep, rp⟩ := p8.same s9
            exact ⟨vp, by rw [oA p hpq]; exact ep, rp.up tA⟩
          · rw [List.range_succ, List.map_append]
            exact hlA
        refine ⟨_, rfl, _, rfl, _, rfl, _, rfl, _, _, rfl, rfl, _, rfl, word, rfl, hz, ?_⟩
        refine ⟨_, rfl, rfl, _, rfl, ?_⟩
        refine ite2 (fun h => ?_) (fun h => ?_)
        · have hs := (one_sign hj2).mp (of_decide_eq_true h)
          have hj3 : j < word.length := by
            have := (List.getElem?_eq_some_iff.mp hs).1
            rw [← TL.len_tl word] at this
            exact this
          refine ⟨_, rfl, ka, kdx, _, rfl, s7' _ _ hka, rfl, _, rfl, _, rfl, _, rfl, _, _, rfl, rfl, ?_⟩
          refine r_setL (j + 1) (d := dW (some 0)) hl7 rfl (by simp only [List.length_map, List.length_replicate]; omega) fun H8 k8 t8 o8 hl8 => ?_
          have p8 : LstAt H8 p ((ls.cps.toList.take i).map fun l => dTab ((List.range (word.length + 1)).map (sLine word l))) := by
            obtain ⟨vp, ep, rp⟩ := hp7
            exact ⟨vp, by rw [o8 p hrp]; exact ep, rp.up t8⟩
          have q8 : LstAt H8 q ((List.range j).map fun i => dRow (sLine word l i)) := by
            obtain ⟨vp, ep, rp⟩ := hq7
            exact ⟨vp, by rw [o8 q hrq]; exact ep, rp.up t8⟩
          refine ⟨_, rfl, tyL q8, _, rfl, fin H8 (k8 H hrH s7') p8 q8 ?_ _ fun H9 s9 p9 q9 => ⟨_, _, rfl, s9, p9, q9⟩⟩
          have e : sLine word l j = (List.replicate (word.length + 1) none).set (j + 1) (some 0) := if_pos hs
          rw [e, List.map_set]
          exact hl8
        · have hs : ¬ word.cps.toList[j]? = some l := fun z => h (decide_eq_true ((one_sign hj2).mpr z))
          refine ⟨_, rfl, tyL hq7, _, rfl, fin H7 s7' hp7 hq7 ?_ _ fun H9 s9 p9 q9 => ⟨_, _, rfl, s9, p9, q9⟩⟩
          have e : sLine word l j = List.replicate (word.length + 1) none := if_neg hs
          rw [e]
          exact hl7
      · rintro σ H5 ⟨y7, y8, rfl, s5, hlp, hlq⟩
        rw [show ((word.length : Int) + 1).toNat = word.length + 1 by omega] at hlq
        refine ⟨_, rfl, tyL hlp, _, rfl, r_tupL hlq fun v9 H9 s9 h9 => ?_⟩
        refine r_app (d := dTab ((List.range (word.length + 1)).map (sLine word l))) (hlp.same s9) ?_ (by rw [List.length_map, List.length_take]; exact small1000 (by omega)) fun HA kA tA _ hlA => ?_
        · show Rep H9 (D.t _) v9
          rw [List.map_map]
          exact h9
        refine ⟨_, _, _, _, rfl, kA H hp (s5.trans s9), ?_⟩
        rw [List.take_add_one, hl1, List.map_append]
        exact hlA
    · rintro σ H2 ⟨y5, y6, y7, y8, rfl, s2, hl2⟩
      refine ⟨_, rfl, ?_⟩
      refine r_tup (Reps.cons (d := dW (some 0)) rfl Reps.nil) (small (by simp)) fun v3 H3 s3 h3 => ?_
      refine ⟨_, rfl, _, rfl, _, rfl, hz, _, word.length, rfl, hk.same (s2.trans s3), by omega, fun v4 H4 s4 h4 => ?_⟩
      refine r_catT (h3.same s4) h4 (by simp only [List.length_map, List.length_cons, List.length_nil, List.length_replicate]; exact small (by omega)) fun v5 H5 s5 h5 => ?_
      refine ⟨_, rfl, _, rfl, _, rfl, r_tupL (((hl2.same s3).same s4).same s5) fun v6 H6 s6 h6 => ?_⟩
      have s26 := (((s2.trans s3).trans s4).trans s5).trans s6
      refine ⟨_, rfl, _, rfl, _, rfl, hz, _, word.length, rfl, hk.same s26, by omega, fun v7 H7 s7 h7 => ?_⟩
      refine ⟨_, rfl, ka, kdx, _, rfl, (s26.trans s7) _ _ hka, rfl, _, rfl, ?_⟩
      refine r_tup (Reps.cons (d := dW (some 0)) rfl Reps.nil) (small (by simp)) fun v8 H8 s8 h8 => ?_
      refine r_catT (h7.same s8) h8 (by simp only [List.length_map, List.length_cons, List.length_nil, List.length_replicate]; exact small (by omega)) fun v9 H9 s9 h9 => ?_
      have s69 := (s7.trans s8).trans s9
      refine r_tup (Reps.cons (d := .a (.str ls)) rfl (Reps.cons ((h5.same s6).same s69) (Reps.cons (h6.same s69) (Reps.cons h9 Reps.nil)))) (small (by simp)) fun vA HA sA hA => k vA HA ((s26.trans s69).trans sA) ?_
      have e3 : dMach (mSingle ls word) = D.t [D.a (.str ls), D.t ([dW (some 0)] ++ (List.replicate word.length none).map dW), D.t ((ls.cps.toList.take ls.cps.size).map fun l => dTab ((List.range (word.length + 1)).map (sLine word l))), D.t ((List.replicate word.length none).map dW ++ [dW (some 0)])] := by
        rw [List.take_of_length_le (by rw [Array.length_toList]; exact Nat.le_refl _)]
        simp only [dMach, mSingle, dRow, dTabs, List.map_map, List.map_append]
        rfl
      rw [e3]
      exact hA
end
end L2.Ww
set_option Elab.async false
set_option linter.all false
set_option maxRecDepth 100000
set_option maxHeartbeats 4000000
/-! Rules that the layer lacks: zip of a text and a tuple. -/
namespace L2.Ww
open PySem PySem.Spec PyProof.Rows
/-- zip of a text and the tuple at b -/
def ItzS (K : PySem.W.Frag) (x : Str) (b : Addr) : It :=
  ⟨fun i H => i < x.cps.size ∧ ∃ (ys : List V) (y : V), SqT K H b ys ∧ ys[i]? = some y,
    fun i H v H' => ∃ T c y, v = .ref T ∧ H T = none ∧ H' = upd H T (.tup [.str ⟨#[c]⟩, y]) ∧ x.cps[i]? = some c ∧ ∀ ys, SqT K H b ys → ys[i]? = some y,
    fun i H => i ≤ x.cps.size ∧ ∃ ys : List V, SqT K H b ys ∧ i ≤ ys.length ∧ (i = x.cps.size ∨ i = ys.length)⟩
theorem turn_zipS {P : Program} {w : World} {K : PySem.W.Frag} {elts : List Expr} {kk : Nat} {tpos : Pos} {x : Str} {t : Tok} {b z TI TO i1 i2 : Addr} (S : ZipSep2 z TI TO i1 i2 [i1] [i2, b]) :
    Turn P w K (.Tuple elts kk tpos) (ItzS K x b) [z, TI, TO, i1, i2] z (fun i h => IsZip h z TI TO .none ∧ IsTupOf2 h TI (.ref i1) (.ref i2) ∧ (∃ x y, IsTupOf2 h TO x y) ∧ h.IsStrIter i1 (strIterType x) x t i ∧ h.IsTupleIter i2 b i) where
  mem := by simp
  obj := fun i h st c hc => by
    obtain ⟨hz, hTI, ⟨x, y, hTO⟩, ⟨o1, e1, _, d1⟩, ⟨o2, e2, _, d2⟩⟩ := st
    have e' : c = z ∨ c = TI ∨ c = TO ∨ c = i1 ∨ c = i2 := by simpa using hc
    rcases e' with q | q | q | q | q
    · rw [q]; exact ⟨_, hz, fun v q => nomatch q⟩
    · rw [q]; exact ⟨_, hTI, fun v q => nomatch q⟩
    · rw [q]; exact ⟨_, hTO, fun v q => nomatch q⟩
    · rw [q]; exact ⟨o1, e1, fun v q => by rw [d1] at q; cases q⟩
    · rw [q]; exact ⟨o2, e2, fun v q => by rw [d2] at q; cases q⟩
  keep := fun i h h' st k => by
    obtain ⟨hz, hTI, ⟨x, y, hTO⟩, ⟨o1, e1, r1⟩, h2⟩ := st
    exact ⟨k z (by simp) _ hz, k TI (by simp) _ hTI, ⟨x, y, k TO (by simp) _ hTO⟩, ⟨o1, k i1 (by simp) _ e1, r1⟩, h2.at fun o q => k i2 (by simp) o q⟩
  item := by
    intro X hP hw hK hc i pins s σ H E I hf st hg
    subst hP hw hK
    obtain ⟨hz, hTI, ⟨x0, y0, hTO⟩, h1, h2⟩ := st
    obtain ⟨hlt, ys, y, hqy, hy⟩ := hg
    obtain ⟨its2, rv2, p2, _⟩ := I.tuple hqy
    obtain ⟨u2, hu2, ru2⟩ := rv2.get hy
    have hzl : z < s.heap.objs.size := Heap.lt_size hz
    have hl2 : i < its2.toArray.size := by
      have := (List.getElem?_eq_some_iff.mp hu2).1
      simpa using this
    have hh : X.A.in1.handled = none := I.ok.hd hc
    have nb : b ≠ i2 := fun e => by
      obtain ⟨o, ho, hco, _⟩ := p2
      obtain ⟨o', ho', hco', _⟩ := h2
      rw [e, ho'] at ho
      cases ho
      rw [hco] at hco'
      exact absurd (Value.type.inj hco') (by decide +kernel)
    refine wpAny_pyNext_zipD2_item S (Draws.text hh i1 x t) (Draws.tuple hh i2 b nb its2.toArray) hz hTI hTO h1 ⟨h2, p2⟩ hlt hl2 fun x1 x2 h' tk y1 y2 z' TO' h1' h2' hT hsz hk => ?_
    obtain ⟨c, uu, hcx, rfl⟩ := y1
    have e2 : x2 = u2 := by
      have e3 : its2.toArray[i]? = some u2 := by simpa using hu2
      have y2' : its2.toArray[i]? = some x2 := y2
      rw [e3] at y2'
      exact (Option.some.inj y2').symm
    subst e2
    refine ⟨_, rfl, wpAny_letOwnedTupleGo_zip (s := { s with heap := h', toks := tk }) z' fun h'' z'' sb => ?_⟩
    have hT2 : h''.get? s.heap.objs.size = some { cls := .type "tuple", data := .seq #[.str ⟨#[c]⟩ uu, x2] } := (sb.2 _ (Nat.ne_of_gt hzl)).trans hT
    have new : ObjOk X.prog X.w (upd H s.heap.objs.size (.tup [.str ⟨#[c]⟩, y])) h'' s.heap.objs.size (.tup [.str ⟨#[c]⟩, y]) :=
      ⟨by show 2 ≤ sizeLine; decide, [.str ⟨#[c]⟩ uu, x2], .cons ⟨uu, rfl⟩ (.cons ru2 .nil), ⟨_, hT2, rfl, _, rfl⟩⟩
    have I1 : Inv X pins σ (upd H s.heap.objs.size (.tup [.str ⟨#[c]⟩, y])) { s with heap := h'', toks := tk } :=
      I.turnedNew (t' := tk) (ch := [z, TI, TO, i1, i2]) (fun c o hb q => (sb.2 c (fun q' => hb (by simp [q']))).trans (hk c o (fun q' => hb (by simp [q'])) (fun q' => hb (by simp [q'])) (fun q' => hb (by simp [q'])) (fun q' => hb (by simp [q'])) q)) hf (Nat.le_refl _) new
    refine ⟨.ref s.heap.objs.size, _, I1, rfl, ⟨_, c, y, rfl, I.hok.fresh (Nat.le_refl _), rfl, hcx, fun l hl => by rw [I.tuple_inj hl hqy]; exact hy⟩, ⟨z'', ?_, ⟨.str ⟨#[c]⟩ uu, x2, ?_⟩, ?_, ?_⟩, fun c hcm => ?_⟩
    · exact (sb.2 _ S.TIz).trans (hk _ _ S.TIz S.TITO S.TIi1 S.TIi2 hTI)
    · exact (sb.2 _ S.TOz).trans TO'
    · obtain ⟨o1, e1, r1⟩ := h1'
      exact ⟨o1, (sb.2 _ fun e => S.zf1 (by simp [e])).trans e1, r1⟩
    · exact h2'.1.at fun o q => (sb.2 _ fun e => S.zf2 (by simp [e])).trans q
    · have hlt : c < s.heap.objs.size := by
        have e' : c = z ∨ c = TI ∨ c = TO ∨ c = i1 ∨ c = i2 := by simpa using hcm
        rcases e' with q | q | q | q | q
        · rw [q]; exact hzl
        · rw [q]; exact Heap.lt_size hTI
        · rw [q]; exact Heap.lt_size hTO
        · rw [q]; obtain ⟨_, e1, _⟩ := h1; exact Heap.lt_size e1
        · rw [q]; obtain ⟨_, e2, _⟩ := h2; exact Heap.lt_size e2
      rw [upd_ne (Nat.ne_of_lt hlt)]
      exact (hf c hcm).1
  done := by
    intro X hP hw hK hc i pins s σ H E I hf st hg
    subst hP hw hK
    obtain ⟨hz, hTI, ⟨x0, y0, hTO⟩, h1, h2⟩ := st
    obtain ⟨hle, ys, hqy, hle2, hend⟩ := hg
    obtain ⟨its2, rv2, p2, _⟩ := I.tuple hqy
    have l2 := rv2.length
    have hh : X.A.in1.handled = none := I.ok.hd hc
    have nb : b ≠ i2 := fun e => by
      obtain ⟨o, ho, hco, _⟩ := p2
      obtain ⟨o', ho', hco', _⟩ := h2
      rw [e, ho'] at ho
      cases ho
      rw [hco] at hco'
      exact absurd (Value.type.inj hco') (by decide +kernel)
    refine wpAny_pyNext_zipD2_end S (Draws.text hh i1 x t) (Draws.tuple hh i2 b nb its2.toArray) hz hTI hTO h1 ⟨h2, p2⟩ hle (by simpa using (by omega : i ≤ its2.length)) (hend.imp id fun e => by simpa using (by omega : i = its2.length)) fun h' tk hk => ⟨rfl, I.turnedL (t' := tk) (ch := [z, TI, TO, i1, i2]) (fun c o hb q =>
      hk c o (fun q' => hb (by simp [q'])) (fun q' => hb (by simp [q'])) (fun q' => hb (by simp [q'])) (fun q' => hb (by simp [q'])) q) hf⟩
  self := fun A i s Q E st h => wpAny_pyIter_zip st.1 h
def iZipS (K : PySem.W.Frag) (ta : TA) : TI := fun σ H R => ta σ H fun vs H1 => ∃ x b ys, vs = [.str x, .ref b] ∧ SqT K H1 b ys ∧ R (ItzS K x b) H1
theorem pi_zipST {X : Cx} {e e2 : Expr} {ta : TA} {p pos tpos : Pos} {elts : List Expr} {kk : Nat} (hg : Gl X "zip") (hm : X.mg "zip" = none) (ha : PA X [e, e2] ta)
    (hs : starEach [e, e2] X.env = (false, eval e X.env) :: starEach [e2] X.env := by rfl) (hpl : (backTo pos (starEach [e2] X.env)).any (·.1) = false := by rfl) :
    PI X (.Tuple elts kk tpos) (.Call (.Name "zip" p) [e, e2] [] pos) (iZipS X.K ta) := by
  refine ⟨fun pins s σ H R I h => ?_⟩
  refine Call_ (ld_blt I hg hm PyProof.Rows.boot_zip (PyProof.Rows.callWith_type1 (thn (ha.run pos pins s σ H _ I h) fun us s1 ⟨vs, H1, I1, r1, q1⟩ => ?_) hs hpl))
  obtain ⟨x, b, ys, ex, hqy, q⟩ := q1
  subst ex
  cases r1 with
  | cons r rr =>
    cases rr with
    | cons r' rr =>
      cases rr
      obtain ⟨t, rfl⟩ := r
      cases r'
      have fresh5 : ∀ c, c ∈ [s1.heap.objs.size + 4, s1.heap.objs.size + 2, s1.heap.objs.size + 3, s1.heap.objs.size, s1.heap.objs.size + 1] → FpOk X pins H1 c := fun c hcm => by
        have e' : c = s1.heap.objs.size + 4 ∨ c = s1.heap.objs.size + 2 ∨ c = s1.heap.objs.size + 3 ∨ c = s1.heap.objs.size ∨ c = s1.heap.objs.size + 1 := by simpa using hcm
        have hle : s1.heap.objs.size ≤ c := by
          rcases e' with z | z | z | z | z
          · rw [z]; exact Nat.le_add_right _ _
          · rw [z]; exact Nat.le_add_right _ _
          · rw [z]; exact Nat.le_add_right _ _
          · rw [z]; exact Nat.le_refl _
          · rw [z]; exact Nat.le_add_right _ _
        exact I1.fpOk hle (I1.hok.fresh hle)
      obtain ⟨its2, rv2, p2, _⟩ := I1.tuple hqy
      have hb : b < s1.heap.objs.size := p2.lt
      refine zip_begins2 (begins_text x t) (begins_tuple b its2.toArray) trivial p2 fun h' hz hTI hTO h1 h2 hsz hk => wpAny_pyIter_zip hz ?_
      have I2 : Inv X pins σ H1 { s1 with heap := h' } := I1.kept (t' := s1.toks) hk
      have S : ZipSep2 (s1.heap.objs.size + 4) (s1.heap.objs.size + 2) (s1.heap.objs.size + 3) s1.heap.objs.size (s1.heap.objs.size + 1) [s1.heap.objs.size] [s1.heap.objs.size + 1, b] :=
        zip_sep2 (fp1 := []) (fp2 := [b]) (fun c hc => nomatch hc) (fun c hc => by rw [List.mem_singleton.mp hc]; exact hb)
      exact ⟨s1.heap.objs.size + 4, [s1.heap.objs.size + 4, s1.heap.objs.size + 2, s1.heap.objs.size + 3, s1.heap.objs.size, s1.heap.objs.size + 1], _, _, H1, rfl, I2, turn_zipS (t := t) S, ⟨hz, hTI, ⟨_, _, hTO⟩, ⟨_, h1, rfl, rfl⟩, ⟨_, h2, rfl, rfl⟩⟩, fresh5, q⟩
theorem walk_zipS {K : PySem.W.Frag} {x : Str} {b : Addr} {ys : List V} {n : Nat} (hn : n = min x.cps.size ys.length) : Walk (ItzS K x b) n (fun H => SqT K H b ys) (YPair (fun i => (x.cps[i]?).map fun c => .str ⟨#[c]⟩) (fun i => ys[i]?)) := by
  subst hn
  refine ⟨fun i _ hi q => ?_, fun _ q => ⟨by omega, ys, q, by omega, by omega⟩, fun i H v H' _ q y => ?_⟩
  · have h2 : i < ys.length := by omega
    exact ⟨by omega, ys, ys[i], q, by simp [h2]⟩
  · obtain ⟨T, c, z, h1, h2, h3, h4, h5⟩ := y
    exact ⟨T, _, z, h1, h2, h3, by show Option.map _ x.cps[i]? = _; rw [h4] <;> rfl, h5 ys q⟩
end L2.Ww
set_option Elab.async false
set_option linter.all false
set_option maxRecDepth 100000
set_option maxHeartbeats 4000000
/-! The cheapest word: steps, reach. -/
namespace L2.Ww
open PySem PySem.Spec PyProof.Rows
def dN (n : Nat) : D := .a (.int (n : Int))
abbrev dNs (us : List Nat) : List D := us.map dN
theorem lst_ns {H : Hp} {p : Addr} {us : List Nat} (h : LstAt H p (dNs us)) : H p = some (.lst (us.map fun (n : Nat) => V.int (n : Int))) := by
  obtain ⟨vs, e, r⟩ := h
  have e2 : dNs us = (us.map fun (n : Nat) => V.int (n : Int)).map D.a := by rw [List.map_map] <;> rfl
  rw [e2] at r
  rw [Reps.atoms.mp r] at e
  exact e
theorem inV_ns (i : Nat) (us : List Nat) : inV (.int (i : Int)) (us.map fun (n : Nat) => V.int (n : Int)) = decide (i ∈ us) := by
  unfold inV
  rw [List.any_map]
  rw [Bool.eq_iff_iff, List.any_eq_true, decide_eq_true_eq]
  constructor
  · rintro ⟨x, hx, e⟩
    have e2 : ((x : Int) == (i : Int)) = true := e
    have e3 : x = i := by
      have := eq_of_beq e2
      omega
    rw [← e3]; exact hx
  · intro h
    exact ⟨i, h, beq_self_eq_true (i : Int)⟩
theorem flat_ns (us : List Nat) : (us.map fun (n : Nat) => V.int (n : Int)).all flatV = true := by
  rw [List.all_eq_true]
  intro x hx
  obtain ⟨n, _, rfl⟩ := List.mem_map.mp hx
  rfl
theorem r_in {K : PySem.W.Frag} {H : Hp} {Q : VK} {p : Addr} {us : List Nat} {i : Nat} (h : LstAt H p (dNs us)) (k : Q (.bl (decide (i ∈ us))) H) : qIn K false (.int (i : Int)) (.ref p) H Q := by
  unfold qIn
  exact ⟨p, _, rfl, .inl (SqL.of (lst_ns h)), rfl, flat_ns us, by rw [inV_ns]; exact k⟩
theorem r_notIn {K : PySem.W.Frag} {H : Hp} {Q : VK} {p : Addr} {us : List Nat} {i : Nat} (h : LstAt H p (dNs us)) (k : Q (.bl (!decide (i ∈ us))) H) : qIn K true (.int (i : Int)) (.ref p) H Q := by
  unfold qIn
  exact ⟨p, _, rfl, .inl (SqL.of (lst_ns h)), rfl, flat_ns us, by rw [inV_ns]; exact k⟩
theorem len_flat {α β : Type} {l : List α} {f : α → List β} {B : Nat} (h : ∀ x ∈ l, (f x).length ≤ B) : (l.flatMap f).length ≤ l.length * B := by
  induction l with
  | nil => simp
  | cons x l ih =>
    rw [List.flatMap_cons, List.length_append, List.length_cons, Nat.succ_mul]
    have h1 := h x List.mem_cons_self
    have h2 := ih fun y hy => h y (List.mem_cons_of_mem _ hy)
    omega
/-! ### steps -/
abbrev Step := Nat × Nat × Int × Nat
def dStep (s : Step) : D := .t [dN s.1, dN s.2.1, .a (.int s.2.2.1), .a (.str ⟨#[s.2.2.2]⟩)]
def entry (t : List (List Wt)) (i j : Nat) : Wt := ((t[i]?).bind fun r => r[j]?).getD none
def rowSteps (l : Nat) (t : List (List Wt)) (us : List Nat) (i : Nat) : List Step := us.filterMap fun j => (entry t i j).map fun c => (i, j, c, l)
def tabSteps (us : List Nat) (p : Nat × List (List Wt)) : List Step := us.flatMap (rowSteps p.1 p.2 us)
def stepsOf (M : Mach) (us : List Nat) : List Step := (M.ls.cps.toList.zip M.tabs).flatMap (tabSteps us)
theorem rowSteps_len (l : Nat) (t : List (List Wt)) (us : List Nat) (i : Nat) : (rowSteps l t us i).length ≤ us.length := List.length_filterMap_le _ _
theorem tabSteps_len (us : List Nat) (p : Nat × List (List Wt)) : (tabSteps us p).length ≤ us.length * us.length := len_flat fun x _ => rowSteps_len _ _ _ _
def spStepsOf : Sp := fun vs H Q _ => ∃ a p M us, vs = [a, .ref p] ∧ Rep H (dMach M) a ∧ M.WF ∧ LstAt H p (dNs us) ∧ (∀ u ∈ us, u < M.st.length) ∧ us.length ≤ 20 ∧ GivesL H ((stepsOf M us).map dStep) Q
section
variable {P : Program} {w : World} {K : PySem.W.Frag} {mg : Str → Option Value} {base : Heap}
abbrev s_steps_of : Stmt := top 57
theorem sc_steps_of : FnScope ["machine", "some", "found", "letter", "table", "one", "other"] ["machine", "some"] (defScope s_steps_of) := ⟨rfl, rfl, rfl, by decide +kernel, rfl, by decide +kernel, by decide +kernel⟩
theorem ok_steps_of (T : Txt w K mg) : Cal P w K mg base CX0 1 "steps_of" spStepsOf := by
  refine cal_ok T.d_steps_of (fun _ _ _ _ _ _ us hl => match us, hl with | [_, _], _ => rfl) sc_steps_of (fun vs H Q E h => ?_) (fun cdv A outer s f H vs Q E hr h => ?_)
  · obtain ⟨_, _, _, _, rfl, _⟩ := h; rfl
  · obtain ⟨a, ps, M, us, rfl, ha, wM, hs, hu, hul, k⟩ := h
    refine ⟨_, PSs.nox (pss_cons (ps_set (i := 2) sc_steps_of.nd rfl (Or.inl rfl) (pe_lstQ pa_nil))
      (pss_cons (ps_for PassesOwn.never rfl (pi_zipST rfl T.f_zip (pa_cons (pe_ix (ix_tupQ K) (pv 0) pe_int (fun _ _ => rfl)) (pa_cons (pe_ix (ix_tupQ K) (pv 0) pe_int (fun _ _ => rfl)) pa_nil))) (pg_tup (n := 2) rfl (pgs_cons (pg_name (i := 3) sc_steps_of.nd rfl (Or.inl rfl)) (pgs_cons (pg_name (i := 4) sc_steps_of.nd rfl (Or.inl rfl)) pgs_nil)))
      (pss_one (ps_for PassesOwn.never rfl (pi_list (pv 1)) (pg_name (i := 5) sc_steps_of.nd rfl (Or.inl rfl))
      (pss_one (ps_for PassesOwn.never rfl (pi_list (pv 1)) (pg_name (i := 6) sc_steps_of.nd rfl (Or.inl rfl))
      (pss_one (ps_if (pt_cmpR op_notN (pe_ix (ix_tupQ K) (pe_ix (ix_tupQ K) (pv 4) (pv 5) (fun _ _ => rfl)) (pv 6) (fun _ _ => rfl)) pe_non (nomark _)) (pss_one (ps_expr (pe_bm PySem.F.plainAttrs_list PySem.F.slot_list_append PySem.F.type_list_append mt_appQ (pv 2) (pa_cons (pe_tupQ (pa_cons (pv 5) (pa_cons (pv 6) (pa_cons (pe_ix (ix_tupQ K) (pe_ix (ix_tupQ K) (pv 4) (pv 5) (fun _ _ => rfl)) (pv 6) (fun _ _ => rfl)) (pa_cons (pv 3) pa_nil))))) pa_nil)))) pss_nil)))))))
      (pss_one (ps_ret (pv 2))))), ?_⟩
    refine r_lst Reps.nil (small (by simp)) fun p H1 s1 hp hl => ?_
    refine ⟨_, rfl, r_ixS 0 ha s1 rfl fun u0 h0 => ?_⟩
    cases h0
    refine ⟨_, rfl, r_ixS 2 ha s1 rfl fun ta hta => ?_⟩
    obtain ⟨qa, va, rfl, hqa, ra⟩ := id hta
    have la : va.length = M.tabs.length := by rw [ra.len, List.length_map]
    have lls : M.ls.cps.toList.length = M.tabs.length := by rw [wM.lt]; exact (TL.len_tl M.ls).symm
    have lt3 : M.tabs.length ≤ 3 := by rw [wM.lt]; exact wM.let3
    have hps := lst_ns hs
    refine ⟨M.ls, qa, va, rfl, SqT.of (s1 _ _ hqa), for_it (walk_zipS (x := M.ls) (ys := va) (n := M.tabs.length) (by rw [← Array.length_toList]; omega)) (fun i σ H2 => ∃ y3 y4 y5 y6, σ = [some a, some (.ref ps), some (.ref p), y3, y4, y5, y6] ∧ Same H H2 ∧ LstAt H2 p ((((M.ls.cps.toList.zip M.tabs).take i).flatMap (tabSteps us)).map dStep))
      ⟨none, none, none, none, rfl, s1, hl⟩ (fun i σ H2 _ ⟨_, _, _, _, _, s2, _⟩ => SqT.of (s2 _ _ hqa)) ?_ ?_⟩
    · rintro i x σ H2 H3 hi ⟨y3, y4, y5, y6, rfl, s2, hl2⟩ ⟨T0, u, v, rfl, hT, rfl, hu1, hv⟩
      obtain ⟨l, hl0, rfl⟩ := Option.map_eq_some_iff.mp (show (M.ls.cps[i]?).map _ = some u from hu1)
      have hl1 : M.ls.cps.toList[i]? = some l := by rw [Array.getElem?_toList]; exact hl0
      obtain ⟨dv, hdv, rv⟩ := ra.getV hv
      rw [List.getElem?_map, Option.map_eq_some_iff] at hdv
      obtain ⟨t1, ht1, rfl⟩ := hdv
      have m1 : t1 ∈ M.tabs := List.mem_of_getElem? ht1
      have n1 := wM.rows t1 m1
      have s3 : Same H (upd H2 T0 (.tup [.str ⟨#[l]⟩, v])) := s2.trans (Same.upd' hT)
      have hl3 : LstAt (upd H2 T0 (.tup [.str ⟨#[l]⟩, v])) p _ := hl2.same (Same.upd' hT)
      refine ⟨T0, _, rfl, SqT.of upd_same, rfl, _, _, rfl, _, _, rfl, rfl, ?_⟩
      generalize upd H2 T0 (.tup [.str ⟨#[l]⟩, v]) = H3 at s3 hl3
      generalize hpre : ((M.ls.cps.toList.zip M.tabs).take i).flatMap (tabSteps us) = pre at hl3
      have hprel : pre.length ≤ i * (us.length * us.length) := by
        rw [← hpre]
        refine Nat.le_trans (len_flat fun x _ => tabSteps_len us x) ?_
        refine Nat.mul_le_mul_right _ ?_
        rw [List.length_take]; omega
      have sq : us.length * us.length ≤ 400 := Nat.mul_le_mul hul hul
      have hi2 : i ≤ 2 := by omega
      have hprel2 : pre.length ≤ 800 := Nat.le_trans hprel (Nat.le_trans (Nat.mul_le_mul hi2 sq) (by decide))
      -- for one in some
      refine ⟨_, rfl, ps, rfl, ⟨_, SqL.of (s3 _ _ hps)⟩, for_it (walk_list (xs := us.map fun (n : Nat) => V.int (n : Int))) (fun j σ H4 => ∃ y5 y6, σ = [some a, some (.ref ps), some (.ref p), some (.str ⟨#[l]⟩), some v, y5, y6] ∧ Same H H4 ∧ LstAt H4 p ((pre ++ (us.take j).flatMap (rowSteps l t1 us)).map dStep))
        ⟨_, _, rfl, s3, by simpa using hl3⟩ (fun j σ H4 _ ⟨_, _, _, s4, _⟩ => SqL.of (s4 _ _ hps)) ?_ ?_⟩
      · rintro j z σ Hx H4 hj ⟨y5, y6, rfl, s4, hl4⟩ ⟨rfl, hz⟩
        rw [List.getElem?_map, Option.map_eq_some_iff] at hz
        obtain ⟨o1, ho1, rfl⟩ := hz
        have hju : j < us.length := by rw [List.length_map] at hj; exact hj
        have hu2 := hu o1 (List.mem_of_getElem? ho1)
        generalize hpre2 : pre ++ (us.take j).flatMap (rowSteps l t1 us) = pre2 at hl4
        have hpre2l : pre2.length ≤ 1200 := by
          rw [← hpre2, List.length_append]
          have h5 : ((us.take j).flatMap (rowSteps l t1 us)).length ≤ (us.take j).length * us.length := len_flat fun x _ => rowSteps_len _ _ _ _
          have h6 : (us.take j).length * us.length ≤ us.length * us.length := Nat.mul_le_mul_right _ (by rw [List.length_take]; omega)
          omega
        have hrow : t1[o1]? = some t1[o1] := List.getElem?_eq_getElem (by omega)
        have lr := wM.cols t1 m1 t1[o1] (List.getElem_mem _)
        -- for other in some
        refine ⟨_, rfl, ps, rfl, ⟨_, SqL.of (s4 _ _ hps)⟩, for_it (walk_list (xs := us.map fun (n : Nat) => V.int (n : Int))) (fun m σ H5 => ∃ y6, σ = [some a, some (.ref ps), some (.ref p), some (.str ⟨#[l]⟩), some v, some (.int (o1 : Int)), y6] ∧ Same H H5 ∧ LstAt H5 p ((pre2 ++ (us.take m).filterMap fun j => (entry t1 o1 j).map fun c => (o1, j, c, l)).map dStep))
          ⟨_, rfl, s4, by simpa using hl4⟩ (fun m σ H5 _ ⟨_, _, s5, _⟩ => SqL.of (s5 _ _ hps)) ?_ ?_⟩
        · rintro m z σ Hx H5 hm ⟨y6, rfl, s5, hl5⟩ ⟨rfl, hz⟩
          rw [List.getElem?_map, Option.map_eq_some_iff] at hz
          obtain ⟨o2, ho2, rfl⟩ := hz
          have hmu : m < us.length := by rw [List.length_map] at hm; exact hm
          have hu3 := hu o2 (List.mem_of_getElem? ho2)
          have hcell : t1[o1][o2]? = some (t1[o1][o2]'(by omega)) := List.getElem?_eq_getElem (by omega)
          have hent : entry t1 o1 o2 = t1[o1][o2]'(by omega) := by
            unfold entry
            rw [hrow, Option.bind_some, hcell] <;> rfl
          have take1 : us.take (m + 1) = us.take m ++ [o2] := by rw [List.take_add_one, ho2] <;> rfl
          refine ⟨_, rfl, _, rfl, r_ixT (ds := t1.map dRow) o1 (d := dRow t1[o1]) (rv.same s5) (by rw [List.getElem?_map, hrow] <;> rfl) fun r1 hr1 => ?_⟩
          refine ⟨_, rfl, r_ixT (ds := t1[o1].map dW) o2 (d := dW (t1[o1][o2]'(by omega))) hr1 (by rw [List.getElem?_map, hcell] <;> rfl) fun c1 hc1 => ?_⟩
          cases rep_W hc1
          refine ⟨rfl, _, rfl, ?_⟩
          cases hc : t1[o1][o2]'(by omega) with
          | none =>
            refine iteF ⟨_, rfl, s5, ?_⟩
            rw [take1, List.filterMap_append]
            have e0 : [o2].filterMap (fun j => (entry t1 o1 j).map fun c => (o1, j, c, l)) = [] := by
              rw [List.filterMap_cons, hent, hc] <;> rfl
            rw [e0, List.append_nil]
            exact hl5
          | some c =>
            refine iteT ⟨_, rfl, tyL hl5, _, rfl, _, rfl, _, rfl, _, rfl, r_ixT (ds := t1.map dRow) o1 (d := dRow t1[o1]) (rv.same s5) (by rw [List.getElem?_map, hrow] <;> rfl) fun r1 hr1 => ?_⟩
            refine ⟨_, rfl, r_ixT (ds := t1[o1].map dW) o2 (d := dW (t1[o1][o2]'(by omega))) hr1 (by rw [List.getElem?_map, hcell] <;> rfl) fun c1 hc1 => ?_⟩
            cases rep_W hc1
            rw [hc]
            refine ⟨_, rfl, r_tup (ds := [dN o1, dN o2, .a (.int c), .a (.str ⟨#[l]⟩)]) (Reps.cons rfl (Reps.cons rfl (Reps.cons rfl (Reps.cons rfl Reps.nil)))) (small (by simp)) fun v6 H6 s6 h6 => ?_⟩
            refine r_app (d := dStep (o1, o2, c, l)) (hl5.same s6) h6 ?_ fun H7 k7 t7 _ hl7 => ?_
            · rw [List.length_map, List.length_append]
              have : (List.filterMap (fun j => (entry t1 o1 j).map fun c => (o1, j, c, l)) (us.take m)).length ≤ (us.take m).length := List.length_filterMap_le _ _
              rw [List.length_take] at this
              exact Nat.lt_of_le_of_lt (show _ ≤ 1220 by omega) (by decide)
            refine ⟨_, rfl, k7 H hp (s5.trans s6), ?_⟩
            rw [take1, List.filterMap_append]
            have e0 : [o2].filterMap (fun j => (entry t1 o1 j).map fun c => (o1, j, c, l)) = [(o1, o2, c, l)] := by
              rw [List.filterMap_cons, hent, hc] <;> rfl
            rw [e0, ← List.append_assoc, List.map_append]
            exact hl7
        · rintro σ H5 ⟨y6, rfl, s5, hl5⟩
          rw [List.length_map, List.take_length] at hl5
          refine ⟨_, _, rfl, s5, ?_⟩
          rw [List.take_add_one, ho1, List.flatMap_append, ← List.append_assoc, hpre2]
          have e0 : (some o1).toList.flatMap (rowSteps l t1 us) = rowSteps l t1 us o1 := by
            show [o1].flatMap _ = _
            rw [List.flatMap_cons, List.flatMap_nil, List.append_nil]
          rw [e0]
          exact hl5
      · rintro σ H4 ⟨y5, y6, rfl, s4, hl4⟩
        rw [List.length_map, List.take_length] at hl4
        refine ⟨_, _, _, _, rfl, s4, ?_⟩
        have e : (M.ls.cps.toList.zip M.tabs).take (i + 1) = (M.ls.cps.toList.zip M.tabs).take i ++ [(l, t1)] := by
          have h3 : (M.ls.cps.toList.zip M.tabs)[i]? = some (l, t1) := by rw [List.getElem?_zip_eq_some]; exact ⟨hl1, ht1⟩
          rw [List.take_add_one, h3] <;> rfl
        rw [e, List.flatMap_append, hpre]
        have e0 : [(l, t1)].flatMap (tabSteps us) = us.flatMap (rowSteps l t1 us) := by
          rw [List.flatMap_cons, List.flatMap_nil, List.append_nil] <;> rfl
        rw [e0]
        exact hl4
    · rintro σ H2 ⟨y3, y4, y5, y6, rfl, s2, hl2⟩
      refine ⟨_, rfl, ?_⟩
      rw [List.take_of_length_le (by rw [List.length_zip]; omega)] at hl2
      exact k p H2 s2 hp hl2
end
end L2.Ww
set_option Elab.async false
set_option linter.all false
set_option maxRecDepth 100000
set_option maxHeartbeats 4000000
/-! Reach and use. -/
namespace L2.Ww
open PySem PySem.Spec PyProof.Rows
/-! ### reach, plainly -/
inductive Rch (us : List Nat) (ps : List (Nat × Nat)) : Nat → Prop
  | base {v : Nat} : v ∈ us → Rch us ps v
  | step {u v : Nat} : Rch us ps u → (u, v) ∈ ps → Rch us ps v
def dPair (p : Nat × Nat) : D := .t [dN p.1, dN p.2]
/-- found so far: at rooms are looked through -/
structure Fnd (us : List Nat) (ps : List (Nat × Nat)) (at_ : Nat) (f : List Nat) : Prop where
  nd : f.Nodup
  lt : ∀ v ∈ f, v < 20
  rch : ∀ v ∈ f, Rch us ps v
  bas : ∀ v ∈ us, v ∈ f
  cl : ∀ k x y, k < at_ → f[k]? = some x → (x, y) ∈ ps → y ∈ f
theorem nd_len {f : List Nat} (nd : f.Nodup) (lt : ∀ v ∈ f, v < 20) : f.length ≤ 20 := by
  have := BF.nodup_len (us := List.range 20) nd fun x hx => List.mem_range.mpr (lt x hx)
  rw [List.length_range] at this
  exact this
theorem Fnd.done {us : List Nat} {ps : List (Nat × Nat)} {a : Nat} {f : List Nat} (h : Fnd us ps a f) (e : f.length ≤ a) (v : Nat) : v ∈ f ↔ Rch us ps v := by
  refine ⟨h.rch v, fun r => ?_⟩
  induction r with
  | base hv => exact h.bas _ hv
  | step _ hp ih =>
    obtain ⟨k, hk, hk2⟩ := List.mem_iff_getElem.mp ih
    exact h.cl k _ _ (by omega) (by rw [List.getElem?_eq_getElem hk, hk2]) hp
/-- one pair looked at -/
def look1 (x : Nat) (f : List Nat) (p : Nat × Nat) : List Nat := if p.1 = x ∧ ¬ p.2 ∈ f then f ++ [p.2] else f
theorem look1_pre (x : Nat) (f : List Nat) (p : Nat × Nat) : f <+: look1 x f p := by
  unfold look1
  split
  · exact List.prefix_append _ _
  · exact List.prefix_refl _
theorem looks_pre (x : Nat) (ps : List (Nat × Nat)) (f : List Nat) : f <+: ps.foldl (look1 x) f := by
  induction ps generalizing f with
  | nil => exact List.prefix_refl _
  | cons p ps ih => exact List.IsPrefix.trans (look1_pre x f p) (ih _)
theorem looks_cl (x : Nat) (ps : List (Nat × Nat)) (f : List Nat) {y : Nat} (h : (x, y) ∈ ps) : y ∈ ps.foldl (look1 x) f := by
  induction ps generalizing f with
  | nil => cases h
  | cons p ps ih =>
    rw [List.foldl_cons]
    rcases List.mem_cons.mp h with e | h
    · subst e
      refine (looks_pre x ps _).subset ?_
      unfold look1
      by_cases hy : y ∈ f
      · rw [if_neg (fun z => z.2 hy)]; exact hy
      · rw [if_pos ⟨rfl, hy⟩]; simp
    · exact ih _ h
theorem looks_ok {us : List Nat} {ps : List (Nat × Nat)} (hps : ∀ p ∈ ps, p.2 < 20) {x : Nat} (hx : Rch us ps x) (qs : List (Nat × Nat)) (hq : ∀ q ∈ qs, q ∈ ps) (f : List Nat) (nd : f.Nodup) (lt : ∀ v ∈ f, v < 20) (rc : ∀ v ∈ f, Rch us ps v) :
    (qs.foldl (look1 x) f).Nodup ∧ (∀ v ∈ qs.foldl (look1 x) f, v < 20) ∧ ∀ v ∈ qs.foldl (look1 x) f, Rch us ps v := by
  induction qs generalizing f with
  | nil => exact ⟨nd, lt, rc⟩
  | cons p qs ih =>
    rw [List.foldl_cons]
    have hp := hq p List.mem_cons_self
    refine ih (fun q h => hq q (List.mem_cons_of_mem _ h)) _ ?_ ?_ ?_
    · unfold look1
      split
      · rename_i h
        rw [List.nodup_append]
        exact ⟨nd, by simp, fun a ha b hb e => h.2 (by rw [List.mem_singleton.mp hb] at e; exact e ▸ ha)⟩
      · exact nd
    · unfold look1
      split
      · intro v hv
        rcases List.mem_append.mp hv with h | h
        · exact lt v h
        · rw [List.mem_singleton.mp h]; exact hps p hp
      · exact lt
    · unfold look1
      split
      · rename_i h
        intro v hv
        rcases List.mem_append.mp hv with h2 | h2
        · exact rc v h2
        · rw [List.mem_singleton.mp h2]
          exact .step hx (by rw [← h.1]; exact hp)
      · exact rc
theorem pre_get {f g : List Nat} (h : f <+: g) {k : Nat} (hk : k < f.length) : g[k]? = f[k]? := by
  obtain ⟨t, rfl⟩ := h
  exact List.getElem?_append_left hk
theorem Fnd.next {us : List Nat} {ps : List (Nat × Nat)} (hps : ∀ p ∈ ps, p.2 < 20) {a : Nat} {f : List Nat} (h : Fnd us ps a f) {x : Nat} (hx : f[a]? = some x) : Fnd us ps (a + 1) (ps.foldl (look1 x) f) := by
  have hr := h.rch x (List.mem_of_getElem? hx)
  obtain ⟨h1, h2, h3⟩ := looks_ok hps hr ps (fun _ q => q) f h.nd h.lt h.rch
  have pre := looks_pre x ps f
  have hl : a < f.length := (List.getElem?_eq_some_iff.mp hx).1
  refine ⟨h1, h2, h3, fun v hv => pre.subset (h.bas v hv), fun k y z hk hy hp => ?_⟩
  rw [pre_get pre (by omega)] at hy
  by_cases e : k = a
  · subst e
    rw [hx] at hy
    cases hy
    exact looks_cl x ps f hp
  · exact pre.subset (h.cl k y z (by omega) hy hp)
def spReached : Sp := fun vs H Q _ => ∃ b p us ps, vs = [.ref b, .ref p] ∧ LstAt H b (dNs us) ∧ LstAt H p (ps.map dPair) ∧ us.Nodup ∧ (∀ v ∈ us, v < 20) ∧ (∀ q ∈ ps, q.2 < 20) ∧
  ∀ q H' ws, Same H H' → H q = none → LstAt H' q (dNs ws) → (∀ v, v ∈ ws ↔ Rch us ps v) → Q (.ref q) H'
def natAt (σ : St) (i : Nat) : Nat := match σ[i]? with | some (some (.int n)) => n.toNat | _ => 0
theorem qLen_mono {K : PySem.W.Frag} {vs : List V} {H : Hp} {Q Q' : VK} (m : ∀ y H1, Q y H1 → Q' y H1) (h : qLen K vs H Q) : qLen K vs H Q' := by
  unfold qLen at h ⊢
  obtain ⟨p, ys, e, hq, k⟩ := h
  exact ⟨p, ys, e, hq, m _ _ k⟩
theorem dN_app (f : List Nat) (v : Nat) : dNs f ++ [dN v] = dNs (f ++ [v]) := by rw [dNs, dNs, List.map_append]; rfl
section
variable {P : Program} {w : World} {K : PySem.W.Frag} {mg : Str → Option Value} {base : Heap}
abbrev s_reached : Stmt := top 58
theorem sc_reached : FnScope ["begun", "pairs", "found", "at", "one", "other"] ["begun", "pairs"] (defScope s_reached) := ⟨rfl, rfl, rfl, by decide +kernel, rfl, by decide +kernel, by decide +kernel⟩
theorem ok_reached (T : Txt w K mg) : Cal P w K mg base CX0 1 "reached" spReached := by
  refine cal_ok T.d_reached (fun _ _ _ _ _ _ us hl => match us, hl with | [_, _], _ => rfl) sc_reached (fun vs H Q E h => ?_) (fun cdv A outer s f H vs Q E hr h => ?_)
  · obtain ⟨_, _, _, _, rfl, _⟩ := h; rfl
  · obtain ⟨b, p, us, ps, rfl, hb, hp, nd, lt, hps, k⟩ := h
    refine ⟨_, PSs.nox (pss_cons (ps_set (i := 2) sc_reached.nd rfl (Or.inl rfl) (pe_callTy (call_lstQ K) (by rfl) T.f_list (by decide +kernel) (pa_cons (pv 0) pa_nil)))
      (pss_cons (ps_set (i := 3) sc_reached.nd rfl (Or.inl rfl) pe_int)
      (pss_cons (ps_while PassesOwn.never (pt_cmpR op_lt (pv 3) (pe_callB (call_lenQ K) (by rfl) T.f_len PySem.boot_len (pa_cons (pv 2) pa_nil)) (nomark _))
      (pss_cons (ps_for PassesOwn.never rfl (pi_list (pv 1)) (pg_tup (n := 2) rfl (pgs_cons (pg_name (i := 4) sc_reached.nd rfl (Or.inl rfl)) (pgs_cons (pg_name (i := 5) sc_reached.nd rfl (Or.inl rfl)) pgs_nil)))
      (pss_one (ps_if (PW.pt (pw_and (pt_cmpR op_eq (pv 4) (pe_ix (ix_listQ K) (pv 2) (pv 3) (fun _ _ => rfl)) (nomark _)) (pw_and1 (pt_cmpR (op_notIn_seqQ K) (pv 5) (pv 2) (by rfl))))) (pss_one (ps_expr (pe_bm PySem.F.plainAttrs_list PySem.F.slot_list_append PySem.F.type_list_append mt_appQ (pv 2) (pa_cons (pv 5) pa_nil)))) pss_nil)))
      (pss_one (ps_aug (i := 3) sc_reached.nd rfl (Or.inl rfl) pe_int ip_add))))
      (pss_one (ps_ret (pv 2)))))), ?_⟩
    obtain ⟨pv, hpv, rpv⟩ := id hp
    refine ⟨_, rfl, r_lstL hb fun q H1 s1 hq hl => ?_⟩
    refine while_by (fun σ H2 => ∃ a f y4 y5, σ = [some (.ref b), some (.ref p), some (.ref q), some (.int ((a : Nat) : Int)), y4, y5] ∧ Same H H2 ∧ LstAt H2 q (dNs f) ∧ a ≤ f.length ∧ Fnd us ps a f) (fun σ _ => 21 - natAt σ 3)
      ⟨0, us, none, none, rfl, s1, hl, Nat.zero_le _, ⟨nd, lt, fun v hv => .base hv, fun v hv => hv, fun k x y h => by omega⟩⟩ ?_ ?_
    · rintro σ H2 ⟨a, f, y4, y5, rfl, s2, hf, hal, fd⟩
      have hfl := nd_len fd.nd fd.lt
      refine ⟨_, rfl, _, rfl, r_lenL hf ?_⟩
      refine ⟨_, _, rfl, rfl, _, rfl, ?_⟩
      rw [dNs, List.length_map]
      refine ite2 (fun hc => ?_) (fun hc => ?_)
      · have ha : a < f.length := by have := of_decide_eq_true hc; omega
        have hfa : f[a]? = some f[a] := List.getElem?_eq_getElem ha
        have hra := fd.rch _ (List.getElem_mem ha)
        refine ⟨_, rfl, p, rfl, ⟨_, SqL.of (s2 _ _ hpv)⟩, for_it (walk_list (xs := pv)) (fun i σ H4 => ∃ y4 y5, σ = [some (.ref b), some (.ref p), some (.ref q), some (.int ((a : Nat) : Int)), y4, y5] ∧ Same H H4 ∧ LstAt H4 q (dNs ((ps.take i).foldl (look1 f[a]) f)))
          ⟨_, _, rfl, s2, hf⟩ (fun i σ H4 _ ⟨_, _, _, s4, _⟩ => SqL.of (s4 _ _ hpv)) ?_ ?_⟩
        · rintro i z σ Hx H4 hi ⟨y4, y5, rfl, s4, hl4⟩ ⟨rfl, hz⟩
          obtain ⟨d, hd, rd⟩ := rpv.getV hz
          rw [List.getElem?_map, Option.map_eq_some_iff] at hd
          obtain ⟨pr, hpr, rfl⟩ := hd
          obtain ⟨T0, vs0, rfl, hT, r0⟩ := rd
          obtain ⟨v1, r1, e1, h1, r2⟩ := r0
          obtain ⟨v2, r3, e2, h2, r4⟩ := r2
          cases h1
          cases h2
          cases r4
          subst e2 e1
          refine ⟨T0, _, rfl, SqT.of (s4 _ _ hT), rfl, _, _, rfl, _, _, rfl, rfl, ?_⟩
          generalize hg : (ps.take i).foldl (look1 f[a]) f = g at hl4
          have hpre : f <+: g := by rw [← hg]; exact looks_pre _ _ _
          have hga : g[a]? = some f[a] := by rw [pre_get hpre ha]; exact hfa
          have take1 : (ps.take (i + 1)).foldl (look1 f[a]) f = look1 f[a] g pr := by
            rw [List.take_add_one, hpr, List.foldl_append, hg] <;> rfl
          obtain ⟨g1, g2, g3⟩ := looks_ok hps hra (ps.take i) (fun q hq => List.mem_of_mem_take hq) f fd.nd fd.lt fd.rch
          rw [hg] at g1 g2 g3
          have hgl := nd_len g1 g2
          refine ⟨_, rfl, _, rfl, _, rfl, r_ixL (ds := dNs g) a (d := dN f[a]) hl4 (by rw [dNs, List.getElem?_map, hga] <;> rfl) fun v hv => ?_⟩
          cases hv
          refine ⟨rfl, _, rfl, ?_⟩
          by_cases e1 : pr.1 = f[a]
          · have e2 : decide ((pr.1 : Int) = (f[a] : Int)) = true := decide_eq_true (by omega)
            have e3 : (V.int (pr.1 : Int)) = V.int (f[a] : Int) := by rw [e1]
            refine ite2 (fun _ => ?_) (fun z => absurd (decide_eq_true (by rw [e1])) z)
            refine ⟨_, rfl, _, rfl, r_notIn hl4 ⟨_, rfl, ?_⟩⟩
            by_cases e4 : pr.2 ∈ g
            · rw [decide_eq_true e4]
              refine iteF ⟨_, _, rfl, s4, ?_⟩
              rw [take1]
              unfold look1
              rw [if_neg (fun z => z.2 e4)]
              exact hl4
            · rw [decide_eq_false e4]
              refine iteT ⟨_, rfl, tyL hl4, _, rfl, r_app (d := dN pr.2) hl4 rfl ?_ fun H7 k7 t7 _ hl7 => ?_⟩
              · rw [dNs, List.length_map]; exact Nat.lt_of_le_of_lt hgl (by decide)
              · refine ⟨_, _, rfl, k7 H hq s4, ?_⟩
                rw [take1]
                unfold look1
                rw [if_pos ⟨e1, e4⟩, ← dN_app]
                exact hl7
          · refine ite2 (fun z => ?_) (fun _ => ?_)
            · refine absurd ?_ e1
              have := of_decide_eq_true z
              first | (injection this with h2; omega) | omega
            · refine iteF ⟨_, _, rfl, s4, ?_⟩
              rw [take1]
              unfold look1
              rw [if_neg (fun z => e1 z.1)]
              exact hl4
        · rintro σ H4 ⟨y4, y5, rfl, s4, hl4⟩
          have hpl : pv.length = ps.length := by rw [rpv.len, List.length_map]
          rw [List.take_of_length_le (by omega)] at hl4
          refine ⟨_, rfl, _, _, rfl, rfl, ?_⟩
          have fd2 := fd.next hps hfa
          have hlen : f.length ≤ (ps.foldl (look1 f[a]) f).length := (looks_pre _ _ _).length_le
          have hl20 := nd_len fd2.nd fd2.lt
          refine ⟨⟨a + 1, _, _, _, rfl, s4, hl4, by omega, fd2⟩, ?_⟩
          show 21 - natAt [_, _, _, some (.int ((a : Int) + 1)), _, _] 3 < 21 - natAt [_, _, _, some (.int ((a : Nat) : Int)), _, _] 3
          unfold natAt
          show 21 - ((a : Int) + 1).toNat < 21 - ((a : Nat) : Int).toNat
          omega
      · have ha : f.length ≤ a := by
          have : ¬ ((a : Int) < (f.length : Int)) := fun z => hc (decide_eq_true z)
          omega
        exact ⟨_, rfl, k q H2 f s2 hq hf fun v => fd.done ha v⟩
    · intro σ H2 Q1 Q2 m h
      obtain ⟨v, e, u, e2, q2⟩ := h
      exact ⟨v, e, u, e2, qLen_mono (fun y H3 z => by
        obtain ⟨i, j, e3, e4, x, e5, t⟩ := z
        exact ⟨i, j, e3, e4, x, e5, m _ _ t⟩) q2⟩
end
end L2.Ww
set_option Elab.async false
set_option linter.all false
set_option maxRecDepth 100000
set_option maxHeartbeats 4000000
/-! useful -/
namespace L2.Ww
open PySem PySem.Spec PyProof.Rows
def begunL (r : List Wt) : List Nat := (List.range r.length).filter fun i => ((r[i]?).getD none).isSome
def fwdP (s : Step) : Nat × Nat := (s.1, s.2.1)
def bwdP (s : Step) : Nat × Nat := (s.2.1, s.1)
structure IsUse (M : Mach) (us : List Nat) : Prop where
  nd : us.Nodup
  iff : ∀ v, v ∈ us ↔ v < M.st.length ∧ Rch (begunL M.st) ((stepsOf M (List.range M.st.length)).map fwdP) v ∧ Rch (begunL M.en) ((stepsOf M (List.range M.st.length)).map bwdP) v
theorem fm_if {α β : Type} (l : List α) (p : α → Bool) (g : α → β) : l.filterMap (fun i => if p i = true then some (g i) else none) = (l.filter p).map g := by
  induction l with
  | nil => rfl
  | cons x l ih =>
    rw [List.filterMap_cons, List.filter_cons]
    by_cases h : p x = true
    · rw [if_pos h, if_pos h, List.map_cons, ih]
    · rw [if_neg h, if_neg h, ih]
theorem nodup_filt {l : List Nat} (p : Nat → Bool) (h : l.Nodup) : (l.filter p).Nodup := h.sublist List.filter_sublist
theorem rgV_nat (n : Nat) : rgV 0 (n : Int) = (List.range n).map fun (i : Nat) => V.int (i : Int) := by
  unfold rgV
  rw [show ((n : Int) - 0).toNat = n by omega]
  refine List.map_congr_left fun i _ => ?_
  rw [Int.zero_add]
theorem stepsOf_mem {M : Mach} {us : List Nat} {s : Step} (h : s ∈ stepsOf M us) : s.1 ∈ us ∧ s.2.1 ∈ us := by
  unfold stepsOf at h
  obtain ⟨p, _, h⟩ := List.mem_flatMap.mp h
  obtain ⟨i, hi, h⟩ := List.mem_flatMap.mp h
  obtain ⟨j, hj, h⟩ := List.mem_filterMap.mp h
  obtain ⟨c, _, e⟩ := Option.map_eq_some_iff.mp h
  rw [← e]
  exact ⟨hi, hj⟩
theorem stepsOf_len {M : Mach} (wM : M.WF) {us : List Nat} (hul : us.length ≤ 20) : (stepsOf M us).length ≤ 1200 := by
  have h := len_flat (l := M.ls.cps.toList.zip M.tabs) (f := tabSteps us) fun x _ => tabSteps_len us x
  have sq : us.length * us.length ≤ 400 := Nat.mul_le_mul hul hul
  have h2 : (M.ls.cps.toList.zip M.tabs).length ≤ 3 := by
    rw [List.length_zip]
    have := wM.lt
    have := wM.let3
    omega
  exact Nat.le_trans h (Nat.le_trans (Nat.mul_le_mul h2 sq) (by decide))
def spUseful : Sp := fun vs H Q _ => ∃ a M, vs = [a] ∧ Rep H (dMach M) a ∧ M.WF ∧ ∀ us, IsUse M us → GivesL H (dNs us) Q
section
variable {P : Program} {w : World} {K : PySem.W.Frag} {mg : Str → Option Value} {base : Heap}
abbrev s_useful : Stmt := top 59
theorem sc_useful : FnScope ["machine", "many", "steps", "begun", "ended", "ones", "others", "room", "step"] ["machine"] (defScope s_useful) := ⟨rfl, rfl, rfl, by decide +kernel, rfl, by decide +kernel, by decide +kernel⟩
theorem ok_useful (T : Txt w K mg) : Cal P w K mg base CX0 2 "useful" spUseful := by
  refine cal_ok T.d_useful (fun _ _ _ _ _ _ us hl => match us, hl with | [_], _ => rfl) sc_useful (fun vs H Q E h => ?_) (fun cdv A outer s f H vs Q E hr h => ?_)
  · obtain ⟨_, _, rfl, _⟩ := h; rfl
  · obtain ⟨a, M, rfl, ha, wM, k⟩ := h
    refine ⟨_, PSs.nox (pss_cons (ps_set (i := 1) sc_useful.nd rfl (Or.inl rfl) (pe_callB (call_lenQ K) (by rfl) T.f_len PySem.boot_len (pa_cons (pe_ix (ix_tupQ K) (pv 0) pe_int (fun _ _ => rfl)) pa_nil)))
      (pss_cons (ps_set (i := 2) sc_useful.nd rfl (Or.inl rfl) (pe_c0 (ok_steps_of T) hr (by decide) rfl (pa_cons (pv 0) (pa_cons (pe_listRg rfl rfl T.f_list (prg_1 rfl T.f_range (pv 1))) pa_nil))))
      (pss_cons (ps_setLc (i := 3) rfl sc_useful.nd rfl rfl (sw_true rfl rfl rfl (by decide +kernel)) (own := [("room", 7)]) (pi_range1 rfl T.f_range (pa_cons (pv 1) pa_nil)) (blkOk_by (own := [("room", 7)]) (N := ["machine", "many", "steps", "begun", "ended", "ones", "others", "room", "step"]) (sc := defScope s_useful) (by decide +kernel)) (fun _ _ _ _ _ => (pg_name (i := 7) sc_useful.nd rfl (Or.inl rfl))) (fun _ _ _ _ _ => (pts_one (pt_cmpR op_notN (pe_ix (ix_tupQ K) (pe_ix (ix_tupQ K) (pv 0) pe_int (fun _ _ => rfl)) (pv 7) (fun _ _ => rfl)) pe_non (nomark _)))) (fun _ _ _ _ _ => (pv 7)))
      (pss_cons (ps_setLc (i := 4) rfl sc_useful.nd rfl rfl (sw_true rfl rfl rfl (by decide +kernel)) (own := [("room", 7)]) (pi_range1 rfl T.f_range (pa_cons (pv 1) pa_nil)) (blkOk_by (own := [("room", 7)]) (N := ["machine", "many", "steps", "begun", "ended", "ones", "others", "room", "step"]) (sc := defScope s_useful) (by decide +kernel)) (fun _ _ _ _ _ => (pg_name (i := 7) sc_useful.nd rfl (Or.inl rfl))) (fun _ _ _ _ _ => (pts_one (pt_cmpR op_notN (pe_ix (ix_tupQ K) (pe_ix (ix_tupQ K) (pv 0) pe_int (fun _ _ => rfl)) (pv 7) (fun _ _ => rfl)) pe_non (nomark _)))) (fun _ _ _ _ _ => (pv 7)))
      (pss_cons (ps_set (i := 5) sc_useful.nd rfl (Or.inr rfl) (pe_c0 (ok_reached T) hr (by decide) rfl (pa_cons (pv 3) (pa_cons (pe_lc (own := [("step", 8)]) rfl sc_useful.nd (pi_list (pv 2)) (blkOk_by (own := [("step", 8)]) (N := ["machine", "many", "steps", "begun", "ended", "ones", "others", "room", "step"]) (sc := defScope s_useful) (by decide +kernel)) (fun _ _ _ _ _ => (pg_name (i := 8) sc_useful.nd rfl (Or.inl rfl))) (fun _ _ _ _ _ => pts_nil) (fun _ _ _ _ _ => (pe_tupQ (pa_cons (pe_ix (ix_tupQ K) (pv 8) pe_int (fun _ _ => rfl)) (pa_cons (pe_ix (ix_tupQ K) (pv 8) pe_int (fun _ _ => rfl)) pa_nil))))) pa_nil))))
      (pss_cons (ps_set (i := 6) sc_useful.nd rfl (Or.inr rfl) (pe_c0 (ok_reached T) hr (by decide) rfl (pa_cons (pv 4) (pa_cons (pe_lc (own := [("step", 8)]) rfl sc_useful.nd (pi_list (pv 2)) (blkOk_by (own := [("step", 8)]) (N := ["machine", "many", "steps", "begun", "ended", "ones", "others", "room", "step"]) (sc := defScope s_useful) (by decide +kernel)) (fun _ _ _ _ _ => (pg_name (i := 8) sc_useful.nd rfl (Or.inl rfl))) (fun _ _ _ _ _ => pts_nil) (fun _ _ _ _ _ => (pe_tupQ (pa_cons (pe_ix (ix_tupQ K) (pv 8) pe_int (fun _ _ => rfl)) (pa_cons (pe_ix (ix_tupQ K) (pv 8) pe_int (fun _ _ => rfl)) pa_nil))))) pa_nil))))
      (pss_one (ps_ret (pe_lc (own := [("room", 7)]) rfl sc_useful.nd (pi_range1 rfl T.f_range (pa_cons (pv 1) pa_nil)) (blkOk_by (own := [("room", 7)]) (N := ["machine", "many", "steps", "begun", "ended", "ones", "others", "room", "step"]) (sc := defScope s_useful) (by decide +kernel)) (fun _ _ _ _ _ => (pg_name (i := 7) sc_useful.nd rfl (Or.inl rfl))) (fun _ _ _ _ _ => (pts_one (PW.pt (pw_and (pt_cmpR (op_in_seqQ K) (pv 7) (pv 5) (by rfl)) (pw_and1 (pt_cmpR (op_in_seqQ K) (pv 7) (pv 6) (by rfl))))))) (fun _ _ _ _ _ => (pv 7))))))))))), ?_⟩
    generalize hn : M.st.length = n
    have hn20 : n ≤ 20 := by rw [← hn]; exact wM.few
    refine ⟨_, rfl, r_ixT 1 ha rfl fun sv hsv => r_lenT hsv ?_⟩
    rw [List.length_map, hn]
    refine ⟨_, rfl, _, rfl, n, rfl, RgOk.of_le (by omega) (by omega) (by omega) (by omega), fun q hq => ?_⟩
    have hrl : LstAt (upd H q (.lst (rgV 0 (n : Int)))) q (dNs (List.range n)) := by
      refine ⟨_, upd_same, ?_⟩
      rw [rgV_nat]
      have e2 : dNs (List.range n) = ((List.range n).map fun (i : Nat) => V.int (i : Int)).map D.a := by rw [List.map_map] <;> rfl
      rw [e2]
      exact Reps.atoms.mpr rfl
    have s1 : Same H (upd H q (.lst (rgV 0 (n : Int)))) := Same.upd' hq
    generalize upd H q (.lst (rgV 0 (n : Int))) = H1 at hrl s1
    refine ⟨a, q, M, List.range n, rfl, ha.same s1, wM, hrl, fun u hu => by rw [hn]; exact List.mem_range.mp hu, by rw [List.length_range]; exact hn20, fun ps H2 s2 hps hlp => ?_⟩
    have s12 := s1.trans s2
    -- begun
    refine ⟨_, rfl, n, rfl, by omega, by omega, fun Dd hD => ?_⟩
    refine lc_gen (H0 := H2) (walk_range0 (n := (n : Int).toNat)) hD (small (by omega)) (fun _ _ => trivial) same_YFn (fun i => if ((M.st[i]?).getD none).isSome = true then some (dN i) else none) ?_ ?_
    · rintro i x H3 H4 hi s4 ⟨rfl, rfl⟩ s3 Kf Kt hf ht
      have hi2 : i < M.st.length := by omega
      have hmi : M.st[i]? = some M.st[i] := List.getElem?_eq_getElem hi2
      refine ⟨rfl, _, rfl, r_ixT 1 (ha.same (s12.trans s4)) rfl fun sv hsv => ⟨_, rfl, r_ixT i hsv (by rw [List.getElem?_map, hmi] <;> rfl) fun c hc => ?_⟩⟩
      cases rep_W hc
      refine ⟨rfl, _, rfl, ?_⟩
      cases hc2 : M.st[i] with
      | none =>
        refine iteF (hf (if_neg ?_) _ (Same.refl _))
        rw [hmi, hc2]; exact Bool.noConfusion
      | some c =>
        refine iteT ⟨_, rfl, ht (dN i) (if_pos ?_) _ _ (Same.refl _) rfl⟩
        rw [hmi, hc2]; rfl
    intro H3 s3 hl3
    rw [fm_if] at hl3
    have e3 : ((List.range (n : Int).toNat).filter fun i => ((M.st[i]?).getD none).isSome) = begunL M.st := by
      unfold begunL
      rw [show (n : Int).toNat = M.st.length by omega]
    rw [e3] at hl3
    have s13 := s12.trans s3
    -- ended
    refine ⟨_, rfl, n, rfl, by omega, by omega, fun De hDe => ?_⟩
    refine lc_gen (H0 := H3) (walk_range0 (n := (n : Int).toNat)) hDe (small (by omega)) (fun _ _ => trivial) same_YFn (fun i => if ((M.en[i]?).getD none).isSome = true then some (dN i) else none) ?_ ?_
    · rintro i x H4 H5 hi s5 ⟨rfl, rfl⟩ s4 Kf Kt hf ht
      have hi2 : i < M.en.length := by have := wM.ends; omega
      have hmi : M.en[i]? = some M.en[i] := List.getElem?_eq_getElem hi2
      refine ⟨rfl, _, rfl, r_ixT 3 (ha.same (s13.trans s5)) rfl fun sv hsv => ⟨_, rfl, r_ixT i hsv (by rw [List.getElem?_map, hmi] <;> rfl) fun c hc => ?_⟩⟩
      cases rep_W hc
      refine ⟨rfl, _, rfl, ?_⟩
      cases hc2 : M.en[i] with
      | none =>
        refine iteF (hf (if_neg ?_) _ (Same.refl _))
        rw [hmi, hc2]; exact Bool.noConfusion
      | some c =>
        refine iteT ⟨_, rfl, ht (dN i) (if_pos ?_) _ _ (Same.refl _) rfl⟩
        rw [hmi, hc2]; rfl
    intro H4 s4 hl4
    rw [fm_if] at hl4
    have e4 : ((List.range (n : Int).toNat).filter fun i => ((M.en[i]?).getD none).isSome) = begunL M.en := by
      unfold begunL
      rw [show (n : Int).toNat = M.en.length by have := wM.ends; omega]
    rw [e4] at hl4
    have s14 := s13.trans s4
    have hstl : (stepsOf M (List.range n)).length ≤ 1200 := stepsOf_len wM (by rw [List.length_range]; exact hn20)
    obtain ⟨pv, hpv, rpv⟩ := id hlp
    have hpl : pv.length = (stepsOf M (List.range n)).length := by rw [rpv.len, List.length_map]
    have hsm : pv.length ≤ sizeLine := Nat.le_of_lt (Nat.lt_of_le_of_lt (show pv.length ≤ 1200 by omega) (by decide))
    have fsnd : ∀ x ∈ begunL M.st, x < 20 := fun x hx => by
      have := List.mem_range.mp (List.mem_filter.mp hx).1
      omega
    have fsne : ∀ x ∈ begunL M.en, x < 20 := fun x hx => by
      have := List.mem_range.mp (List.mem_filter.mp hx).1
      have := wM.ends
      omega
    -- ones
    refine ⟨_, rfl, _, rfl, ps, rfl, ⟨_, SqL.of (s4 _ _ (s3 _ _ hpv))⟩, fun Df hDf => ?_⟩
    refine lc_gen (H0 := H4) (walk_list (xs := pv)) hDf hsm (fun H5 s5 => SqL.of (s5 _ _ (s4 _ _ (s3 _ _ hpv)))) same_YAt (fun i => ((stepsOf M (List.range n))[i]?).map fun s => dPair (fwdP s)) ?_ ?_
    · rintro i z H5 H6 hi s6 ⟨rfl, hz⟩ s5 Kf Kt hf ht
      obtain ⟨d, hd, rd⟩ := rpv.getV hz
      rw [List.getElem?_map, Option.map_eq_some_iff] at hd
      obtain ⟨st, hst, rfl⟩ := hd
      have rd6 := rd.same (s3.trans (s4.trans s6))
      refine ⟨rfl, _, rfl, r_ixT 0 rd6 rfl fun u hu => ?_⟩
      cases hu
      refine ⟨_, rfl, r_ixT 1 rd6 rfl fun u hu => ?_⟩
      cases hu
      refine r_tup (ds := [dN st.1, dN st.2.1]) (Reps.cons rfl (Reps.cons rfl Reps.nil)) (small (by simp)) fun v H7 s7 hv => ?_
      exact ht (dPair (fwdP st)) (by rw [hst] <;> rfl) _ _ s7 hv
    intro H5 s5 hl5
    rw [hpl, fm_map] at hl5
    have e5 : ((stepsOf M (List.range n)).map fun s => dPair (fwdP s)) = ((stepsOf M (List.range n)).map fwdP).map dPair := by rw [List.map_map] <;> rfl
    rw [e5] at hl5
    have s15 := s14.trans s5
    refine ⟨Dd, Df, _, _, rfl, hl3.same (s4.trans s5), hl5, nodup_filt _ List.nodup_range, fsnd, ?_, fun on H6 ones s6 hon hl6 ho1 => ?_⟩
    · intro q hq
      obtain ⟨s, hs, rfl⟩ := List.mem_map.mp hq
      have := List.mem_range.mp (stepsOf_mem hs).2
      show s.2.1 < 20
      omega
    have s16 := s15.trans s6
    -- others
    have hpv6 := s6 _ _ (s5 _ _ (s4 _ _ (s3 _ _ hpv)))
    refine ⟨_, rfl, _, rfl, ps, rfl, ⟨_, SqL.of hpv6⟩, fun Dg hDg => ?_⟩
    refine lc_gen (H0 := H6) (walk_list (xs := pv)) hDg hsm (fun H5 s5 => SqL.of (s5 _ _ hpv6)) same_YAt (fun i => ((stepsOf M (List.range n))[i]?).map fun s => dPair (bwdP s)) ?_ ?_
    · rintro i z Hx H7 hi s7 ⟨rfl, hz⟩ sx Kf Kt hf ht
      obtain ⟨d, hd, rd⟩ := rpv.getV hz
      rw [List.getElem?_map, Option.map_eq_some_iff] at hd
      obtain ⟨st, hst, rfl⟩ := hd
      have rd6 := rd.same (s3.trans (s4.trans (s5.trans (s6.trans s7))))
      refine ⟨rfl, _, rfl, r_ixT 1 rd6 rfl fun u hu => ?_⟩
      cases hu
      refine ⟨_, rfl, r_ixT 0 rd6 rfl fun u hu => ?_⟩
      cases hu
      refine r_tup (ds := [dN st.2.1, dN st.1]) (Reps.cons rfl (Reps.cons rfl Reps.nil)) (small (by simp)) fun v H8 s8 hv => ?_
      exact ht (dPair (bwdP st)) (by rw [hst] <;> rfl) _ _ s8 hv
    intro H7 s7 hl7
    rw [hpl, fm_map] at hl7
    have e7 : ((stepsOf M (List.range n)).map fun s => dPair (bwdP s)) = ((stepsOf M (List.range n)).map bwdP).map dPair := by rw [List.map_map] <;> rfl
    rw [e7] at hl7
    refine ⟨De, Dg, _, _, rfl, hl4.same (s5.trans (s6.trans s7)), hl7, nodup_filt _ List.nodup_range, fsne, ?_, fun ot H8 others s8 hot hl8 ho2 => ?_⟩
    · intro q hq
      obtain ⟨s, hs, rfl⟩ := List.mem_map.mp hq
      have := List.mem_range.mp (stepsOf_mem hs).1
      show s.1 < 20
      omega
    -- both
    refine ⟨_, rfl, n, rfl, by omega, by omega, fun Dh hDh => ?_⟩
    refine lc_gen (H0 := H8) (walk_range0 (n := (n : Int).toNat)) hDh (small (by omega)) (fun _ _ => trivial) same_YFn (fun i => if (decide (i ∈ ones) && decide (i ∈ others)) = true then some (dN i) else none) ?_ ?_
    · rintro i x H9 H10 hi s10 ⟨rfl, rfl⟩ s9 Kf Kt hf ht
      refine ⟨rfl, _, rfl, _, rfl, r_in (hl6.same (s7.trans (s8.trans s10))) ⟨_, rfl, ?_⟩⟩
      by_cases h1 : i ∈ ones
      · rw [decide_eq_true h1]
        refine iteT ⟨_, rfl, _, rfl, r_in (hl8.same s10) ⟨_, rfl, ?_⟩⟩
        by_cases h2 : i ∈ others
        · rw [decide_eq_true h2]
          refine iteT ⟨_, rfl, ht (dN i) (if_pos ?_) _ _ (Same.refl _) rfl⟩
          rw [decide_eq_true h1, decide_eq_true h2]; rfl
        · rw [decide_eq_false h2]
          refine iteF (hf (if_neg ?_) _ (Same.refl _))
          rw [decide_eq_true h1, decide_eq_false h2]; exact Bool.noConfusion
      · rw [decide_eq_false h1]
        refine iteF (iteF (hf (if_neg ?_) _ (Same.refl _)))
        rw [decide_eq_false h1]; exact Bool.noConfusion
    intro H9 s9 hl9
    rw [fm_if] at hl9
    have s18 := s16.trans (s7.trans s8)
    refine k _ ⟨nodup_filt _ List.nodup_range, fun v => ?_⟩ Dh H9 (s18.trans s9) (by
      cases hx : H Dh with
      | none => rfl
      | some o => rw [s18 _ _ hx] at hDh; cases hDh) hl9
    rw [List.mem_filter, List.mem_range, Bool.and_eq_true, decide_eq_true_eq, decide_eq_true_eq, ho1, ho2, hn, show (n : Int).toNat = n by omega]
end
end L2.Ww
set_option Elab.async false
set_option linter.all false
set_option maxRecDepth 100000
set_option maxHeartbeats 4000000
/-! Dicts by numbers; raised. -/
namespace L2.Ww
open PySem PySem.Spec PyProof.Rows
/-! ### dicts by numbers, their values data -/
def Ents (H : Hp) : List (Nat × D) → List (Key × V) → Prop
  | [], kvs => kvs = []
  | e :: L, kvs => ∃ v r, kvs = (Sum.inl (e.1 : Int), v) :: r ∧ Rep H e.2 v ∧ Ents H L r
def DctAt (H : Hp) (p : Addr) (L : List (Nat × D)) : Prop := ∃ kvs, H p = some (.dK kvs) ∧ Ents H L kvs
/-- .. maybe locked -/
def DctRd (H : Hp) (p : Addr) (L : List (Nat × D)) : Prop := ∃ kvs, Rd H p (.dK kvs) ∧ Ents H L kvs
theorem Ents.up {H H' : Hp} (k : TupLe H H') : ∀ {L : List (Nat × D)} {kvs : List (Key × V)}, Ents H L kvs → Ents H' L kvs
  | [], _, h => h
  | _ :: _, _, h => by
    obtain ⟨v, r, e, h1, h2⟩ := h
    exact ⟨v, r, e, h1.up k, Ents.up k h2⟩
theorem Ents.len {H : Hp} : ∀ {L : List (Nat × D)} {kvs : List (Key × V)}, Ents H L kvs → kvs.length = L.length
  | [], kvs, h => by rw [show kvs = [] from h]; rfl
  | _ :: _, _, h => by
    obtain ⟨v, r, e, _, h2⟩ := h
    rw [e, List.length_cons, List.length_cons, h2.len]
theorem Ents.get {H : Hp} {n : Nat} : ∀ {L : List (Nat × D)} {kvs : List (Key × V)}, Ents H L kvs → match CH.look L n with | none => valV kvs (Sum.inl (n : Int)) = none | some d => ∃ v, valV kvs (Sum.inl (n : Int)) = some v ∧ Rep H d v
  | [], kvs, h => by rw [show kvs = [] from h, CH.look_nil]; rfl
  | e :: L, kvs, h => by
    obtain ⟨v, r, rfl, h1, h2⟩ := h
    rw [CH.look_cons]
    by_cases c : e.1 = n
    · rw [if_pos c]
      refine ⟨v, ?_, h1⟩
      rw [valV_pos (by show Sum.inl (e.1 : Int) = Sum.inl (n : Int); rw [c])]
    · rw [if_neg c]
      have c2 : ¬ (Sum.inl (e.1 : Int) : Key) = Sum.inl (n : Int) := fun z => c (by injection z with z2; omega)
      have ih := Ents.get (n := n) h2
      rw [valV_neg c2]
      exact ih
theorem Ents.any {H : Hp} {n : Nat} : ∀ {L : List (Nat × D)} {kvs : List (Key × V)}, Ents H L kvs → (kvs.any fun kv => decide (kv.1 = Sum.inl (n : Int))) = L.any fun p => decide (p.1 = n)
  | [], kvs, h => by rw [show kvs = [] from h]; rfl
  | e :: L, kvs, h => by
    obtain ⟨v, r, rfl, h1, h2⟩ := h
    rw [List.any_cons, List.any_cons, h2.any]
    congr 1
    exact decide_eq_decide.mpr ⟨fun z => by injection z with z2; omega, fun z => by rw [z]⟩
theorem Ents.snoc {H : Hp} {n : Nat} {d : D} {v : V} (hv : Rep H d v) : ∀ {L : List (Nat × D)} {kvs : List (Key × V)}, Ents H L kvs → Ents H (L ++ [(n, d)]) (kvs ++ [(Sum.inl (n : Int), v)])
  | [], kvs, h => by rw [show kvs = [] from h]; exact ⟨v, [], rfl, hv, rfl⟩
  | e :: L, kvs, h => by
    obtain ⟨u, r, rfl, h1, h2⟩ := h
    exact ⟨u, _, rfl, h1, h2.snoc hv⟩
theorem Ents.repl {H : Hp} {n : Nat} {d : D} {v : V} (hv : Rep H d v) : ∀ {L : List (Nat × D)} {kvs : List (Key × V)}, Ents H L kvs → Ents H (L.map fun p => if p.1 = n then (p.1, d) else p) (kvs.map fun kv => if kv.1 = Sum.inl (n : Int) then (kv.1, v) else kv)
  | [], kvs, h => by rw [show kvs = [] from h]; rfl
  | e :: L, kvs, h => by
    obtain ⟨u, r, rfl, h1, h2⟩ := h
    rw [List.map_cons, List.map_cons]
    by_cases c : e.1 = n
    · refine ⟨v, _, ?_, ?_, h2.repl hv⟩
      · rw [if_pos c, if_pos (by show Sum.inl (e.1 : Int) = Sum.inl (n : Int); rw [c])]
      · rw [if_pos c]; exact hv
    · have c2 : ¬ (Sum.inl (e.1 : Int) : Key) = Sum.inl (n : Int) := fun z => c (by injection z with z2; omega)
      refine ⟨u, _, ?_, ?_, h2.repl hv⟩
      · rw [if_neg c, if_neg c2]
      · rw [if_neg c]; exact h1
theorem Ents.put {H : Hp} {n : Nat} {d : D} {v : V} {L : List (Nat × D)} {kvs : List (Key × V)} (h : Ents H L kvs) (hv : Rep H d v) : Ents H (CH.put L n d) (putK kvs (Sum.inl (n : Int)) v) := by
  unfold CH.put putK
  rw [h.any (n := n)]
  split
  · exact h.repl hv
  · exact h.snoc hv
theorem DctAt.rd {H : Hp} {p : Addr} {L : List (Nat × D)} (h : DctAt H p L) : DctRd H p L := by
  obtain ⟨kvs, e, r⟩ := h
  exact ⟨kvs, .inl e, r⟩
theorem DctAt.same {H H' : Hp} {p : Addr} {L : List (Nat × D)} (s : Same H H') (h : DctAt H p L) : DctAt H' p L := by
  obtain ⟨kvs, e, r⟩ := h
  exact ⟨kvs, s _ _ e, r.up (TupLe.of_same s)⟩
theorem DctRd.same {H H' : Hp} {p : Addr} {L : List (Nat × D)} (s : Same H H') (h : DctRd H p L) : DctRd H' p L := by
  obtain ⟨kvs, e, r⟩ := h
  refine ⟨kvs, ?_, r.up (TupLe.of_same s)⟩
  rcases e with e | ⟨o, e⟩
  · exact .inl (s _ _ e)
  · exact .inr ⟨o, s _ _ e⟩
theorem DctRd.gotS {H : Hp} {p : Addr} {L : List (Nat × D)} (h : DctRd H p L) {n : Nat} {d : D} (e : CH.look L n = some d) : ∃ v, DGet H p (.int (n : Int)) (some v) ∧ Rep H d v := by
  obtain ⟨kvs, r, t⟩ := h
  have g := t.get (n := n)
  rw [e] at g
  obtain ⟨v, hv, rv⟩ := g
  exact ⟨v, .inl ⟨kvs, Sum.inl (n : Int), r, rfl, hv.symm⟩, rv⟩
theorem DctRd.gotN {H : Hp} {p : Addr} {L : List (Nat × D)} (h : DctRd H p L) {n : Nat} (e : CH.look L n = none) : DGet H p (.int (n : Int)) none := by
  obtain ⟨kvs, r, t⟩ := h
  have g := t.get (n := n)
  rw [e] at g
  exact .inl ⟨kvs, Sum.inl (n : Int), r, rfl, g.symm⟩
theorem DctAt.put {H : Hp} {p : Addr} {L : List (Nat × D)} (h : DctAt H p L) {n : Nat} {d : D} {v : V} (hv : Rep H d v) (hl : L.length < sizeLine) :
    ∃ H', DPut H p (.int (n : Int)) v H' ∧ (∀ H0 : Hp, H0 p = none → Same H0 H → Same H0 H') ∧ TupLe H H' ∧ (∀ b, b ≠ p → H' b = H b) ∧ DctAt H' p (CH.put L n d) := by
  obtain ⟨kvs, e, t⟩ := h
  exact ⟨_, DPut.k (k := Sum.inl (n : Int)) e (by rw [t.len]; exact hl), fun H0 h0 s => Same.upd s h0, TupLe.upd_dK e, fun b hb => upd_ne hb, _, upd_same, (t.put hv).up (TupLe.upd_dK e)⟩
theorem DctAt.nil {H : Hp} {p : Addr} (h : H p = none) : DctAt (upd H p (.dK [])) p [] := ⟨[], upd_same, rfl⟩
theorem look_map {α β : Type} (g : α → β) (L : List (Nat × α)) (k : Nat) : CH.look (L.map fun e => (e.1, g e.2)) k = (CH.look L k).map g := by
  induction L with
  | nil => rfl
  | cons e L ih =>
    rw [List.map_cons, CH.look_cons, CH.look_cons, ih]
    by_cases h : e.1 = k
    · rw [if_pos h, if_pos h]; rfl
    · rw [if_neg h, if_neg h]
theorem put_map {α β : Type} (g : α → β) (L : List (Nat × α)) (k : Nat) (x : α) : CH.put (L.map fun e => (e.1, g e.2)) k (g x) = (CH.put L k x).map fun e => (e.1, g e.2) := by
  unfold CH.put
  have e : ((L.map fun e => (e.1, g e.2)).any fun p => decide (p.1 = k)) = L.any fun p => decide (p.1 = k) := by rw [List.any_map]; rfl
  rw [e]
  split
  · rw [List.map_map, List.map_map]
    refine List.map_congr_left fun p _ => ?_
    show (if p.1 = k then (p.1, g x) else (p.1, g p.2)) = _
    by_cases c : p.1 = k
    · rw [if_pos c]; show _ = (fun e : Nat × α => (e.1, g e.2)) (if p.1 = k then (p.1, x) else p); rw [if_pos c]
    · rw [if_neg c]; show _ = (fun e : Nat × α => (e.1, g e.2)) (if p.1 = k then (p.1, x) else p); rw [if_neg c]
  · rw [List.map_append]; rfl
/-! ### levels as dicts -/
abbrev Lv := CH.Lvl Str
def dEnt (x : Int × Nat × Str) : D := .t [.a (.int x.1), dN x.2.1, .a (.str x.2.2)]
def lvD (L : Lv) : List (Nat × D) := L.map fun e => (e.1, dEnt e.2)
def dStp (s : CH.Stp Str) : D := .t [dN s.1, dN s.2.1, .a (.int s.2.2.1), .a (.str s.2.2.2)]
def stp (s : Step) : CH.Stp Str := (s.1, s.2.1, s.2.2.1, ⟨#[s.2.2.2]⟩)
theorem stps_eq (l : List Step) : l.map dStep = (l.map stp).map dStp := by rw [List.map_map]; rfl
theorem raise1_len (low acc : Lv) (s : CH.Stp Str) : (CH.raise1 low acc s).length ≤ acc.length + 1 := by
  unfold CH.raise1
  split
  · omega
  · split
    · exact CH.put_len _ _ _
    · split
      · exact CH.put_len _ _ _
      · omega
theorem raises_len (low : Lv) (ss : List (CH.Stp Str)) (acc : Lv) : (ss.foldl (CH.raise1 low) acc).length ≤ acc.length + ss.length := by
  induction ss generalizing acc with
  | nil => exact Nat.le_refl _
  | cons s ss ih =>
    rw [List.foldl_cons, List.length_cons]
    have := ih (CH.raise1 low acc s)
    have := raise1_len low acc s
    omega
def spRaised : Sp := fun vs H Q _ => ∃ a p low ss, vs = [.ref a, .ref p] ∧ DctRd H a (lvD low) ∧ LstAt H p (ss.map dStp) ∧ ss.length ≤ 1200 ∧ ∀ q H', Same H H' → H q = none → DctAt H' q (lvD (CH.raised low ss)) → Q (.ref q) H'
section
variable {P : Program} {w : World} {K : PySem.W.Frag} {mg : Str → Option Value} {base : Heap}
abbrev s_raised : Stmt := top 60
theorem sc_raised : FnScope ["low", "steps", "found", "one", "other", "cost", "letter", "whole"] ["low", "steps"] (defScope s_raised) := ⟨rfl, rfl, rfl, by decide +kernel, rfl, by decide +kernel, by decide +kernel⟩
theorem ok_raised (T : Txt w K mg) : Cal P w K mg base CX0 1 "raised" spRaised := by
  refine cal_ok T.d_raised (fun _ _ _ _ _ _ us hl => match us, hl with | [_, _], _ => rfl) sc_raised (fun vs H Q E h => ?_) (fun cdv A outer s f H vs Q E hr h => ?_)
  · obtain ⟨_, _, _, _, rfl, _⟩ := h; rfl
  · obtain ⟨a, p, low, ss, rfl, ha, hp, hlen, k⟩ := h
    refine ⟨_, PSs.nox (pss_cons (ps_set (i := 2) sc_raised.nd rfl (Or.inl rfl) pe_dnewK)
      (pss_cons (ps_for PassesOwn.never rfl (pi_list (pv 1)) (pg_tup (n := 4) rfl (pgs_cons (pg_name (i := 3) sc_raised.nd rfl (Or.inl rfl)) (pgs_cons (pg_name (i := 4) sc_raised.nd rfl (Or.inl rfl)) (pgs_cons (pg_name (i := 5) sc_raised.nd rfl (Or.inl rfl)) (pgs_cons (pg_name (i := 6) sc_raised.nd rfl (Or.inl rfl)) pgs_nil)))))
      (pss_one (ps_if (pt_cmp (pc_din (hu_of hr) (pv 3) (pv 0))) (pss_cons (ps_set (i := 7) sc_raised.nd rfl (Or.inl rfl) (pe_op op_add (pe_ix (ix_tupQ K) (pe_dget (hu_of hr) (pv 0) (pv 3) (fun _ _ => rfl)) pe_int (fun _ _ => rfl)) (pv 5)))
      (pss_one (ps_if (PW.pt (pw_or (pt_cmp (pc_dnotin (hu_of hr) (pv 4) (pv 2))) (pw_or1 (pt_cmpR op_lt (pv 7) (pe_ix (ix_tupQ K) (pe_dget (hu_of hr) (pv 2) (pv 4) (fun _ _ => rfl)) pe_int (fun _ _ => rfl)) (nomark _))))) (pss_one (ps_dput (hu_of hr) (pv 2) (pv 4) (pe_tupQ (pa_cons (pv 7) (pa_cons (pv 3) (pa_cons (pv 6) pa_nil)))) rfl)) pss_nil))) pss_nil)))
      (pss_one (ps_ret (pv 2))))), ?_⟩
    obtain ⟨pv, hpv, rpv⟩ := id hp
    intro q hq
    have hpl : pv.length = ss.length := by rw [rpv.len, List.length_map]
    have s1 : Same H (upd H q (.dK [])) := Same.upd' hq
    refine ⟨_, rfl, p, rfl, ⟨_, SqL.of (s1 _ _ hpv)⟩, for_it (walk_list (xs := pv)) (fun i σ H4 => ∃ y3 y4 y5 y6 y7, σ = [some (.ref a), some (.ref p), some (.ref q), y3, y4, y5, y6, y7] ∧ Same H H4 ∧ DctAt H4 q (lvD ((ss.take i).foldl (CH.raise1 low) [])))
      ⟨none, none, none, none, none, rfl, s1, DctAt.nil hq⟩ (fun i σ H4 _ ⟨_, _, _, _, _, _, s4, _⟩ => SqL.of (s4 _ _ hpv)) ?_ ?_⟩
    · rintro i z σ Hx H4 hi ⟨y3, y4, y5, y6, y7, rfl, s4, hl4⟩ ⟨rfl, hz⟩
      obtain ⟨d, hd, rd⟩ := rpv.getV hz
      rw [List.getElem?_map, Option.map_eq_some_iff] at hd
      obtain ⟨sp, hsp, rfl⟩ := hd
      obtain ⟨T0, vs0, rfl, hT, r0⟩ := rd
      obtain ⟨v1, r1, e1, h1, r0⟩ := r0
      obtain ⟨v2, r2, e2, h2, r0⟩ := r0
      obtain ⟨v3, r3, e3, h3, r0⟩ := r0
      obtain ⟨v4, r4, e4, h4, r0⟩ := r0
      cases h1
      cases h2
      cases h3
      cases h4
      cases r0
      subst e4 e3 e2 e1
      refine ⟨T0, _, rfl, SqT.of (s4 _ _ hT), rfl, _, _, rfl, _, _, rfl, _, _, rfl, _, _, rfl, rfl, ?_⟩
      generalize hg : (ss.take i).foldl (CH.raise1 low) [] = g at hl4
      have hgl : g.length ≤ 1200 := by
        have := raises_len low (ss.take i) []
        rw [hg, List.length_take] at this
        simp at this
        omega
      have take1 : (ss.take (i + 1)).foldl (CH.raise1 low) [] = CH.raise1 low g sp := by
        rw [List.take_add_one, hsp, List.foldl_append, hg] <;> rfl
      refine ⟨_, rfl, _, rfl, ?_⟩
      cases e1 : CH.look low sp.1 with
      | none =>
        refine ⟨a, _, rfl, (ha.same s4).gotN (by rw [lvD, look_map, e1]; rfl), _, rfl, ?_⟩
        refine iteF ⟨_, _, _, _, _, rfl, s4, ?_⟩
        rw [take1]
        unfold CH.raise1
        rw [e1]
        exact hl4
      | some x =>
        obtain ⟨xv, gx, rx⟩ := (ha.same s4).gotS (n := sp.1) (d := dEnt x) (by rw [lvD, look_map, e1]; rfl)
        refine ⟨a, _, rfl, gx, _, rfl, ?_⟩
        refine iteT ⟨_, rfl, _, rfl, a, _, rfl, gx, r_ixT 0 rx rfl fun u hu => ?_⟩
        cases hu
        refine ⟨_, rfl, _, _, rfl, rfl, ?_⟩
        refine ⟨_, rfl, _, rfl, ?_⟩
        have fin : ∀ H' : Hp, Same H H' → DctAt H' q (lvD (CH.raise1 low g sp)) → ∃ y3 y4 y5 y6 y7, [some (V.ref a), some (.ref p), some (.ref q), some (.int (sp.1 : Int)), some (.int (sp.2.1 : Int)), some (.int sp.2.2.1), some (.str sp.2.2.2), some (.int (x.1 + sp.2.2.1))] = [some (.ref a), some (.ref p), some (.ref q), y3, y4, y5, y6, y7] ∧ Same H H' ∧ DctAt H' q (lvD ((ss.take (i + 1)).foldl (CH.raise1 low) [])) := fun H' s' h' => ⟨_, _, _, _, _, rfl, s', by rw [take1]; exact h'⟩
        have store : ∀ (hr1 : CH.raise1 low g sp = CH.put g sp.2.1 (x.1 + sp.2.2.1, sp.1, sp.2.2.2)), _ := fun hr1 v6 H6 (s6 : Same H4 H6) (h6 : Rep H6 (dEnt (x.1 + sp.2.2.1, sp.1, sp.2.2.2)) v6) => (hl4.same s6).put (n := sp.2.1) h6 (by rw [lvD, List.length_map]; exact Nat.lt_of_le_of_lt hgl (by decide))
        cases e2 : CH.look g sp.2.1 with
        | none =>
          refine ⟨q, _, rfl, hl4.rd.gotN (by rw [lvD, look_map, e2]; rfl), _, rfl, ?_⟩
          have hr1 : CH.raise1 low g sp = CH.put g sp.2.1 (x.1 + sp.2.2.1, sp.1, sp.2.2.2) := by
            unfold CH.raise1
            rw [e1]
            simp only [e2]
          refine iteT (iteT ⟨_, rfl, _, rfl, _, rfl, r_tup (ds := [.a (.int (x.1 + sp.2.2.1)), dN sp.1, .a (.str sp.2.2.2)]) (Reps.cons rfl (Reps.cons rfl (Reps.cons rfl Reps.nil))) (small (by simp)) fun v6 H6 s6 h6 => ?_⟩)
          obtain ⟨H7, dp, k7, t7, _, d7⟩ := store hr1 v6 H6 s6 h6
          refine ⟨_, rfl, _, rfl, q, H7, rfl, dp, fin H7 (k7 H hq (s4.trans s6)) ?_⟩
          rw [hr1]
          unfold lvD at d7 ⊢
          rw [put_map] at d7
          exact d7
        | some y =>
          obtain ⟨yv, gy, ry⟩ := hl4.rd.gotS (n := sp.2.1) (d := dEnt y) (by rw [lvD, look_map, e2]; rfl)
          refine ⟨q, _, rfl, gy, _, rfl, ?_⟩
          refine iteF ⟨_, rfl, _, rfl, _, rfl, q, _, rfl, gy, r_ixT 0 ry rfl fun u hu => ?_⟩
          cases hu
          refine ⟨_, _, rfl, rfl, _, rfl, ?_⟩
          refine ite2 (fun hc => ?_) (fun hc => ?_)
          · have hc2 := of_decide_eq_true hc
            have hr1 : CH.raise1 low g sp = CH.put g sp.2.1 (x.1 + sp.2.2.1, sp.1, sp.2.2.2) := by
              unfold CH.raise1
              rw [e1]
              simp only [e2]
              rw [if_pos hc2]
            refine ⟨_, rfl, _, rfl, _, rfl, r_tup (ds := [.a (.int (x.1 + sp.2.2.1)), dN sp.1, .a (.str sp.2.2.2)]) (Reps.cons rfl (Reps.cons rfl (Reps.cons rfl Reps.nil))) (small (by simp)) fun v6 H6 s6 h6 => ?_⟩
            obtain ⟨H7, dp, k7, t7, _, d7⟩ := store hr1 v6 H6 s6 h6
            refine ⟨_, rfl, _, rfl, q, H7, rfl, dp, fin H7 (k7 H hq (s4.trans s6)) ?_⟩
            rw [hr1]
            unfold lvD at d7 ⊢
            rw [put_map] at d7
            exact d7
          · have hc2 : ¬ (x.1 + sp.2.2.1 < y.1) := fun z => hc (decide_eq_true z)
            refine fin H4 s4 ?_
            unfold CH.raise1
            rw [e1]
            simp only [e2]
            rw [if_neg hc2]
            exact hl4
    · rintro σ H4 ⟨y3, y4, y5, y6, y7, rfl, s4, hl4⟩
      rw [List.take_of_length_le (by omega)] at hl4
      exact ⟨_, rfl, k q H4 s4 hq hl4⟩
end
end L2.Ww
set_option Elab.async false
set_option linter.all false
set_option maxRecDepth 100000
set_option maxHeartbeats 4000000
/-! More rules by data: slices, last items, index, locks. -/
namespace L2.Ww
open PySem PySem.Spec PyProof.Rows
theorem ip_addS {X : Cx} : PIp X .Add (fun x y H Q => ∃ i j, x = .str i ∧ y = .str j ∧ i.length + j.length ≤ sizeLine ∧ Q (.str (i ++ j)) H) := iop_add_str
theorem ip_ext {X : Cx} : PIp X .Add rExt2 := iop_ext
@[irreducible] def qSlL (K : PySem.W.Frag) : V → Option Int → Option Int → Hp → VK → Prop := rSlL K
@[irreducible] def qSlA (K : PySem.W.Frag) : V → Option Int → Option Int → Hp → VK → Prop := rSlA K
@[irreducible] def qIdx (K : PySem.W.Frag) : V → List V → Hp → VK → Prop := rIndex K
section
variable {X : Cx} (K : PySem.W.Frag)
theorem sl_listQ (hK : X.K = K := by rfl) : SlR X (qSlL K) := by unfold qSlL; exact hK ▸ sl_list
theorem sl_tupAQ (hK : X.K = K := by rfl) : SlR X (qSlA K) := by unfold qSlA; exact hK ▸ sl_tupA
theorem mt_indexQ (hK : X.K = K := by rfl) : MtR X "list.index" (qIdx K) := by unfold qIdx; exact hK ▸ mt_index
end
/-- a cut of data -/
def cutD {α : Type} (ds : List α) (lo hi : Option Int) : List α := (ds.drop (HT.sIx ds.length 0 lo)).take (HT.sIx ds.length ds.length hi - HT.sIx ds.length 0 lo)
theorem Reps.cut {H : Hp} {ds : List D} {vs : List V} (h : Reps H ds vs) (lo hi : Option Int) : Reps H (cutD ds lo hi) (cutV vs lo hi) := by
  unfold cutD cutV
  rw [h.len]
  exact (h.drop _).take _
theorem cutD_pre {α : Type} (ds : List α) (k : Nat) (h : k ≤ ds.length) : cutD ds none (some (k : Int)) = ds.take k := by
  unfold cutD
  rw [HT.sIx_none, HT.sIx_nat, Nat.min_eq_left h, List.drop_zero, Nat.sub_zero]
theorem cutD_suf {α : Type} (ds : List α) (k : Nat) (h : k ≤ ds.length) : cutD ds (some (k : Int)) none = ds.drop k := by
  unfold cutD
  rw [HT.sIx_none, HT.sIx_nat, Nat.min_eq_left h, List.take_of_length_le (by rw [List.length_drop]; exact Nat.le_refl _)]
theorem cutD_mid {α : Type} (ds : List α) (j k : Nat) (h : k ≤ ds.length) (hj : j ≤ k) : cutD ds (some (j : Int)) (some (k : Int)) = (ds.drop j).take (k - j) := by
  unfold cutD
  rw [HT.sIx_nat, HT.sIx_nat, Nat.min_eq_left h, Nat.min_eq_left (Nat.le_trans hj h)]
theorem sIx_neg1 (n d : Nat) : HT.sIx n d (some (-1)) = n - 1 := by
  show (if (-1 : Int) < 0 then ((-1 : Int) + (n : Int)).toNat else min (-1 : Int).toNat n) = n - 1
  rw [if_pos (by decide)]
  omega
theorem cutD_last {α : Type} (ds : List α) : cutD ds none (some (-1)) = ds.take (ds.length - 1) := by
  unfold cutD
  rw [HT.sIx_none, sIx_neg1, List.drop_zero, Nat.sub_zero]
section
variable {K : PySem.W.Frag} {H : Hp} {Q : VK} {x : V} {ds : List D}
theorem r_slL {p : Addr} {lo hi : Option Int} (h : LstAt H p ds) (k : GivesL H (cutD ds lo hi) Q) : qSlL K (.ref p) lo hi H Q := by
  obtain ⟨vs, hp, r⟩ := h
  unfold qSlL
  exact ⟨p, vs, rfl, SqL.of hp, fun l hl => k l _ (Same.upd' hl) hl ⟨_, upd_same, (r.cut lo hi).up (TupLe.upd_none hl)⟩⟩
theorem cutD_whole {α : Type} {ds : List α} {lo hi : Option Int} (h : HT.sIx ds.length 0 lo = 0 ∧ HT.sIx ds.length ds.length hi = ds.length) : cutD ds lo hi = ds := by
  unfold cutD
  rw [h.1, h.2, List.drop_zero, Nat.sub_zero, List.take_length]
theorem r_slT {lo hi : Option Int} (h : Rep H (.t ds) x) (k : Gives H (.t (cutD ds lo hi)) Q) : qSlA K x lo hi H Q := by
  obtain ⟨p, vs, rfl, hp, r⟩ := h
  unfold qSlA
  refine ⟨p, vs, rfl, SqT.of hp, fun e => ?_, fun _ l hl => k _ _ (Same.upd' hl) ⟨l, _, rfl, upd_same, (r.cut lo hi).up (TupLe.upd_none hl)⟩⟩
  rw [r.len] at e
  refine k _ _ (Same.refl H) ⟨p, vs, rfl, hp, ?_⟩
  rw [cutD_whole e]
  exact r
theorem Reps.inv {H : Hp} : ∀ {ds : List D} {vs : List V} {d : D}, Reps H (ds ++ [d]) vs → ∃ us v, vs = us ++ [v] ∧ Reps H ds us ∧ Rep H d v
  | [], vs, d, h => by
    obtain ⟨v, r, e, h1, h2⟩ := h
    rw [show r = [] from h2] at e
    exact ⟨[], v, e, Reps.nil, h1⟩
  | e :: ds, vs, d, h => by
    obtain ⟨v, r, rfl, h1, h2⟩ := h
    obtain ⟨us, u, rfl, h3, h4⟩ := Reps.inv h2
    exact ⟨v :: us, u, rfl, Reps.cons h1 h3, h4⟩
/-- xs[-1] -/
theorem r_ixLast {p : Addr} {d : D} (h : LstAt H p (ds ++ [d])) (k : ∀ v, Rep H d v → Q v H) : qIxL K (.ref p) (.int (-1)) H Q := by
  obtain ⟨vs, hp, r⟩ := h
  obtain ⟨us, v, rfl, _, hv⟩ := Reps.inv r
  unfold qIxL
  exact ⟨p, _, _, v, rfl, rfl, SqL.of hp, atI_last us v, k v hv⟩
end
/-! ### locks -/
theorem same_lock {H H2 : Hp} {d : Addr} (o : HO) (s : Same H H2) : Same (upd H d o) (upd H2 d o) := fun b u e => by
  by_cases hb : b = d
  · rw [hb] at e ⊢
    rw [upd_same] at e ⊢
    exact e
  · rw [upd_ne hb] at e ⊢
    exact s b u e
theorem same_unlock {H H3 : Hp} {d : Addr} {o u : HO} (s : Same (upd H d o) H3) (hd : H d = some u) : Same H (upd H3 d u) := fun b x e => by
  by_cases hb : b = d
  · rw [hb] at e ⊢
    rw [hd] at e
    cases e
    exact upd_same
  · rw [upd_ne hb]
    exact s b x (by rw [upd_ne hb]; exact e)
theorem tup_lock {H : Hp} {d : Addr} {o : HO} {kvs : List (Key × V)} (hd : H d = some (.dK kvs)) : TupLe H (upd H d o) := TupLe.upd_dK hd
theorem tup_unlock {H : Hp} {d : Addr} {o u : HO} {od : Obj} (hd : H d = some (.frz od u)) : TupLe H (upd H d o) := TupLe.upd fun vs e => by rw [hd] at e; cases e
theorem DctRd.lock {H : Hp} {a d : Addr} {L : List (Nat × D)} {od : Obj} {kvs : List (Key × V)} (h : DctRd H a L) (hd : H d = some (.dK kvs)) : DctRd (upd H d (.frz od (.dK kvs))) a L := by
  obtain ⟨ks, r, t⟩ := h
  refine ⟨ks, ?_, t.up (tup_lock hd)⟩
  by_cases e : a = d
  · subst e
    rcases r with r | ⟨o, r⟩
    · rw [hd] at r
      cases r
      exact .inr ⟨od, upd_same⟩
    · rw [hd] at r; cases r
  · rcases r with r | ⟨o, r⟩
    · exact .inl (by rw [upd_ne e]; exact r)
    · exact .inr ⟨o, by rw [upd_ne e]; exact r⟩
/-! ### lists of dicts -/
def LvsAt (H : Hp) (p : Addr) (f : Nat → List (Nat × D)) (n : Nat) : Prop := ∃ as : List Addr, as.length = n ∧ LstAt H p (as.map fun a => D.a (.ref a)) ∧ ∀ j a, as[j]? = some a → DctAt H a (f j)
def LvsRd (H : Hp) (p : Addr) (f : Nat → List (Nat × D)) (n : Nat) : Prop := ∃ as : List Addr, as.length = n ∧ LstAt H p (as.map fun a => D.a (.ref a)) ∧ ∀ j a, as[j]? = some a → DctRd H a (f j)
theorem LvsAt.rd {H : Hp} {p : Addr} {f : Nat → List (Nat × D)} {n : Nat} (h : LvsAt H p f n) : LvsRd H p f n := by
  obtain ⟨as, e, hl, hd⟩ := h
  exact ⟨as, e, hl, fun j a ha => (hd j a ha).rd⟩
theorem LstAt.lock {H : Hp} {p d : Addr} {ds : List D} {o : HO} {kvs : List (Key × V)} (h : LstAt H p ds) (hd : H d = some (.dK kvs)) : LstAt (upd H d o) p ds := by
  obtain ⟨vs, hp, r⟩ := h
  have hne : p ≠ d := fun e => by rw [e, hd] at hp; cases hp
  exact ⟨vs, by rw [upd_ne hne]; exact hp, r.up (tup_lock hd)⟩
theorem LvsRd.lock {H : Hp} {p d : Addr} {f : Nat → List (Nat × D)} {n : Nat} {od : Obj} {kvs : List (Key × V)} (h : LvsRd H p f n) (hd : H d = some (.dK kvs)) : LvsRd (upd H d (.frz od (.dK kvs))) p f n := by
  obtain ⟨as, e, hl, ha⟩ := h
  exact ⟨as, e, hl.lock hd, fun j a q => (ha j a q).lock hd⟩
theorem LvsAt.same {H H' : Hp} {p : Addr} {f : Nat → List (Nat × D)} {n : Nat} (s : Same H H') (h : LvsAt H p f n) : LvsAt H' p f n := by
  obtain ⟨as, e, hl, ha⟩ := h
  exact ⟨as, e, hl.same s, fun j a q => (ha j a q).same s⟩
theorem LvsRd.same {H H' : Hp} {p : Addr} {f : Nat → List (Nat × D)} {n : Nat} (s : Same H H') (h : LvsRd H p f n) : LvsRd H' p f n := by
  obtain ⟨as, e, hl, ha⟩ := h
  exact ⟨as, e, hl.same s, fun j a q => (ha j a q).same s⟩
end L2.Ww
set_option Elab.async false
set_option linter.all false
set_option maxRecDepth 100000
set_option maxHeartbeats 4000000
/-! levels_of, prices_of -/
namespace L2.Ww
open PySem PySem.Spec PyProof.Rows
def stF (r : List Wt) (u : Nat) : Wt := (r[u]?).getD none
def levM (M : Mach) (us : List Nat) (ss : List (CH.Stp Str)) (k : Nat) : Lv := CH.lev (stF M.st) (⟨#[]⟩ : Str) us ss k
def spLevels : Sp := fun vs H Q _ => ∃ a p q M us ss, vs = [a, .ref p, .ref q] ∧ Rep H (dMach M) a ∧ M.WF ∧ LstAt H p (dNs us) ∧ (∀ u ∈ us, u < M.st.length) ∧ us.length ≤ 20 ∧ LstAt H q (ss.map dStp) ∧ ss.length ≤ 1200 ∧
  ∀ l H', Same H H' → H l = none → LvsAt H' l (fun j => lvD (levM M us ss j)) (us.length + 1) → Q (.ref l) H'
def pD (P : List (Nat × Int)) : List (Nat × D) := P.map fun e => (e.1, D.a (.int e.2))
def spPrices : Sp := fun vs H Q _ => ∃ p f n, vs = [.ref p] ∧ n ≤ 20 ∧ (∀ j, (f j : Lv).length ≤ 1200) ∧ LvsAt H p (fun j => lvD (f j)) (n + 1) ∧
  ∀ l H', Same H H' → H l = none → DctAt H' l (pD (CH.prices ((List.range n).map f))) → Q (.ref l) H'
theorem lev0_step (st : Nat → Option Int) (z : Str) (us : List Nat) (u : Nat) : CH.level0 st z (us ++ [u]) = match st u with | none => CH.level0 st z us | some a => CH.put (CH.level0 st z us) u (a, u, z) := by
  unfold CH.level0
  rw [List.foldl_append]
  rfl
theorem fold_len {α β : Type} (g : List α → β → List α) (h : ∀ L u, (g L u).length ≤ L.length + 1) (us : List β) (L : List α) : (us.foldl g L).length ≤ L.length + us.length := by
  induction us generalizing L with
  | nil => exact Nat.le_refl _
  | cons u us ih =>
    rw [List.foldl_cons, List.length_cons]
    refine Nat.le_trans (ih _) ?_
    have := h L u
    omega
theorem lev0_len (st : Nat → Option Int) (z : Str) (us : List Nat) : (CH.level0 st z us).length ≤ us.length := by
  unfold CH.level0
  refine Nat.le_trans (fold_len _ (fun L u => ?_) us []) (by simp)
  split
  · omega
  · exact CH.put_len _ _ _
theorem lev_len (M : Mach) (us : List Nat) (ss : List (CH.Stp Str)) (hu : us.length ≤ 20) (hs : ss.length ≤ 1200) (k : Nat) : (levM M us ss k).length ≤ 1200 := by
  cases k with
  | zero => exact Nat.le_trans (lev0_len _ _ _) (by omega)
  | succ k =>
    have := raises_len (levM M us ss k) ss []
    exact Nat.le_trans this (by simpa using hs)
section
variable {P : Program} {w : World} {K : PySem.W.Frag} {mg : Str → Option Value} {base : Heap}
abbrev s_levels_of : Stmt := top 61
theorem sc_levels_of : FnScope ["machine", "some", "steps", "levels", "room"] ["machine", "some", "steps"] (defScope s_levels_of) := ⟨rfl, rfl, rfl, by decide +kernel, rfl, by decide +kernel, by decide +kernel⟩
theorem ok_levels_of (T : Txt w K mg) : Cal P w K mg base CX0 2 "levels_of" spLevels := by
  refine cal_ok T.d_levels_of (fun _ _ _ _ _ _ us hl => match us, hl with | [_, _, _], _ => rfl) sc_levels_of (fun vs H Q E h => ?_) (fun cdv A outer s f H vs Q E hr h => ?_)
  · obtain ⟨_, _, _, _, _, _, rfl, _⟩ := h; rfl
  · obtain ⟨a, ps, qs, M, us, ss, rfl, ha, wM, hs, hu, hul, hq, hsl, k⟩ := h
    refine ⟨_, PSs.nox (pss_cons (ps_set (i := 3) sc_levels_of.nd rfl (Or.inl rfl) (pe_lstQ (pa_cons pe_dnewK pa_nil)))
      (pss_cons (ps_for PassesOwn.never rfl (pi_list (pv 1)) (pg_name (i := 4) sc_levels_of.nd rfl (Or.inl rfl))
      (pss_one (ps_if (pt_cmpR op_notN (pe_ix (ix_tupQ K) (pe_ix (ix_tupQ K) (pv 0) pe_int (fun _ _ => rfl)) (pv 4) (fun _ _ => rfl)) pe_non (nomark _)) (pss_one (ps_dput (hu_of hr) (pe_ix (ix_listQ K) (pv 3) pe_int (fun _ _ => rfl)) (pv 4) (pe_tupQ (pa_cons (pe_ix (ix_tupQ K) (pe_ix (ix_tupQ K) (pv 0) pe_int (fun _ _ => rfl)) (pv 4) (fun _ _ => rfl)) (pa_cons (pv 4) (pa_cons pe_str pa_nil)))) rfl)) pss_nil)))
      (pss_cons (ps_for PassesOwn.never rfl (pi_list (pv 1)) (pg_name (i := 4) sc_levels_of.nd rfl (Or.inl rfl))
      (pss_one (ps_expr (pe_bm PySem.F.plainAttrs_list PySem.F.slot_list_append PySem.F.type_list_append mt_appQ (pv 3) (pa_cons (pe_c0 (ok_raised T) hr (by decide) rfl (pa_cons (pe_ix (ix_listQ K) (pv 3) (pe_un un_neg pe_int) (fun _ _ => rfl)) (pa_cons (pv 2) pa_nil))) pa_nil)))))
      (pss_one (ps_ret (pv 3)))))), ?_⟩
    have hps := lst_ns hs
    intro d0 hd0
    have s1 : Same H (upd H d0 (.dK [])) := Same.upd' hd0
    have hdn : DctAt (upd H d0 (.dK [])) d0 [] := DctAt.nil hd0
    generalize upd H d0 (.dK []) = H1 at s1 hdn
    refine r_lst (ds := [.a (.ref d0)]) (Reps.cons rfl Reps.nil) (small (by simp)) fun p H2 s2 hp hl => ?_
    have hpn : H p = none := by
      cases e : H p with
      | none => rfl
      | some o => rw [s1 _ _ e] at hp; cases hp
    have hpd : p ≠ d0 := fun e => by
      obtain ⟨kvs, e2, _⟩ := hdn
      rw [e, e2] at hp; cases hp
    refine ⟨_, rfl, ps, rfl, ⟨_, SqL.of ((s1.trans s2) _ _ hps)⟩, for_it (walk_list (xs := us.map fun (n : Nat) => V.int (n : Int))) (fun i σ H4 => ∃ y4, σ = [some a, some (.ref ps), some (.ref qs), some (.ref p), y4] ∧ Same H H4 ∧ LstAt H4 p [.a (.ref d0)] ∧ DctAt H4 d0 (lvD (CH.level0 (stF M.st) (⟨#[]⟩ : Str) (us.take i))))
      ⟨none, rfl, s1.trans s2, hl, hdn.same s2⟩ (fun i σ H4 _ ⟨_, _, s4, _⟩ => SqL.of (s4 _ _ hps)) ?_ ?_⟩
    · rintro i z σ Hx H4 hi ⟨y4, rfl, s4, hl4, hd4⟩ ⟨rfl, hz⟩
      rw [List.getElem?_map, Option.map_eq_some_iff] at hz
      obtain ⟨u, hu1, rfl⟩ := hz
      have hun := hu u (List.mem_of_getElem? hu1)
      have hmu : M.st[u]? = some M.st[u] := List.getElem?_eq_getElem hun
      have hst : stF M.st u = M.st[u] := by unfold stF; rw [hmu]; rfl
      have take1 : us.take (i + 1) = us.take i ++ [u] := by rw [List.take_add_one, hu1] <;> rfl
      refine ⟨_, rfl, r_ixT 1 (ha.same s4) rfl fun sv hsv => ⟨_, rfl, r_ixT u hsv (by rw [List.getElem?_map, hmu] <;> rfl) fun c hc => ?_⟩⟩
      cases rep_W hc
      refine ⟨rfl, _, rfl, ?_⟩
      cases hc2 : M.st[u] with
      | none =>
        refine iteF ⟨_, rfl, s4, hl4, ?_⟩
        rw [take1, lev0_step, hst, hc2]
        exact hd4
      | some c =>
        refine iteT ⟨_, rfl, r_ixT 1 (ha.same s4) rfl fun sv hsv => ⟨_, rfl, r_ixT u hsv (by rw [List.getElem?_map, hmu] <;> rfl) fun c1 hc1 => ?_⟩⟩
        cases rep_W hc1
        rw [hc2]
        refine ⟨_, rfl, r_tup (ds := [.a (.int c), dN u, .a (.str ⟨#[]⟩)]) (Reps.cons rfl (Reps.cons rfl (Reps.cons rfl Reps.nil))) (small (by simp)) fun v6 H6 s6 h6 => ?_⟩
        refine ⟨_, rfl, r_ixL 0 (hl4.same s6) rfl fun u0 hu0 => ?_⟩
        cases hu0
        obtain ⟨H7, dp, k7, t7, o7, d7⟩ := (hd4.same s6).put (n := u) (d := dEnt (c, u, (⟨#[]⟩ : Str))) h6 (by
          rw [lvD, List.length_map]
          exact Nat.lt_of_le_of_lt (Nat.le_trans (lev0_len _ _ _) (by rw [List.length_take]; show min i us.length ≤ 20; omega)) (by decide))
        refine ⟨_, rfl, d0, H7, rfl, dp, _, rfl, k7 H hd0 (s4.trans s6), ?_, ?_⟩
        · obtain ⟨vs, e1, e2⟩ := hl4.same s6
          exact ⟨vs, by rw [o7 p hpd]; exact e1, e2.up t7⟩
        · rw [take1, lev0_step, hst, hc2]
          unfold lvD at d7 ⊢
          rw [put_map] at d7
          exact d7
    · rintro σ H3 ⟨y4, rfl, s3, hl3, hd3⟩
      rw [List.length_map, List.take_length] at hd3
      refine ⟨_, rfl, ps, rfl, ⟨_, SqL.of (s3 _ _ hps)⟩, for_it (walk_list (xs := us.map fun (n : Nat) => V.int (n : Int))) (fun i σ H4 => ∃ y4, σ = [some a, some (.ref ps), some (.ref qs), some (.ref p), y4] ∧ Same H H4 ∧ LvsAt H4 p (fun j => lvD (levM M us ss j)) (i + 1))
        ⟨_, rfl, s3, [d0], rfl, hl3, fun j b hb => ?_⟩ (fun i σ H4 _ ⟨_, _, s4, _⟩ => SqL.of (s4 _ _ hps)) ?_ ?_⟩
      · cases j with
        | zero => cases hb; exact hd3
        | succ j => simp at hb
      · rintro i z σ Hx H4 hi ⟨y4, rfl, s4, hl4⟩ ⟨rfl, hz⟩
        rw [List.getElem?_map, Option.map_eq_some_iff] at hz
        obtain ⟨u, hu1, rfl⟩ := hz
        obtain ⟨as, hal, hll, hda⟩ := hl4
        obtain ⟨as', al, eas⟩ : ∃ as' al, as = as' ++ [al] := by
          rcases List.eq_nil_or_concat as with e | ⟨xs, x, e⟩
          · rw [e] at hal; simp at hal
          · exact ⟨xs, x, by rw [e] <;> simp⟩
        have hal' : as'.length = i := by rw [eas, List.length_append] at hal; simpa using hal
        have hdl : DctAt H4 al (lvD (levM M us ss i)) := hda i al (by rw [eas, ← hal']; simp)
        have hll2 : LstAt H4 p ((as'.map fun a => D.a (.ref a)) ++ [.a (.ref al)]) := by
          rw [eas, List.map_append] at hll; exact hll
        refine ⟨_, rfl, tyL hll, _, rfl, ?_⟩
        refine ⟨_, rfl, r_ixLast hll2 fun v hv => ?_⟩
        cases hv
        refine ⟨_, rfl, al, qs, levM M us ss i, ss, rfl, hdl.rd, hq.same s4, hsl, fun d H5 s5 hd5 hdd => ?_⟩
        have hdn : p ≠ d := fun e => by
          obtain ⟨vs, e2, _⟩ := hll
          rw [← e, e2] at hd5; cases hd5
        refine r_app (d := .a (.ref d)) (hll.same s5) rfl ?_ fun H7 k7 t7 o7 hl7 => ?_
        · rw [List.length_map, hal]
          exact Nat.lt_of_le_of_lt (show i + 1 ≤ 21 by rw [List.length_map] at hi; omega) (by decide)
        refine ⟨_, rfl, k7 H hpn (s4.trans s5), as ++ [d], by rw [List.length_append, hal]; rfl, by rw [List.map_append]; exact hl7, fun j b hb => ?_⟩
        have up7 : ∀ b L, DctAt H5 b L → DctAt H7 b L := fun b L hb => by
          obtain ⟨kvs, e1, e2⟩ := hb
          refine ⟨kvs, ?_, e2.up t7⟩
          rw [o7 b (fun e => by
            obtain ⟨vs, e3, _⟩ := hll.same s5
            rw [e, e3] at e1; cases e1)]
          exact e1
        rcases Nat.lt_or_ge j as.length with hj | hj
        · rw [List.getElem?_append_left hj] at hb
          exact up7 _ _ ((hda j b hb).same s5)
        · rw [List.getElem?_append_right hj] at hb
          have hj2 : j = i + 1 := by
            have := (List.getElem?_eq_some_iff.mp hb).1
            simp at this
            omega
          subst hj2
          rw [hal, Nat.sub_self] at hb
          cases hb
          exact up7 _ _ hdd
      · rintro σ H4 ⟨y4, rfl, s4, hl4⟩
        rw [List.length_map] at hl4
        exact ⟨_, rfl, k p H4 s4 hpn hl4⟩
end
end L2.Ww
set_option Elab.async false
set_option linter.all false
set_option maxRecDepth 100000
set_option maxHeartbeats 4000000
/-! prices_of -/
namespace L2.Ww
open PySem PySem.Spec PyProof.Rows
theorem Ents.at {H : Hp} : ∀ {L : List (Nat × D)} {kvs : List (Key × V)} {j : Nat} {kv : Key × V}, Ents H L kvs → kvs[j]? = some kv → ∃ e, L[j]? = some e ∧ kv.1 = Sum.inl (e.1 : Int) ∧ Rep H e.2 kv.2
  | [], kvs, j, kv, h, e => by rw [show kvs = [] from h] at e; simp at e
  | x :: L, kvs, j, kv, h, e => by
    obtain ⟨v, r, rfl, h1, h2⟩ := h
    cases j with
    | zero =>
      cases e
      exact ⟨x, rfl, rfl, h1⟩
    | succ j => exact h2.at (j := j) (by simpa using e)
theorem DctAt.up {H H' : Hp} {p : Addr} {L : List (Nat × D)} (h : DctAt H p L) (e : H' p = H p) (t : TupLe H H') : DctAt H' p L := by
  obtain ⟨kvs, e1, r⟩ := h
  exact ⟨kvs, by rw [e]; exact e1, r.up t⟩
theorem look_pD (P : List (Nat × Int)) (k : Nat) : CH.look (pD P) k = (CH.look P k).map fun x => D.a (.int x) := look_map (fun x : Int => D.a (.int x)) P k
theorem price_len (P : List (Nat × Int)) (e : Nat × (Int × Nat × Str)) : (CH.price1 P e).length ≤ P.length + 1 := by
  unfold CH.price1
  split
  · exact CH.put_len _ _ _
  · split
    · exact CH.put_len _ _ _
    · omega
def pri (f : Nat → Lv) (i : Nat) : List (Nat × Int) := CH.prices ((List.range i).map f)
theorem pri_succ (f : Nat → Lv) (i : Nat) : pri f (i + 1) = (f i).foldl CH.price1 (pri f i) := by
  unfold pri CH.prices
  rw [List.range_succ, List.map_append, List.foldl_append]
  rfl
theorem pri_len (f : Nat → Lv) (h : ∀ j, (f j).length ≤ 1200) (i : Nat) : (pri f i).length ≤ i * 1200 := by
  induction i with
  | zero => exact Nat.le_of_eq rfl
  | succ i ih =>
    rw [pri_succ]
    refine Nat.le_trans (fold_len _ price_len _ _) ?_
    have := h i
    omega
section
variable {P : Program} {w : World} {K : PySem.W.Frag} {mg : Str → Option Value} {base : Heap}
abbrev s_prices_of : Stmt := top 65
theorem sc_prices_of : FnScope ["levels", "prices", "level", "room", "told"] ["levels"] (defScope s_prices_of) := ⟨rfl, rfl, rfl, by decide +kernel, rfl, by decide +kernel, by decide +kernel⟩
theorem ok_prices_of (T : Txt w K mg) : Cal P w K mg base CX0 1 "prices_of" spPrices := by
  refine cal_ok T.d_prices_of (fun _ _ _ _ _ _ us hl => match us, hl with | [_], _ => rfl) sc_prices_of (fun vs H Q E h => ?_) (fun cdv A outer s f H vs Q E hr h => ?_)
  · obtain ⟨_, _, _, rfl, _⟩ := h; rfl
  · obtain ⟨p, fl, n, rfl, hn, hfl, hL, k⟩ := h
    refine ⟨_, PSs.nox (pss_cons (ps_set (i := 1) sc_prices_of.nd rfl (Or.inl rfl) pe_dnewK)
      (pss_cons (ps_for PassesOwn.never rfl (pi_list (pe_slice (sl_listQ K) (pv 0) po_none (po_some (pe_un un_neg pe_int)))) (pg_name (i := 2) sc_prices_of.nd rfl (Or.inl rfl))
      (pss_one (ps_lock (ps_for PassesOwn.never rfl (pi_items (pv 2)) (pg_tup (n := 2) rfl (pgs_cons (pg_name (i := 3) sc_prices_of.nd rfl (Or.inl rfl)) (pgs_cons (pg_name (i := 4) sc_prices_of.nd rfl (Or.inl rfl)) pgs_nil)))
      (pss_one (ps_if (PW.pt (pw_or (pt_cmp (pc_dnotin (hu_of hr) (pv 3) (pv 1))) (pw_or1 (pt_cmpR op_lt (pe_ix (ix_tupQ K) (pv 4) pe_int (fun _ _ => rfl)) (pe_dget (hu_of hr) (pv 1) (pv 3) (fun _ _ => rfl)) (nomark _))))) (pss_one (ps_dput (hu_of hr) (pv 1) (pv 3) (pe_ix (ix_tupQ K) (pv 4) pe_int (fun _ _ => rfl)) rfl)) pss_nil))))))
      (pss_one (ps_ret (pv 1))))), ?_⟩
    obtain ⟨as, hal, hll, hda⟩ := hL
    intro pr hpr
    have s1 : Same H (upd H pr (.dK [])) := Same.upd' hpr
    have hdn : DctAt (upd H pr (.dK [])) pr [] := DctAt.nil hpr
    generalize upd H pr (.dK []) = H1 at s1 hdn
    refine ⟨_, rfl, _, rfl, _, rfl, r_slL (hll.same s1) fun q H2 s2 hq hl2 => ?_⟩
    have ecut : cutD (as.map fun a => D.a (.ref a)) none (some (-1)) = ((as.take n).map V.ref).map D.a := by
      rw [cutD_last, List.length_map, hal, Nat.add_sub_cancel, List.map_map, ← List.map_take] <;> rfl
    rw [ecut] at hl2
    obtain ⟨qv, hqv, rqv⟩ := hl2
    rw [Reps.atoms] at rqv
    subst rqv
    have hqn : (as.take n).length = n := by rw [List.length_take]; omega
    refine ⟨q, rfl, ⟨_, SqL.of hqv⟩, for_it (walk_list (xs := (as.take n).map V.ref)) (fun i σ H4 => ∃ y2 y3 y4, σ = [some (.ref p), some (.ref pr), y2, y3, y4] ∧ Same H H4 ∧ H4 q = some (.lst ((as.take n).map V.ref)) ∧ DctAt H4 pr (pD (pri fl i)))
      ⟨none, none, none, rfl, s1.trans s2, hqv, hdn.same s2⟩ (fun i σ H4 _ ⟨_, _, _, _, _, s4, _⟩ => SqL.of s4) ?_ ?_⟩
    · rintro i z σ Hx H4 hi ⟨y2, y3, y4, rfl, s4, hq4, hd4⟩ ⟨rfl, hz⟩
      rw [List.length_map, hqn] at hi
      rw [List.getElem?_map, Option.map_eq_some_iff] at hz
      obtain ⟨d, hd1, rfl⟩ := hz
      have hd2 : as[i]? = some d := by rw [List.getElem?_take_of_lt hi] at hd1; exact hd1
      obtain ⟨kvs, hkv, ent⟩ := hda i d hd2
      have hprd : pr ≠ d := fun e => by rw [e, hkv] at hpr; cases hpr
      have hqd : q ≠ d := fun e => by rw [e, s4 _ _ hkv] at hq4; cases hq4
      refine ⟨d, .dK kvs, s4 _ _ hkv, trivial, fun od => ?_⟩
      have hkl : kvs.length = (fl i).length := by rw [ent.len]; exact List.length_map _
      refine ⟨_, rfl, d, od, kvs, rfl, upd_same, for_it (walk_items (d := d) (o := od) (kvs := kvs)) (fun j σ H5 => ∃ y3 y4, σ = [some (.ref p), some (.ref pr), some (.ref d), y3, y4] ∧ Same (upd H d (.frz od (.dK kvs))) H5 ∧ H5 q = some (.lst ((as.take n).map V.ref)) ∧ DctAt H5 pr (pD (((fl i).take j).foldl CH.price1 (pri fl i))))
        ⟨_, _, rfl, same_lock _ s4, by rw [upd_ne hqd]; exact hq4, hd4.up (upd_ne hprd) (tup_lock (s4 _ _ hkv))⟩ (fun j σ H5 _ ⟨_, _, _, s5, _⟩ => s5 _ _ upd_same) ?_ ?_⟩
      · rintro j x σ H5 H6 hj ⟨y3, y4, rfl, s5, hq5, hd5⟩ ⟨T0, u, v, rfl, hT, rfl, hu1, hv1⟩
        obtain ⟨kv, hkj⟩ : ∃ kv, kvs[j]? = some kv := ⟨_, List.getElem?_eq_getElem hj⟩
        have hu2 : (kvs[j]?).map (fun kv => kV kv.1) = some u := hu1
        have hv2 : (kvs[j]?).map Prod.snd = some v := hv1
        rw [hkj] at hu2 hv2
        cases hv2
        obtain ⟨e, he, hk1, hr1⟩ := ent.at hkj
        have he2 : (((fl i).map fun e => (e.1, dEnt e.2)) : List (Nat × D))[j]? = some e := he
        rw [List.getElem?_map, Option.map_eq_some_iff] at he2
        obtain ⟨le, hle, rfl⟩ := he2
        obtain rfl : V.int (le.1 : Int) = u := by
          rw [← Option.some.inj hu2]
          show _ = kV kv.1
          rw [hk1]; rfl
        have s6 : Same (upd H d (.frz od (.dK kvs))) (upd H5 T0 (.tup [.int (le.1 : Int), kv.2])) := s5.trans (Same.upd' hT)
        have hd6 : DctAt (upd H5 T0 (.tup [.int (le.1 : Int), kv.2])) pr _ := hd5.same (Same.upd' hT)
        have hq6 : (upd H5 T0 (.tup [.int (le.1 : Int), kv.2])) q = _ := (Same.upd' hT : Same H5 _) _ _ hq5
        refine ⟨T0, _, rfl, SqT.of upd_same, rfl, _, _, rfl, _, _, rfl, rfl, ?_⟩
        generalize upd H5 T0 (.tup [.int (le.1 : Int), kv.2]) = H6 at s6 hd6 hq6
        have hr6 : Rep H6 (dEnt le.2) kv.2 := (hr1.up (tup_lock hkv)).same s6
        generalize hg : ((fl i).take j).foldl CH.price1 (pri fl i) = g at hd6
        have hgl : g.length ≤ 25200 := by
          rw [← hg]
          refine Nat.le_trans (fold_len _ price_len _ _) ?_
          have h1 := pri_len fl hfl i
          have h2 : ((fl i).take j).length ≤ 1200 := by rw [List.length_take]; have := hfl i; omega
          have h3 : i * 1200 ≤ 20 * 1200 := Nat.mul_le_mul_right _ (by omega)
          omega
        have take1 : ((fl i).take (j + 1)).foldl CH.price1 (pri fl i) = CH.price1 g le := by
          rw [List.take_add_one, hle, List.foldl_append, hg] <;> rfl
        have hprL : (upd H d (.frz od (.dK kvs))) pr = none := by rw [upd_ne hprd]; exact hpr
        have hpq : q ≠ pr := fun e => by
          obtain ⟨ks, e2, _⟩ := hd6
          rw [← e, hq6] at e2; cases e2
        have put : ∀ (hp1 : CH.price1 g le = CH.put g le.1 le.2.1), ∃ H7, DPut H6 pr (.int (le.1 : Int)) (.int le.2.1) H7 ∧ Same (upd H d (.frz od (.dK kvs))) H7 ∧ H7 q = some (.lst ((as.take n).map V.ref)) ∧ DctAt H7 pr (pD (CH.price1 g le)) := fun hp1 => by
          obtain ⟨H7, dp, k7, t7, o7, d7⟩ := hd6.put (n := le.1) (d := .a (.int le.2.1)) (v := .int le.2.1) rfl (by rw [pD, List.length_map]; exact Nat.lt_of_le_of_lt hgl (by decide))
          refine ⟨H7, dp, k7 _ hprL s6, by rw [o7 q hpq]; exact hq6, ?_⟩
          rw [hp1]
          unfold pD at d7 ⊢
          have := put_map (fun x : Int => D.a (.int x)) g le.1 le.2.1
          rw [this] at d7
          exact d7
        refine ⟨_, rfl, _, rfl, ?_⟩
        cases e1 : CH.look g le.1 with
        | none =>
          refine ⟨pr, _, rfl, hd6.rd.gotN (by rw [look_pD, e1]; rfl), _, rfl, ?_⟩
          obtain ⟨H7, dp, s7, q7, d7⟩ := put (by unfold CH.price1; rw [e1])
          refine iteT (iteT ⟨_, rfl, r_ixT 0 hr6 rfl fun u hu => ?_⟩)
          cases hu
          refine ⟨_, rfl, _, rfl, pr, H7, rfl, dp, _, _, rfl, s7, q7, ?_⟩
          rw [take1]
          exact d7
        | some y =>
          obtain ⟨yv, gy, ry⟩ := hd6.rd.gotS (n := le.1) (d := .a (.int y)) (by rw [look_pD, e1]; rfl)
          cases ry
          refine ⟨pr, _, rfl, gy, _, rfl, ?_⟩
          refine iteF ⟨_, rfl, r_ixT 0 hr6 rfl fun u hu => ?_⟩
          cases hu
          refine ⟨_, rfl, _, rfl, pr, _, rfl, gy, _, _, rfl, rfl, _, rfl, ?_⟩
          refine ite2 (fun hc => ?_) (fun hc => ?_)
          · have hc2 := of_decide_eq_true hc
            obtain ⟨H7, dp, s7, q7, d7⟩ := put (by
              unfold CH.price1
              rw [e1]
              show (if le.2.1 < y then _ else _) = _
              rw [if_pos hc2])
            refine ⟨_, rfl, r_ixT 0 hr6 rfl fun u hu => ?_⟩
            cases hu
            refine ⟨_, rfl, _, rfl, pr, H7, rfl, dp, _, _, rfl, s7, q7, ?_⟩
            rw [take1]
            exact d7
          · have hc2 : ¬ (le.2.1 < y) := fun z => hc (decide_eq_true z)
            refine ⟨_, _, rfl, s6, hq6, ?_⟩
            rw [take1]
            have : CH.price1 g le = g := by
              unfold CH.price1
              rw [e1]
              show (if le.2.1 < y then _ else _) = _
              rw [if_neg hc2]
            rw [this]
            exact hd6
      · rintro σ H5 ⟨y3, y4, rfl, s5, hq5, hd5⟩
        have hf5 := s5 _ _ (upd_same : (upd H d (.frz od (.dK kvs))) d = _)
        refine ⟨hf5, _, _, _, rfl, same_unlock s5 hkv, by rw [upd_ne hqd]; exact hq5, ?_⟩
        rw [List.take_of_length_le (by omega)] at hd5
        rw [pri_succ]
        exact hd5.up (upd_ne hprd) (tup_unlock hf5)
    · rintro σ H4 ⟨y2, y3, y4, rfl, s4, hq4, hd4⟩
      rw [List.length_map, hqn] at hd4
      exact ⟨_, rfl, k pr H4 s4 hpr hd4⟩
end
end L2.Ww
set_option Elab.async false
set_option linter.all false
set_option maxRecDepth 100000
set_option maxHeartbeats 4000000
/-! way_to -/
namespace L2.Ww
open PySem PySem.Spec PyProof.Rows
inductive Chn (R : Nat → Nat → Nat → Prop) : List Nat → List Nat → Prop
  | one (v : Nat) : Chn R [] [v]
  | cons {u v l : Nat} {cs rs : List Nat} : R u v l → Chn R cs (v :: rs) → Chn R (l :: cs) (u :: v :: rs)
theorem Chn.len {R : Nat → Nat → Nat → Prop} {cs rs : List Nat} (h : Chn R cs rs) : rs.length = cs.length + 1 := by
  induction h with
  | one => rfl
  | cons _ _ ih => simp at ih ⊢; omega
def strL (cs : List Nat) : Str := ⟨cs.toArray⟩
theorem strL_cons (l : Nat) (cs : List Nat) : (⟨#[l]⟩ : Str) ++ strL cs = strL (l :: cs) := by
  show (⟨#[l] ++ cs.toArray⟩ : Str) = ⟨(l :: cs).toArray⟩
  congr 1
  simp
theorem strL_snoc (l : Nat) (cs : List Nat) : strL cs ++ (⟨#[l]⟩ : Str) = strL (cs ++ [l]) := by
  show (⟨cs.toArray ++ #[l]⟩ : Str) = ⟨(cs ++ [l]).toArray⟩
  congr 1
  simp
theorem strL_len (cs : List Nat) : (strL cs).length = cs.length := by
  show (cs.toArray).size = cs.length
  simp
def LvlWay (f : Nat → Lv) (R : Nat → Nat → Nat → Prop) (m : Nat) : Prop := ∀ k v x, k + 1 ≤ m → CH.look (f (k + 1)) v = some x → ∃ l y, x.2.2 = (⟨#[l]⟩ : Str) ∧ CH.look (f k) x.2.1 = some y ∧ R x.2.1 v l
def dWay (cs rs : List Nat) : D := .t [.a (.str (strL cs)), .t (dNs rs)]
def spWayTo : Sp := fun vs H Q _ => ∃ p, ∃ m v : Nat, ∃ f n R, vs = [.ref p, .int m, .int v] ∧ LvsRd H p (fun j => lvD (f j)) n ∧ m + 1 ≤ n ∧ m ≤ 20 ∧ (∃ x, CH.look (f m) v = some x) ∧ LvlWay f R m ∧
  ∀ cs rs, cs.length = m → Chn R cs rs → Gives H (dWay cs rs) Q
section
variable {P : Program} {w : World} {K : PySem.W.Frag} {mg : Str → Option Value} {base : Heap}
abbrev s_way_to : Stmt := top 62
theorem sc_way_to : FnScope ["levels", "many", "room", "word", "way", "level", "cost", "letter"] ["levels", "many", "room"] (defScope s_way_to) := ⟨rfl, rfl, rfl, by decide +kernel, rfl, by decide +kernel, by decide +kernel⟩
theorem ok_way_to (T : Txt w K mg) : Cal P w K mg base CX0 1 "way_to" spWayTo := by
  refine cal_ok T.d_way_to (fun _ _ _ _ _ _ us hl => match us, hl with | [_, _, _], _ => rfl) sc_way_to (fun vs H Q E h => ?_) (fun cdv A outer s f H vs Q E hr h => ?_)
  · obtain ⟨_, _, _, _, _, _, rfl, _⟩ := h; rfl
  · obtain ⟨p, m, v, fl, n, R, rfl, hL, hmn, hm20, hv, hw, k⟩ := h
    refine ⟨_, PSs.nox (pss_cons (ps_set (i := 3) sc_way_to.nd rfl (Or.inl rfl) pe_str)
      (pss_cons (ps_set (i := 4) sc_way_to.nd rfl (Or.inl rfl) (pe_tupQ (pa_cons (pv 2) pa_nil)))
      (pss_cons (ps_for PassesOwn.never rfl (pi_reversed rfl T.f_reversed (pa_cons (pe_slice (sl_listQ K) (pv 0) (po_some pe_int) (po_some (pe_op op_add (pv 1) pe_int))) pa_nil)) (pg_name (i := 5) sc_way_to.nd rfl (Or.inl rfl))
      (pss_cons (ps_asg (pe_dget (hu_of hr) (pv 5) (pv 2) (fun _ _ => rfl)) (pg_tup (n := 3) rfl (pgs_cons (pg_name (i := 6) sc_way_to.nd rfl (Or.inl rfl)) (pgs_cons (pg_name (i := 2) sc_way_to.nd rfl (Or.inl rfl)) (pgs_cons (pg_name (i := 7) sc_way_to.nd rfl (Or.inl rfl)) pgs_nil)))))
      (pss_cons (ps_set (i := 3) sc_way_to.nd rfl (Or.inl rfl) (pe_op op_add_str (pv 7) (pv 3)))
      (pss_one (ps_set (i := 4) sc_way_to.nd rfl (Or.inl rfl) (pe_op (op_catTQ K) (pe_tupQ (pa_cons (pv 2) pa_nil)) (pv 4)))))))
      (pss_one (ps_ret (pe_tupQ (pa_cons (pv 3) (pa_cons (pv 4) pa_nil)))))))), ?_⟩
    obtain ⟨as, hal, hll, hda⟩ := hL
    refine ⟨_, rfl, r_tup (ds := [dN v]) (Reps.cons rfl Reps.nil) (small (by simp)) fun v0 H1 s1 h0 => ?_⟩
    refine ⟨_, rfl, _, rfl, _, rfl, _, _, rfl, rfl, _, rfl, r_slL (hll.same s1) fun q H2 s2 hq hl2 => ?_⟩
    have ecut : cutD (as.map fun a => D.a (.ref a)) (some 1) (some ((m : Int) + 1)) = (((as.drop 1).take m).map V.ref).map D.a := by
      have := cutD_mid (as.map fun a => D.a (.ref a)) 1 (m + 1) (by rw [List.length_map]; omega) (by omega)
      refine Eq.trans (show _ = cutD (as.map fun a => D.a (.ref a)) (some ((1 : Nat) : Int)) (some ((m + 1 : Nat) : Int)) from rfl) (this.trans ?_)
      rw [Nat.add_sub_cancel, List.map_map, ← List.map_drop, ← List.map_take] <;> rfl
    rw [ecut] at hl2
    obtain ⟨qv, hqv, rqv⟩ := hl2
    rw [Reps.atoms] at rqv
    subst rqv
    have hqn : ((as.drop 1).take m).length = m := by rw [List.length_take, List.length_drop]; omega
    have hxn : (((as.drop 1).take m).map V.ref).length = m := by rw [List.length_map, hqn]
    refine ⟨q, _, rfl, SqL.of hqv, for_it (walk_rev (xs := ((as.drop 1).take m).map V.ref)) (fun i σ H4 => ∃ u cs rs vw y5 y6 y7, σ = [some (.ref p), some (.int (m : Int)), some (.int ((u : Nat) : Int)), some (.str (strL cs)), some vw, y5, y6, y7] ∧ Same H H4 ∧ H4 q = some (.lst (((as.drop 1).take m).map V.ref)) ∧
        cs.length = i ∧ Chn R cs (u :: rs) ∧ (∃ x, CH.look (fl (m - i)) u = some x) ∧ Rep H4 (.t (dNs (u :: rs))) vw)
      ⟨v, [], [], v0, none, none, none, rfl, s1.trans s2, hqv, rfl, .one v, hv, h0.same s2⟩ (fun i σ H4 _ ⟨_, _, _, _, _, _, _, _, _, s4, _⟩ => SqL.of s4) ?_ ?_⟩
    · rintro i z σ Hx H4 hi ⟨u, cs, rs, vw, y5, y6, y7, rfl, s4, hq4, hcl, hch, ⟨x, hx⟩, hvw⟩ ⟨rfl, hz⟩
      rw [hxn] at hi hz
      rw [List.getElem?_map, Option.map_eq_some_iff] at hz
      obtain ⟨d, hd1, rfl⟩ := hz
      have hd2 : as[m - i]? = some d := by
        rw [List.getElem?_take_of_lt (by omega), List.getElem?_drop] at hd1
        rw [← hd1]
        congr 1
        omega
      have hdd := (hda _ _ hd2).same s4
      obtain ⟨j, hj⟩ : ∃ j, m - i = j + 1 := ⟨m - i - 1, by omega⟩
      have hdd2 : DctRd H4 d (lvD (fl (m - i))) := hdd
      obtain ⟨xv, gx, rx⟩ := hdd2.gotS (n := u) (d := dEnt x) (by rw [lvD, look_map, hx]; rfl)
      rw [hj] at hx
      obtain ⟨l, y, hl1, hl2, hR⟩ := hw j u x (by omega) hx
      refine ⟨_, rfl, _, rfl, d, _, rfl, gx, ?_⟩
      obtain ⟨T0, vs0, rfl, hT, r0⟩ := rx
      obtain ⟨v1, r1, e1, h1, r0⟩ := r0
      obtain ⟨v2, r2, e2, h2, r0⟩ := r0
      obtain ⟨v3, r3, e3, h3, r0⟩ := r0
      cases h1
      cases h2
      cases h3
      cases r0
      subst e3 e2 e1
      refine ⟨T0, _, rfl, SqT.of hT, rfl, _, _, rfl, _, _, rfl, _, _, rfl, rfl, ?_⟩
      rw [hl1]
      refine ⟨_, rfl, _, rfl, _, _, rfl, rfl, ?_, ?_⟩
      · rw [strL_len]
        exact Nat.le_of_lt (Nat.lt_of_le_of_lt (show 1 + cs.length ≤ 21 by omega) (by decide))
      rw [strL_cons]
      have hrl := hch.len
      refine ⟨_, rfl, r_tup (ds := [dN x.2.1]) (Reps.cons rfl Reps.nil) (small (by simp)) fun v6 H6 s6 h6 => ?_⟩
      refine ⟨_, rfl, r_catT h6 (hvw.same s6) (small ?_) fun v7 H7 s7 h7 => ?_⟩
      · rw [dNs, List.length_map, hrl, List.length_singleton]; omega
      refine ⟨x.2.1, l :: cs, u :: rs, v7, _, _, _, rfl, s4.trans (s6.trans s7), s7 _ _ (s6 _ _ hq4), by rw [List.length_cons, hcl], .cons hR hch, ⟨y, ?_⟩, h7⟩
      rw [show m - (i + 1) = j by omega]
      exact hl2
    · rintro σ H4 ⟨u, cs, rs, vw, y5, y6, y7, rfl, s4, hq4, hcl, hch, hx, hvw⟩
      rw [hxn] at hcl
      refine ⟨_, rfl, _, rfl, r_tup (ds := [.a (.str (strL cs)), .t (dNs (u :: rs))]) (Reps.cons rfl (Reps.cons hvw Reps.nil)) (small (by simp)) fun v6 H6 s6 h6 => ?_⟩
      exact k cs (u :: rs) hcl hch v6 H6 (s4.trans s6) h6
end
end L2.Ww
set_option Elab.async false
set_option linter.all false
set_option maxRecDepth 100000
set_option maxHeartbeats 4000000
/-! way_out -/
namespace L2.Ww
open PySem PySem.Spec PyProof.Rows
theorem qIxT_mono {K : PySem.W.Frag} {x y : V} {H : Hp} {Q Q' : VK} (m : ∀ y H1, Q y H1 → Q' y H1) (h : qIxT K x y H Q) : qIxT K x y H Q' := by
  unfold qIxT at h ⊢
  obtain ⟨p, ys, i, v, e1, e2, hq, ha, k⟩ := h
  exact ⟨p, ys, i, v, e1, e2, hq, ha, m _ _ k⟩
theorem qIxL_mono {K : PySem.W.Frag} {x y : V} {H : Hp} {Q Q' : VK} (m : ∀ y H1, Q y H1 → Q' y H1) (h : qIxL K x y H Q) : qIxL K x y H Q' := by
  unfold qIxL at h ⊢
  obtain ⟨p, ys, i, v, e1, e2, hq, ha, k⟩ := h
  exact ⟨p, ys, i, v, e1, e2, hq, ha, m _ _ k⟩
def Told (ts : List D) : Prop := ∀ k d, ts[k]? = some d → ∃ (z : Str) (rs : List D), d = .t [.a (.str z), .t rs] ∧ z.length ≤ k ∧ rs.length ≤ k + 1
theorem Told.snoc {ts : List D} (h : Told ts) {z : Str} {rs : List D} (h1 : z.length ≤ ts.length) (h2 : rs.length ≤ ts.length + 1) : Told (ts ++ [.t [.a (.str z), .t rs]]) := by
  intro k d e
  rcases Nat.lt_or_ge k ts.length with hk | hk
  · rw [List.getElem?_append_left hk] at e
    exact h k d e
  · rw [List.getElem?_append_right hk] at e
    have hk2 : k = ts.length := by
      have := (List.getElem?_eq_some_iff.mp e).1
      simp at this
      omega
    subst hk2
    rw [Nat.sub_self] at e
    cases e
    exact ⟨z, rs, rfl, h1, h2⟩
def spWayOut : Sp := fun vs H Q _ => ∃ a p, ∃ b : Nat, ∃ M us, vs = [a, .ref p, .int b] ∧ Rep H (dMach M) a ∧ M.WF ∧ LstAt H p (dNs us) ∧ (∀ u ∈ us, u < M.st.length) ∧ us.length ≤ 20 ∧ b ∈ us ∧
  (∃ v, Rch [b] ((stepsOf M us).map fwdP) v ∧ (stF M.en v).isSome = true) ∧ ∀ d, Gives H d Q
section
variable {P : Program} {w : World} {K : PySem.W.Frag} {mg : Str → Option Value} {base : Heap}
abbrev s_way_out : Stmt := top 63
theorem sc_way_out : FnScope ["machine", "some", "begin", "steps", "found", "told", "at", "word", "way", "one", "other", "cost", "letter"] ["machine", "some", "begin"] (defScope s_way_out) := ⟨rfl, rfl, rfl, by decide +kernel, rfl, by decide +kernel, by decide +kernel⟩
theorem ok_way_out (T : Txt w K mg) : Cal P w K mg base CX0 2 "way_out" spWayOut := by
  refine cal_ok T.d_way_out (fun _ _ _ _ _ _ us hl => match us, hl with | [_, _, _], _ => rfl) sc_way_out (fun vs H Q E h => ?_) (fun cdv A outer s f H vs Q E hr h => ?_)
  · obtain ⟨_, _, _, _, _, rfl, _⟩ := h; rfl
  · obtain ⟨a, p, b, M, us, rfl, ha, wM, hs, hu, hul, hb, hend, k⟩ := h
    refine ⟨_, PSs.nox (pss_cons (ps_set (i := 3) sc_way_out.nd rfl (Or.inl rfl) (pe_c0 (ok_steps_of T) hr (by decide) rfl (pa_cons (pv 0) (pa_cons (pv 1) pa_nil))))
      (pss_cons (ps_set (i := 4) sc_way_out.nd rfl (Or.inl rfl) (pe_lstQ (pa_cons (pv 2) pa_nil)))
      (pss_cons (ps_set (i := 5) sc_way_out.nd rfl (Or.inl rfl) (pe_lstQ (pa_cons (pe_tupQ (pa_cons pe_str (pa_cons (pe_tupQ (pa_cons (pv 2) pa_nil)) pa_nil))) pa_nil)))
      (pss_cons (ps_set (i := 6) sc_way_out.nd rfl (Or.inl rfl) pe_int)
      (pss_cons (ps_while PassesOwn.never (pt_cmpR op_isN (pe_ix (ix_tupQ K) (pe_ix (ix_tupQ K) (pv 0) pe_int (fun _ _ => rfl)) (pe_ix (ix_listQ K) (pv 4) (pv 6) (fun _ _ => rfl)) (fun _ _ => rfl)) pe_non (nomark _))
      (pss_cons (ps_asg (pe_ix (ix_listQ K) (pv 5) (pv 6) (fun _ _ => rfl)) (pg_tup (n := 2) rfl (pgs_cons (pg_name (i := 7) sc_way_out.nd rfl (Or.inl rfl)) (pgs_cons (pg_name (i := 8) sc_way_out.nd rfl (Or.inl rfl)) pgs_nil))))
      (pss_cons (ps_for PassesOwn.never rfl (pi_list (pv 3)) (pg_tup (n := 4) rfl (pgs_cons (pg_name (i := 9) sc_way_out.nd rfl (Or.inl rfl)) (pgs_cons (pg_name (i := 10) sc_way_out.nd rfl (Or.inl rfl)) (pgs_cons (pg_name (i := 11) sc_way_out.nd rfl (Or.inl rfl)) (pgs_cons (pg_name (i := 12) sc_way_out.nd rfl (Or.inl rfl)) pgs_nil)))))
      (pss_one (ps_if (PW.pt (pw_and (pt_cmpR op_eq (pv 9) (pe_ix (ix_listQ K) (pv 4) (pv 6) (fun _ _ => rfl)) (nomark _)) (pw_and1 (pt_cmpR (op_notIn_seqQ K) (pv 10) (pv 4) (by rfl))))) (pss_cons (ps_expr (pe_bm PySem.F.plainAttrs_list PySem.F.slot_list_append PySem.F.type_list_append mt_appQ (pv 4) (pa_cons (pv 10) pa_nil)))
      (pss_one (ps_expr (pe_bm PySem.F.plainAttrs_list PySem.F.slot_list_append PySem.F.type_list_append mt_appQ (pv 5) (pa_cons (pe_tupQ (pa_cons (pe_op op_add_str (pv 7) (pv 12)) (pa_cons (pe_op (op_catTQ K) (pv 8) (pe_tupQ (pa_cons (pv 10) pa_nil))) pa_nil))) pa_nil))))) pss_nil)))
      (pss_one (ps_aug (i := 6) sc_way_out.nd rfl (Or.inl rfl) pe_int ip_add)))))
      (pss_one (ps_ret (pe_ix (ix_listQ K) (pv 5) (pv 6) (fun _ _ => rfl))))))))), ?_⟩
    refine ⟨_, rfl, _, rfl, a, p, M, us, rfl, ha, wM, hs, hu, hul, fun st H1 s1 hst hlst => ?_⟩
    have hen := wM.ends
    have hn20 := wM.few
    refine ⟨_, rfl, r_lst (ds := dNs [b]) (Reps.cons rfl Reps.nil) (small (by simp)) fun fo H2 s2 hfo hlf => ?_⟩
    refine ⟨_, rfl, r_tup (ds := [dN b]) (Reps.cons rfl Reps.nil) (small (by simp)) fun v3 H3 s3 h3 => ?_⟩
    refine r_tup (ds := [.a (.str ⟨#[]⟩), .t [dN b]]) (Reps.cons rfl (Reps.cons h3 Reps.nil)) (small (by simp)) fun v4 H4 s4 h4 => ?_
    refine r_lst (ds := [.t [.a (.str ⟨#[]⟩), .t [dN b]]]) (Reps.cons h4 Reps.nil) (small (by simp)) fun to H5 s5 hto hlt => ?_
    have none_back : ∀ {Ha Hb : Hp} {q : Addr}, Same Ha Hb → Hb q = none → Ha q = none := fun {Ha Hb q} s e => by
      cases e2 : Ha q with
      | none => rfl
      | some o => rw [s _ _ e2] at e; cases e
    have hfoH : H fo = none := none_back s1 hfo
    have htoH : H to = none := none_back (s1.trans (s2.trans (s3.trans s4))) hto
    have hft : to ≠ fo := fun e => by
      obtain ⟨vs, e2, _⟩ := (hlf.same (s3.trans s4))
      rw [← e, hto] at e2; cases e2
    obtain ⟨pv, hpv, rpv⟩ := id hlst
    have hpl : pv.length = (stepsOf M us).length := by rw [rpv.len, List.length_map]
    generalize hps : (stepsOf M us).map fwdP = ps at hend
    have hps2 : ∀ q ∈ ps, q.2 < 20 := fun q hq => by
      rw [← hps] at hq
      obtain ⟨s, hs, rfl⟩ := List.mem_map.mp hq
      have := hu _ (stepsOf_mem hs).2
      show s.2.1 < 20
      omega
    have hpsu : ∀ q ∈ ps, q.2 < M.st.length := fun q hq => by
      rw [← hps] at hq
      obtain ⟨s, hs, rfl⟩ := List.mem_map.mp hq
      exact hu _ (stepsOf_mem hs).2
    have hb20 : b < 20 := by have := hu b hb; omega
    have hstH : H st = none := hst
    have hsf : st ≠ fo := fun e => by
      rw [← e, hpv] at hfo; cases hfo
    have hstt : st ≠ to := fun e => by
      rw [← e] at hto
      rw [s4 _ _ (s3 _ _ (s2 _ _ hpv))] at hto; cases hto
    have rchu : ∀ v, Rch [b] ps v → v < M.st.length := fun v r => by
      cases r with
      | base h => rw [List.mem_singleton.mp h]; exact hu b hb
      | step _ h => exact hpsu _ h
    refine while_by (fun σ H6 => ∃ i f ts y7 y8 y9 y10 y11 y12, σ = [some a, some (.ref p), some (.int (b : Int)), some (.ref st), some (.ref fo), some (.ref to), some (.int ((i : Nat) : Int)), y7, y8, y9, y10, y11, y12] ∧ Same H1 H6 ∧ LstAt H6 fo (dNs f) ∧ LstAt H6 to ts ∧ ts.length = f.length ∧ Told ts ∧ Fnd [b] ps i f ∧ ∀ j x, j < i → f[j]? = some x → stF M.en x = none)
      (fun σ _ => 21 - natAt σ 6)
      ⟨0, [b], _, none, none, none, none, none, none, rfl, s2.trans (s3.trans (s4.trans s5)), (hlf.same (s3.trans (s4.trans s5))), hlt, rfl, ?_, ⟨by simp, fun v hv => by rw [List.mem_singleton.mp hv]; exact hb20, fun v hv => .base hv, fun v hv => hv, fun k x y h => by omega⟩, fun j x hj => by omega⟩ ?_ ?_
    · intro kk d e
      cases kk with
      | zero => cases e; exact ⟨_, _, rfl, Nat.le_refl _, Nat.le_refl _⟩
      | succ kk => simp at e
    · rintro σ H6 ⟨i, f, ts, y7, y8, y9, y10, y11, y12, rfl, s6, hf6, ht6, htl, htold, fd, hno⟩
      have hfl := nd_len fd.nd fd.lt
      have hi : i < f.length := by
        refine Nat.lt_of_not_le fun hle => ?_
        obtain ⟨v, hv, hv2⟩ := hend
        have hm := (fd.done hle v).mpr hv
        obtain ⟨j, hj, hj2⟩ := List.mem_iff_getElem.mp hm
        have := hno j v (by omega) (by rw [List.getElem?_eq_getElem hj, hj2])
        rw [this] at hv2; cases hv2
      have hfi : f[i]? = some f[i] := List.getElem?_eq_getElem hi
      have hri := fd.rch _ (List.getElem_mem hi)
      have hfin : f[i] < M.en.length := by rw [hen]; exact rchu _ hri
      have hme : M.en[f[i]]? = some (M.en[f[i]]'hfin) := List.getElem?_eq_getElem hfin
      have sa : Same H H6 := s1.trans s6
      have hst2 : stF M.en f[i] = M.en[f[i]]'hfin := by unfold stF; rw [hme]; rfl
      refine ⟨_, rfl, r_ixT 3 (ha.same sa) rfl fun sv hsv => ⟨_, rfl, _, rfl, r_ixL (ds := dNs f) i (d := dN f[i]) hf6 (by rw [dNs, List.getElem?_map, hfi] <;> rfl) fun u hu1 => ?_⟩⟩
      cases hu1
      refine r_ixT f[i] hsv (by rw [List.getElem?_map, hme] <;> rfl) fun c hc => ?_
      cases rep_W hc
      refine ⟨rfl, _, rfl, ?_⟩
      cases hc2 : M.en[f[i]]'hfin with
      | some c =>
        obtain ⟨td, htd⟩ : ∃ td, ts[i]? = some td := ⟨_, List.getElem?_eq_getElem (by omega)⟩
        refine iteF ⟨_, rfl, _, rfl, r_ixL i ht6 htd fun v hv => k td v H6 sa hv⟩
      | none =>
        refine iteT ?_
        obtain ⟨td, htd⟩ : ∃ td, ts[i]? = some td := ⟨_, List.getElem?_eq_getElem (by omega)⟩
        obtain ⟨z, rs, rfl, hz1, hrs1⟩ := htold i td htd
        refine ⟨_, rfl, _, rfl, r_ixL i ht6 htd fun v hv => ?_⟩
        obtain ⟨T0, vs0, rfl, hT, r0⟩ := hv
        obtain ⟨v1, r1, e1, h1, r0⟩ := r0
        obtain ⟨vw, r2, e2, h2, r0⟩ := r0
        cases h1
        cases r0
        subst e2 e1
        refine ⟨T0, _, rfl, SqT.of hT, rfl, _, _, rfl, _, _, rfl, rfl, ?_⟩
        refine ⟨_, rfl, st, rfl, ⟨_, SqL.of (s6 _ _ hpv)⟩, for_it (walk_list (xs := pv)) (fun j σ H7 => ∃ ts' y9 y10 y11 y12, σ = [some a, some (.ref p), some (.int (b : Int)), some (.ref st), some (.ref fo), some (.ref to), some (.int ((i : Nat) : Int)), some (.str z), some vw, y9, y10, y11, y12] ∧ Same H1 H7 ∧ LstAt H7 fo (dNs ((ps.take j).foldl (look1 f[i]) f)) ∧ LstAt H7 to ts' ∧ ts'.length = ((ps.take j).foldl (look1 f[i]) f).length ∧ Told ts' ∧ Rep H7 (.t rs) vw)
          ⟨ts, _, _, _, _, rfl, s6, hf6, ht6, htl, htold, h2⟩ (fun j σ H7 _ ⟨_, _, _, _, _, _, s7, _⟩ => SqL.of (s7 _ _ hpv)) ?_ ?_⟩
        · rintro j zz σ Hx H7 hj ⟨ts', y9, y10, y11, y12, rfl, s7, hf7, ht7, htl7, htold7, hvw⟩ ⟨rfl, hzz⟩
          obtain ⟨d, hd, rd⟩ := rpv.getV hzz
          rw [List.getElem?_map, Option.map_eq_some_iff] at hd
          obtain ⟨sp, hsp, rfl⟩ := hd
          have rd7 : Rep H7 (dStep sp) zz := rd.same s7
          obtain ⟨T1, vs1, rfl, hT1, r0⟩ := rd7
          obtain ⟨v1, r1, e1, h1, r0⟩ := r0
          obtain ⟨v2, r2, e2, h2', r0⟩ := r0
          obtain ⟨v3, r3, e3, h3', r0⟩ := r0
          obtain ⟨v4', r4, e4, h4', r0⟩ := r0
          cases h1
          cases h2'
          cases h3'
          cases h4'
          cases r0
          subst e4 e3 e2 e1
          refine ⟨T1, _, rfl, SqT.of hT1, rfl, _, _, rfl, _, _, rfl, _, _, rfl, _, _, rfl, rfl, ?_⟩
          generalize hg : (ps.take j).foldl (look1 f[i]) f = g at hf7 htl7
          have hpre : f <+: g := by rw [← hg]; exact looks_pre _ _ _
          have hga : g[i]? = some f[i] := by rw [pre_get hpre hi]; exact hfi
          have hpj : ps[j]? = some (fwdP sp) := by rw [← hps, List.getElem?_map, hsp]; rfl
          have take1 : (ps.take (j + 1)).foldl (look1 f[i]) f = look1 f[i] g (fwdP sp) := by
            rw [List.take_add_one, hpj, List.foldl_append, hg] <;> rfl
          obtain ⟨g1, g2, g3⟩ := looks_ok hps2 hri (ps.take j) (fun q hq => List.mem_of_mem_take hq) f fd.nd fd.lt fd.rch
          rw [hg] at g1 g2 g3
          have hgl := nd_len g1 g2
          have hig : i < g.length := Nat.lt_of_lt_of_le hi hpre.length_le
          refine ⟨_, rfl, _, rfl, _, rfl, r_ixL (ds := dNs g) i (d := dN f[i]) hf7 (by rw [dNs, List.getElem?_map, hga] <;> rfl) fun v hv => ?_⟩
          cases hv
          refine ⟨rfl, _, rfl, ?_⟩
          by_cases e1 : sp.1 = f[i]
          · refine ite2 (fun _ => ?_) (fun z => absurd (decide_eq_true (by rw [e1])) z)
            refine ⟨_, rfl, _, rfl, r_notIn hf7 ⟨_, rfl, ?_⟩⟩
            by_cases e4 : sp.2.1 ∈ g
            · rw [decide_eq_true e4]
              have hl1 : look1 f[i] g (fwdP sp) = g := by
                unfold look1
                rw [if_neg (fun z => z.2 e4)]
              refine iteF ⟨ts', _, _, _, _, rfl, s7, ?_, ht7, ?_, htold7, hvw⟩
              · rw [take1, hl1]; exact hf7
              · rw [take1, hl1]; exact htl7
            · rw [decide_eq_false e4]
              have hl1 : look1 f[i] g (fwdP sp) = g ++ [sp.2.1] := by
                unfold look1
                rw [if_pos ⟨e1, e4⟩] <;> rfl
              refine iteT ⟨_, rfl, tyL hf7, _, rfl, r_app (d := dN sp.2.1) hf7 rfl ?_ fun H8 k8 t8 o8 hl8 => ?_⟩
              · rw [dNs, List.length_map]; exact Nat.lt_of_le_of_lt hgl (by decide)
              have ht8 : LstAt H8 to ts' := by
                obtain ⟨vs, q1, q2⟩ := ht7
                exact ⟨vs, by rw [o8 to hft]; exact q1, q2.up t8⟩
              refine ⟨_, rfl, tyL ht8, _, rfl, _, rfl, _, _, rfl, rfl, ?_, ?_⟩
              · exact Nat.le_of_lt (Nat.lt_of_le_of_lt (show z.length + 1 ≤ 21 by omega) (by decide))
              refine ⟨_, rfl, _, rfl, r_tup (ds := [dN sp.2.1]) (Reps.cons rfl Reps.nil) (small (by simp)) fun v9 H9 s9 h9 => ?_⟩
              refine r_catT ((hvw.up t8).same s9) h9 (small (by simp; omega)) fun v10 H10 s10 h10 => ?_
              refine r_tup (ds := [.a (.str (z ++ ⟨#[sp.2.2.2]⟩)), .t (rs ++ [dN sp.2.1])]) (Reps.cons rfl (Reps.cons h10 Reps.nil)) (small (by simp)) fun v11 H11 s11 h11 => ?_
              have s811 : Same H8 H11 := s9.trans (s10.trans s11)
              refine r_app (d := .t [.a (.str (z ++ ⟨#[sp.2.2.2]⟩)), .t (rs ++ [dN sp.2.1])]) (ht8.same s811) h11 ?_ fun H12 k12 t12 o12 hl12 => ?_
              · exact Nat.lt_of_le_of_lt (show ts'.length ≤ 20 by omega) (by decide)
              have hfo1 : H1 fo = none := hfo
              have hto1 : H1 to = none := none_back (s2.trans (s3.trans s4)) hto
              refine ⟨ts' ++ [.t [.a (.str (z ++ ⟨#[sp.2.2.2]⟩)), .t (rs ++ [dN sp.2.1])]], _, _, _, _, rfl, k12 H1 hto1 ((k8 H1 hfo1 s7).trans s811), ?_, hl12, ?_, ?_, ?_⟩
              · rw [take1, hl1, ← dN_app]
                obtain ⟨vs, q1, q2⟩ := hl8.same s811
                exact ⟨vs, by rw [o12 fo (fun e => hft e.symm)]; exact q1, q2.up t12⟩
              · rw [take1, hl1, List.length_append, List.length_append, htl7]; rfl
              · refine htold7.snoc ?_ ?_
                · show (z.cps ++ #[sp.2.2.2]).size ≤ _
                  rw [Array.size_append]
                  show z.length + 1 ≤ _
                  omega
                · rw [List.length_append, List.length_singleton]; omega
              · exact (((hvw.up t8).same s811).up t12)
          · refine ite2 (fun zc => ?_) (fun _ => ?_)
            · refine absurd ?_ e1
              have := of_decide_eq_true zc
              first | (injection this with h2; omega) | omega
            · have hl1 : look1 f[i] g (fwdP sp) = g := by
                unfold look1
                rw [if_neg (fun z => e1 z.1)]
              refine iteF ⟨ts', _, _, _, _, rfl, s7, ?_, ht7, ?_, htold7, hvw⟩
              · rw [take1, hl1]; exact hf7
              · rw [take1, hl1]; exact htl7
        · rintro σ H7 ⟨ts', y9, y10, y11, y12, rfl, s7, hf7, ht7, htl7, htold7, hvw⟩
          have hpl2 : pv.length = ps.length := by rw [hpl, ← hps, List.length_map]
          rw [List.take_of_length_le (by omega)] at hf7 htl7
          have fd2 := fd.next hps2 hfi
          refine ⟨_, rfl, _, _, rfl, rfl, ?_⟩
          refine ⟨⟨i + 1, _, ts', _, _, _, _, _, _, rfl, s7, hf7, ht7, htl7, htold7, fd2, ?_⟩, ?_⟩
          · intro j x hj hx
            have hpre := looks_pre f[i] ps f
            rw [pre_get hpre (by omega)] at hx
            by_cases e : j = i
            · subst e
              rw [hfi] at hx
              cases hx
              rw [hst2, hc2]
            · exact hno j x (by omega) hx
          · show 21 - natAt [_, _, _, _, _, _, some (.int ((i : Int) + 1)), _, _, _, _, _, _] 6 < 21 - natAt [_, _, _, _, _, _, some (.int ((i : Nat) : Int)), _, _, _, _, _, _] 6
            unfold natAt
            show 21 - ((i : Int) + 1).toNat < 21 - ((i : Nat) : Int).toNat
            omega
    · intro σ H2 Q1 Q2 m h
      obtain ⟨v, e, h⟩ := h
      refine ⟨v, e, qIxT_mono (fun y H3 h => ?_) h⟩
      obtain ⟨v2, e2, v3, e3, h⟩ := h
      refine ⟨v2, e2, v3, e3, qIxL_mono (fun y2 H4 h => qIxT_mono (fun y3 H5 h => ?_) h) h⟩
      obtain ⟨e5, x, e6, t⟩ := h
      exact ⟨e5, x, e6, m _ _ t⟩
end
end L2.Ww
set_option Elab.async false
set_option linter.all false
set_option maxRecDepth 100000
set_option maxHeartbeats 4000000
/-! ring_in -/
namespace L2.Ww
open PySem PySem.Spec PyProof.Rows
section
open PySem.StrLaws PySem.Builtin PySem.Builtin.Str
theorem occ_all (s sub : Str) (hi lim : Nat) : ∀ (l : List Nat) (st : Array Nat × Nat), (∀ x ∈ st.fst.toList, x + sub.length ≤ hi ∧ subAt s sub x = true) → ∀ x ∈ (forIn l st (occBody s sub hi lim)).run.fst.toList, x + sub.length ≤ hi ∧ subAt s sub x = true
  | [], st, h => h
  | a :: l, st, h => by
    rw [List.forIn_cons]
    unfold occBody
    split
    · rename_i c
      refine occ_all s sub hi lim l _ fun x hx => ?_
      rw [Array.toList_push] at hx
      rcases List.mem_append.mp hx with h1 | h1
      · exact h x h1
      · rw [List.mem_singleton.mp h1]
        exact ⟨c.1.2, c.2⟩
    · exact occ_all s sub hi lim l _ h
theorem occ_hit (x : Str) (c : Nat) (h : c ∈ x.cps.toList) : ∃ i rest, occurrences x ⟨#[c]⟩ 0 x.length 1 = i :: rest ∧ x.cps.toList[i]? = some c := by
  have f := found_one x c
  rw [decide_eq_true h] at f
  cases e : occurrences x ⟨#[c]⟩ 0 x.length 1 with
  | nil => rw [e] at f; cases f
  | cons i rest =>
    refine ⟨i, rest, rfl, (subAt_one x c i).mp ?_⟩
    refine occ_all x ⟨#[c]⟩ x.length 1 (List.range' 0 (x.length + 1 - 0)) (#[], 0) (fun y hy => by simp at hy) i ?_
    rw [← occ_eq, e]
    exact List.mem_cons_self
end
theorem first_at {us : List Nat} {i : Nat} (h : i ∈ us) : ∃ j : Nat, us[j]? = some i ∧ ∀ m, m < j → us[m]? ≠ some i := by
  induction us with
  | nil => cases h
  | cons u us ih =>
    by_cases e : u = i
    · exact ⟨0, by rw [e]; rfl, fun m hm => by omega⟩
    · rcases List.mem_cons.mp h with e2 | h2
      · exact absurd e2.symm e
      · obtain ⟨j, hj, hm⟩ := ih h2
        refine ⟨j + 1, hj, fun m hm1 => ?_⟩
        cases m with
        | zero => intro e2; exact e (Option.some.inj e2)
        | succ m => exact hm m (by omega)
theorem r_idx {K : PySem.W.Frag} {H : Hp} {Q : VK} {p : Addr} {us : List Nat} {i : Nat} (h : LstAt H p (dNs us)) (hi : i ∈ us) (k : ∀ j : Nat, us[j]? = some i → Q (.int (j : Int)) H) : qIdx K (.ref p) [.int (i : Int)] H Q := by
  obtain ⟨j, hj, hm⟩ := first_at hi
  unfold qIdx
  refine ⟨p, _, .int (i : Int), j, .int (i : Int), rfl, rfl, SqL.of (lst_ns h), rfl, flat_ns us, by rw [List.getElem?_map, hj] <;> rfl, beq_self_eq_true (i : Int), fun m z hmj hz => ?_, k j hj⟩
  rw [List.getElem?_map, Option.map_eq_some_iff] at hz
  obtain ⟨y, hy, rfl⟩ := hz
  have hne : y ≠ i := fun e => hm m hmj (by rw [hy, e])
  show ((y : Int) == (i : Int)) = false
  rw [beq_eq_false_iff_ne]
  omega
theorem zip_at {α β : Type} {as : List α} {bs : List β} {p : α × β} (h : p ∈ as.zip bs) : ∃ k : Nat, as[k]? = some p.1 ∧ bs[k]? = some p.2 := by
  obtain ⟨k, hk, e⟩ := List.mem_iff_getElem.mp h
  have h2 : (as.zip bs)[k]? = some p := by rw [List.getElem?_eq_getElem hk, e]
  rw [List.getElem?_zip_eq_some] at h2
  exact ⟨k, h2.1, h2.2⟩
theorem step_at {M : Mach} {us : List Nat} {u v l : Nat} {c : Int} (h : (u, v, c, l) ∈ stepsOf M us) : ∃ (k : Nat) (t : List (List Wt)), M.ls.cps.toList[k]? = some l ∧ M.tabs[k]? = some t ∧ entry t u v = some c := by
  unfold stepsOf at h
  obtain ⟨p, hp, h⟩ := List.mem_flatMap.mp h
  obtain ⟨i, hi, h⟩ := List.mem_flatMap.mp h
  obtain ⟨j, hj, h⟩ := List.mem_filterMap.mp h
  obtain ⟨c', hc, e⟩ := Option.map_eq_some_iff.mp h
  cases e
  obtain ⟨k, h1, h2⟩ := zip_at hp
  exact ⟨k, p.2, h1, h2, hc⟩
theorem nd_same {l : List Nat} (nd : l.Nodup) {i j c : Nat} (hi : l[i]? = some c) (hj : l[j]? = some c) : i = j := by
  obtain ⟨h1, e1⟩ := List.getElem?_eq_some_iff.mp hi
  obtain ⟨h2, e2⟩ := List.getElem?_eq_some_iff.mp hj
  exact (List.getElem_inj nd).mp (e1.trans e2.symm)
theorem Chn.at {R : Nat → Nat → Nat → Prop} {cs rs : List Nat} (h : Chn R cs rs) : ∀ {i : Nat} {u v l : Nat}, cs[i]? = some l → rs[i]? = some u → rs[i + 1]? = some v → R u v l := by
  induction h with
  | one => intro i u v l e; simp at e
  | cons hR _ ih =>
    intro i u v l e1 e2 e3
    cases i with
    | zero => cases e1; cases e2; cases e3; exact hR
    | succ i => exact ih e1 e2 e3
def spRingIn : Sp := fun vs H Q _ => ∃ a y M us cs rs, vs = [a, .str (strL cs), y] ∧ Rep H (dMach M) a ∧ M.WF ∧ M.ls.cps.toList.Nodup ∧ (∀ u ∈ us, u < M.st.length) ∧ Rep H (.t (dNs rs)) y ∧ (∀ r ∈ rs, r ∈ us) ∧ cs.length ≤ 20 ∧
  Chn (fun u v l => ∃ c, (u, v, c, l) ∈ stepsOf M us) cs rs ∧ ∀ d z (r : Nat) rs', r ∈ us → Gives H (.t [d, .t [.a (.str z), .t (dN r :: rs')]]) Q
section
variable {P : Program} {w : World} {K : PySem.W.Frag} {mg : Str → Option Value} {base : Heap}
abbrev s_ring_in : Stmt := top 64
theorem sc_ring_in : FnScope ["machine", "word", "way", "rooms", "costs", "text", "letter", "room", "at"] ["machine", "word", "way"] (defScope s_ring_in) := ⟨rfl, rfl, rfl, by decide +kernel, rfl, by decide +kernel, by decide +kernel⟩
theorem ok_ring_in (T : Txt w K mg) : Cal P w K mg base CX0 1 "ring_in" spRingIn := by
  refine cal_ok T.d_ring_in (fun _ _ _ _ _ _ us hl => match us, hl with | [_, _, _], _ => rfl) sc_ring_in (fun vs H Q E h => ?_) (fun cdv A outer s f H vs Q E hr h => ?_)
  · obtain ⟨_, _, _, _, _, _, rfl, _⟩ := h; rfl
  · obtain ⟨a, y, M, us, cs, rs, rfl, ha, wM, ndl, hu, hy, hrs, hcl, hch, k⟩ := h
    refine ⟨_, PSs.nox (pss_cons (ps_set (i := 3) sc_ring_in.nd rfl (Or.inl rfl) (pe_lstQ (pa_cons (pe_ix (ix_tupQ K) (pv 2) pe_int (fun _ _ => rfl)) pa_nil)))
      (pss_cons (ps_set (i := 4) sc_ring_in.nd rfl (Or.inl rfl) (pe_lstQ pa_nil))
      (pss_cons (ps_set (i := 5) sc_ring_in.nd rfl (Or.inl rfl) pe_str)
      (pss_cons (ps_for PassesOwn.never rfl (pi_zipST rfl T.f_zip (pa_cons (pv 1) (pa_cons (pe_slice (sl_tupAQ K) (pv 2) (po_some pe_int) po_none) pa_nil))) (pg_tup (n := 2) rfl (pgs_cons (pg_name (i := 6) sc_ring_in.nd rfl (Or.inl rfl)) (pgs_cons (pg_name (i := 7) sc_ring_in.nd rfl (Or.inl rfl)) pgs_nil)))
      (pss_cons (ps_expr (pe_bm PySem.F.plainAttrs_list PySem.F.slot_list_append PySem.F.type_list_append mt_appQ (pv 4) (pa_cons (pe_ix (ix_tupQ K) (pe_ix (ix_tupQ K) (pe_ix (ix_tupQ K) (pe_ix (ix_tupQ K) (pv 0) pe_int (fun _ _ => rfl)) (pe_m1 PySem.F.slot_str_index PySem.F.type_str_index mt_sindex (pe_ix (ix_tupQ K) (pv 0) pe_int (fun _ _ => rfl)) (pv 6)) (fun _ _ => rfl)) (pe_ix (ix_listQ K) (pv 3) (pe_un un_neg pe_int) (fun _ _ => rfl)) (fun _ _ => rfl)) (pv 7) (fun _ _ => rfl)) pa_nil)))
      (pss_cons (ps_aug (i := 5) sc_ring_in.nd rfl (Or.inl rfl) (pv 6) ip_addS)
      (pss_cons (ps_expr (pe_bm PySem.F.plainAttrs_list PySem.F.slot_list_append PySem.F.type_list_append mt_appQ (pv 3) (pa_cons (pv 7) pa_nil)))
      (pss_cons (ps_set (i := 8) sc_ring_in.nd rfl (Or.inl rfl) (pe_bm PySem.F.plainAttrs_list PySem.F.slot_list_index PySem.F.type_list_index (mt_indexQ K) (pv 3) (pa_cons (pv 7) pa_nil)))
      (pss_one (ps_if (pt_cmpR op_lt (pv 8) (pe_op op_sub (pe_callB (call_lenQ K) (by rfl) T.f_len PySem.boot_len (pa_cons (pv 3) pa_nil)) pe_int) (nomark _)) (pss_cons (ps_if (pt_cmpR op_lt (pe_callB (cr_sum rfl) (by rfl) T.f_sum (by decide +kernel) (pa_cons (pe_slice (sl_listQ K) (pv 4) (po_some (pv 8)) po_none) pa_nil)) pe_int (nomark _)) (pss_one (ps_ret (pe_tupQ (pa_cons (pe_tupQ (pa_cons (pe_slice sl_str (pv 5) po_none (po_some (pv 8))) (pa_cons (pe_callTy (call_tupQ K) (by rfl) T.f_tuple (by decide +kernel) (pa_cons (pe_slice (sl_listQ K) (pv 3) po_none (po_some (pe_op op_add (pv 8) pe_int))) pa_nil)) pa_nil))) (pa_cons (pe_tupQ (pa_cons (pe_slice sl_str (pv 5) (po_some (pv 8)) po_none) (pa_cons (pe_callTy (call_tupQ K) (by rfl) T.f_tuple (by decide +kernel) (pa_cons (pe_slice (sl_listQ K) (pv 3) (po_some (pv 8)) po_none) pa_nil)) pa_nil))) pa_nil))))) pss_nil)
      (pss_cons (ps_set (i := 3) sc_ring_in.nd rfl (Or.inl rfl) (pe_slice (sl_listQ K) (pv 3) po_none (po_some (pe_op op_add (pv 8) pe_int))))
      (pss_cons (ps_set (i := 4) sc_ring_in.nd rfl (Or.inl rfl) (pe_slice (sl_listQ K) (pv 4) po_none (po_some (pv 8))))
      (pss_one (ps_set (i := 5) sc_ring_in.nd rfl (Or.inl rfl) (pe_slice sl_str (pv 5) po_none (po_some (pv 8)))))))) pss_nil)))))))
      (pss_one (ps_ret (pe_tupQ (pa_cons (pe_tupQ (pa_cons (pv 5) (pa_cons (pe_callTy (call_tupQ K) (by rfl) T.f_tuple (by decide +kernel) (pa_cons (pv 3) pa_nil)) pa_nil))) (pa_cons (pe_tupQ (pa_cons pe_str (pa_cons (pe_tupQ (pa_cons (pe_ix (ix_listQ K) (pv 3) (pe_un un_neg pe_int) (fun _ _ => rfl)) pa_nil)) pa_nil))) pa_nil))))))))), ?_⟩
    have hrl := hch.len
    obtain ⟨r0, hr0⟩ : ∃ r0, rs[0]? = some r0 := ⟨_, List.getElem?_eq_getElem (by omega)⟩
    refine ⟨_, rfl, r_ixT 0 hy (by rw [dNs, List.getElem?_map, hr0] <;> rfl) fun v0 h0 => ?_⟩
    cases h0
    refine r_lst (ds := dNs [r0]) (Reps.cons rfl Reps.nil) (small (by simp)) fun ro H1 s1 hro hlr => ?_
    refine r_lst (ds := []) Reps.nil (small (by simp)) fun co H2 s2 hco hlc => ?_
    refine ⟨_, rfl, _, rfl, _, rfl, r_slT (lo := some 1) (hi := none) (hy.same (s1.trans s2)) fun yw H3 s3 h3 => ?_⟩
    have ecut : cutD (dNs rs) (some 1) none = dNs (rs.drop 1) := by
      have := cutD_suf (dNs rs) 1 (by rw [dNs, List.length_map]; omega)
      refine Eq.trans (show _ = cutD (dNs rs) (some ((1 : Nat) : Int)) none from rfl) (this.trans ?_)
      rw [dNs, dNs, List.map_drop]
    rw [ecut] at h3
    obtain ⟨q, vs3, rfl, hq3, r3⟩ := h3
    have hvl : vs3.length = rs.length - 1 := by rw [r3.len, dNs, List.length_map, List.length_drop]
    have hsz : (strL cs).cps.size = cs.length := strL_len cs
    have none_back : ∀ {Ha Hb : Hp} {q : Addr}, Same Ha Hb → Hb q = none → Ha q = none := fun {Ha Hb q} s e => by
      cases e2 : Ha q with
      | none => rfl
      | some o => rw [s _ _ e2] at e; cases e
    have hneq : ∀ {Hx : Hp} {p : Addr} {ds : List D}, Same H3 Hx → H3 p = none → q ≠ p := fun {Hx p ds} s e e2 => by rw [← e2, hq3] at e; cases e
    have hcoH : H co = none := none_back s1 hco
    have hcr : co ≠ ro := fun e => by
      obtain ⟨vs, e2, _⟩ := hlr
      rw [← e, hco] at e2; cases e2
    refine ⟨_, q, vs3, rfl, SqT.of hq3, for_it (walk_zipS (x := strL cs) (ys := vs3) (n := cs.length) (by rw [hsz, hvl, hrl]; omega)) (fun i σ H4 => ∃ ro co tx y6 y7 y8, ∃ R costs, ∃ rl : Nat, σ = [some a, some (.str (strL cs)), some y, some (.ref ro), some (.ref co), some (.str tx), y6, y7, y8] ∧ Same H H4 ∧ H4 q = some (.tup vs3) ∧ H ro = none ∧ H co = none ∧ co ≠ ro ∧
        LstAt H4 ro (dNs (R ++ [rl])) ∧ LstAt H4 co (costs.map fun c : Int => D.a (.int c)) ∧ rs[i]? = some rl ∧ R.length ≤ i ∧ costs.length ≤ i ∧ tx.length ≤ i ∧ ∀ r ∈ R ++ [rl], r ∈ us)
      ⟨ro, co, _, none, none, none, [], [], r0, rfl, s1.trans (s2.trans s3), hq3, hro, hcoH, hcr, hlr.same (s2.trans s3), hlc.same s3, hr0, Nat.le_refl _, Nat.le_refl _, Nat.le_refl _, fun r hr => by rw [List.mem_singleton.mp hr]; exact hrs r0 (List.mem_of_getElem? hr0)⟩
      (fun i σ H4 _ ⟨_, _, _, _, _, _, _, _, _, _, _, s4, _⟩ => SqT.of s4) ?_ ?_⟩
    · rintro i x σ H4 H5 hi ⟨ro, co, tx, y6, y7, y8, R, costs, rl, rfl, s4, hq4, hroH, hcoH, hcr, hR4, hC4, hrl4, hRl, hCl, hTl, hRu⟩ ⟨T0, u, v, rfl, hT, rfl, hu1, hv1⟩
      obtain ⟨l, hl0, rfl⟩ := Option.map_eq_some_iff.mp (show ((strL cs).cps[i]?).map _ = some u from hu1)
      have hl1 : cs[i]? = some l := by
        have : cs.toArray[i]? = some l := hl0
        simpa using this
      obtain ⟨dv, hdv, rv⟩ := r3.getV hv1
      rw [dNs, List.getElem?_map, Option.map_eq_some_iff] at hdv
      obtain ⟨rn, hrn, rfl⟩ := hdv
      cases rv
      rw [List.getElem?_drop] at hrn
      have hrn2 : rs[i + 1]? = some rn := by rw [← hrn]; congr 1; omega
      have hrnu := hrs rn (List.mem_of_getElem? hrn2)
      obtain ⟨c, hstep⟩ := hch.at hl1 hrl4 hrn2
      obtain ⟨kk, tb, hk1, hk2, hent⟩ := step_at hstep
      obtain ⟨jj, rest, hocc, hj1⟩ := occ_hit M.ls l (List.mem_of_getElem? hk1)
      have ejk : jj = kk := nd_same ndl hj1 hk1
      subst ejk
      have m1 : tb ∈ M.tabs := List.mem_of_getElem? hk2
      have n1 := wM.rows tb m1
      have hrlu := hu rl (hrs rl (List.mem_of_getElem? hrl4))
      have hrnn := hu rn hrnu
      have hrow : tb[rl]? = some tb[rl] := List.getElem?_eq_getElem (by omega)
      have lr := wM.cols tb m1 tb[rl] (List.getElem_mem _)
      have hcell : tb[rl][rn]? = some (tb[rl][rn]'(by omega)) := List.getElem?_eq_getElem (by omega)
      have hent2 : tb[rl][rn]'(by omega) = some c := by
        unfold entry at hent
        rw [hrow, Option.bind_some, hcell] at hent
        exact hent
      have s5 : Same H (upd H4 T0 (.tup [.str ⟨#[l]⟩, .int (rn : Int)])) := s4.trans (Same.upd' hT)
      have sT : Same H4 (upd H4 T0 (.tup [.str ⟨#[l]⟩, .int (rn : Int)])) := Same.upd' hT
      have hR5 := hR4.same sT
      have hC5 := hC4.same sT
      have hq5 := sT _ _ hq4
      refine ⟨T0, _, rfl, SqT.of upd_same, rfl, _, _, rfl, _, _, rfl, rfl, ?_⟩
      generalize upd H4 T0 (.tup [.str ⟨#[l]⟩, .int (rn : Int)]) = H5 at s5 hR5 hC5 hq5
      refine ⟨_, rfl, tyL hC5, _, rfl, r_ixT 2 (ha.same s5) rfl fun tv htv => ⟨_, rfl, r_ixT 0 (ha.same s5) rfl fun lv hlv => ?_⟩⟩
      cases hlv
      refine ⟨⟨_, rfl⟩, _, rfl, M.ls, ⟨#[l]⟩, jj, rest, rfl, rfl, hocc, ?_⟩
      refine r_ixT jj htv (by rw [List.getElem?_map, hk2] <;> rfl) fun tw htw => ?_
      have hR5' : LstAt H5 ro (dNs R ++ [dN rl]) := by rw [dN_app]; exact hR5
      refine ⟨_, rfl, _, rfl, r_ixLast hR5' fun v hv => ?_⟩
      cases hv
      refine r_ixT rl htw (by rw [List.getElem?_map, hrow] <;> rfl) fun rw_ hrw => ?_
      refine ⟨_, rfl, r_ixT rn hrw (by rw [List.getElem?_map, hcell] <;> rfl) fun cv hcv => ?_⟩
      cases rep_W hcv
      rw [hent2]
      refine r_app (d := .a (.int c)) hC5 rfl ?_ fun H6 k6 t6 o6 hC6 => ?_
      · rw [List.length_map]; exact Nat.lt_of_le_of_lt (show costs.length ≤ 20 by omega) (by decide)
      have hR6 : LstAt H6 ro (dNs (R ++ [rl])) := by
        obtain ⟨vs, q1, q2⟩ := hR5
        exact ⟨vs, by rw [o6 ro (fun e => hcr e.symm)]; exact q1, q2.up t6⟩
      have hq6 : H6 q = some (.tup vs3) := t6 _ _ hq5
      refine ⟨_, rfl, _, rfl, _, _, rfl, rfl, ?_, ?_⟩
      · exact Nat.le_of_lt (Nat.lt_of_le_of_lt (show tx.length + 1 ≤ 21 by omega) (by decide))
      have htx : (tx ++ (⟨#[l]⟩ : Str)).length ≤ i + 1 := by
        show (tx.cps ++ #[l]).size ≤ _
        rw [Array.size_append]
        show tx.length + 1 ≤ _
        omega
      generalize tx ++ (⟨#[l]⟩ : Str) = tx2 at htx
      refine ⟨_, rfl, tyL hR6, _, rfl, r_app (d := dN rn) hR6 rfl ?_ fun H7 k7 t7 o7 hR7 => ?_⟩
      · rw [dNs, List.length_map, List.length_append, List.length_singleton]; exact Nat.lt_of_le_of_lt (show R.length + 1 ≤ 21 by omega) (by decide)
      have hC7 : LstAt H7 co ((costs ++ [c]).map fun c : Int => D.a (.int c)) := by
        rw [List.map_append]
        obtain ⟨vs, q1, q2⟩ := hC6
        exact ⟨vs, by rw [o7 co hcr]; exact q1, q2.up t7⟩
      have hq7 : H7 q = some (.tup vs3) := t7 _ _ hq6
      have s7 : Same H H7 := k7 H hroH (k6 H hcoH s5)
      rw [dN_app] at hR7
      have hRu7 : ∀ r ∈ (R ++ [rl]) ++ [rn], r ∈ us := fun r hr => by
        rcases List.mem_append.mp hr with h | h
        · exact hRu r h
        · rw [List.mem_singleton.mp h]; exact hrnu
      generalize hR2 : R ++ [rl] = R2 at hR7 hRu7
      have hR2l : R2.length ≤ i + 1 := by rw [← hR2, List.length_append, List.length_singleton]; omega
      have hC2l : (costs ++ [c]).length ≤ i + 1 := by rw [List.length_append, List.length_singleton]; omega
      generalize costs ++ [c] = C2 at hC7 hC2l
      refine ⟨_, rfl, tyL hR7, _, rfl, r_idx hR7 (by simp) fun at_ hat => ?_⟩
      have hatl : at_ < (R2 ++ [rn]).length := (List.getElem?_eq_some_iff.mp hat).1
      rw [List.length_append, List.length_singleton] at hatl
      refine ⟨_, rfl, _, rfl, r_lenL hR7 ⟨_, _, rfl, rfl, _, _, rfl, rfl, _, rfl, ?_⟩⟩
      rw [dNs, List.length_map, List.length_append, List.length_singleton]
      refine ite2 (fun hc => ?_) (fun hc => ?_)
      · -- a ring
        have hc2 : at_ < R2.length := by have := of_decide_eq_true hc; omega
        refine ⟨_, rfl, _, rfl, _, rfl, r_slL hC7 fun cc H8 s8 hcc hlcc => ?_⟩
        obtain ⟨cv8, hcv8, rcv8⟩ := hlcc
        have ecc : cutD (C2.map fun c : Int => D.a (.int c)) (some (at_ : Int)) none = ((cutD C2 (some (at_ : Int)) none).map V.int).map D.a := by
          unfold cutD
          rw [List.length_map, ← List.map_drop, ← List.map_take, List.map_map] <;> rfl
        rw [ecc, Reps.atoms] at rcv8
        subst rcv8
        refine ⟨cc, _, rfl, SqL.of hcv8, _, _, rfl, rfl, _, rfl, ?_⟩
        refine ite2 (fun hn => ?_) (fun hn => ?_)
        · refine ⟨_, rfl, _, rfl, _, rfl, tx2, rfl, Nat.le_of_lt (Nat.lt_of_le_of_lt (show tx2.length ≤ 21 by omega) (by decide)), ?_⟩
          refine ⟨_, rfl, _, rfl, _, _, rfl, rfl, _, rfl, r_slL (hR7.same s8) fun ra H9 s9 hra hlra => r_tupL hlra fun v10 H10 s10 h10 => ?_⟩
          refine r_tup (Reps.cons (d := .a (.str (cutS tx2 none (some (at_ : Int))))) rfl (Reps.cons h10 Reps.nil)) (small (by simp)) fun v11 H11 s11 h11 => ?_
          refine ⟨_, rfl, _, rfl, _, rfl, tx2, rfl, Nat.le_of_lt (Nat.lt_of_le_of_lt (show tx2.length ≤ 21 by omega) (by decide)), ?_⟩
          have hR11 := hR7.same (s8.trans (s9.trans (s10.trans s11)))
          refine ⟨_, rfl, _, rfl, _, rfl, r_slL hR11 fun rb H12 s12 hrb hlrb => r_tupL hlrb fun v13 H13 s13 h13 => ?_⟩
          refine r_tup (Reps.cons (d := .a (.str (cutS tx2 (some (at_ : Int)) none))) rfl (Reps.cons h13 Reps.nil)) (small (by simp)) fun v14 H14 s14 h14 => ?_
          refine r_tup (Reps.cons (h11.same (s12.trans (s13.trans s14))) (Reps.cons h14 Reps.nil)) (small (by simp)) fun v15 H15 s15 h15 => ?_
          rw [cutD_suf (dNs (R2 ++ [rn])) at_ (by rw [dNs, List.length_map, List.length_append, List.length_singleton]; omega)] at h15
          have edrop : (dNs (R2 ++ [rn])).drop at_ = dN rn :: dNs ((R2 ++ [rn]).drop (at_ + 1)) := by
            rw [dNs, ← List.map_drop]
            rw [List.drop_eq_getElem_cons (by rw [List.length_append, List.length_singleton]; omega)]
            have : (R2 ++ [rn])[at_]'(by rw [List.length_append, List.length_singleton]; omega) = rn := by
              have := List.getElem?_eq_some_iff.mp hat
              exact this.2
            rw [this, List.map_cons]
          rw [edrop] at h15
          exact k _ _ rn _ hrnu v15 H15 (s7.trans (s8.trans (s9.trans (s10.trans (s11.trans (s12.trans (s13.trans (s14.trans s15)))))))) h15
        · refine ⟨_, rfl, _, rfl, _, _, rfl, rfl, _, rfl, r_slL (hR7.same s8) fun ra H9 s9 hra hlra => ?_⟩
          refine ⟨_, rfl, _, rfl, _, rfl, r_slL (hC7.same (s8.trans s9)) fun cb H10 s10 hcb hlcb => ?_⟩
          refine ⟨_, rfl, _, rfl, _, rfl, tx2, rfl, Nat.le_of_lt (Nat.lt_of_le_of_lt (show tx2.length ≤ 21 by omega) (by decide)), ?_⟩
          have epre : cutD (dNs (R2 ++ [rn])) none (some ((at_ : Int) + 1)) = dNs (R2.take at_ ++ [rn]) := by
            refine Eq.trans (show _ = cutD (dNs (R2 ++ [rn])) none (some ((at_ + 1 : Nat) : Int)) from rfl) ?_
            rw [cutD_pre _ _ (by rw [dNs, List.length_map, List.length_append, List.length_singleton]; omega)]
            rw [dNs, dNs, ← List.map_take, List.take_add_one, hat]
            rw [List.take_append_of_le_length (by omega)] <;> rfl
          rw [epre] at hlra
          have ecb : cutD (C2.map fun c : Int => D.a (.int c)) none (some (at_ : Int)) = (cutD C2 none (some (at_ : Int))).map fun c : Int => D.a (.int c) := by
            unfold cutD
            rw [List.length_map, ← List.map_drop, ← List.map_take]
          rw [ecb] at hlcb
          have s10H : Same H H10 := s7.trans (s8.trans (s9.trans s10))
          refine ⟨ra, cb, _, _, _, _, R2.take at_, cutD C2 none (some (at_ : Int)), rn, rfl, s10H, (s8.trans (s9.trans s10)) _ _ hq7, none_back (s7.trans s8) hra, none_back (s7.trans (s8.trans s9)) hcb, ?_, hlra.same s10, hlcb, hrn2, ?_, ?_, ?_, ?_⟩
          · intro e
            obtain ⟨vs, e2, _⟩ := hlra
            rw [← e, hcb] at e2; cases e2
          · rw [List.length_take]; omega
          · unfold cutD
            rw [List.length_take, List.length_drop]; omega
          · exact Nat.le_trans (cutS_length _ _ _) htx
          · intro r hr
            refine hRu7 r ?_
            rcases List.mem_append.mp hr with h | h
            · exact List.mem_append.mpr (.inl (List.mem_of_mem_take h))
            · exact List.mem_append.mpr (.inr h)
      · exact ⟨ro, co, tx2, _, _, _, R2, C2, rn, rfl, s7, hq7, hroH, hcoH, hcr, hR7, hC7, hrn2, hR2l, hC2l, htx, hRu7⟩
    · rintro σ H4 ⟨ro, co, tx, y6, y7, y8, R, costs, rl, rfl, s4, hq4, hroH, hcoH, hcr, hR4, hC4, hrl4, hRl, hCl, hTl, hRu⟩
      refine ⟨_, rfl, _, rfl, r_tupL hR4 fun v5 H5 s5 h5 => ?_⟩
      refine r_tup (Reps.cons (d := .a (.str tx)) rfl (Reps.cons h5 Reps.nil)) (small (by simp)) fun v6 H6 s6 h6 => ?_
      have hR4' : LstAt H4 ro (dNs R ++ [dN rl]) := by rw [dN_app]; exact hR4
      refine ⟨_, rfl, _, rfl, r_ixLast (hR4'.same (s5.trans s6)) fun v hv => ?_⟩
      cases hv
      refine r_tup (ds := [dN rl]) (Reps.cons rfl Reps.nil) (small (by simp)) fun v7 H7 s7 h7 => ?_
      refine r_tup (ds := [.a (.str ⟨#[]⟩), .t [dN rl]]) (Reps.cons rfl (Reps.cons h7 Reps.nil)) (small (by simp)) fun v8 H8 s8 h8 => ?_
      refine r_tup (Reps.cons (h6.same (s7.trans s8)) (Reps.cons h8 Reps.nil)) (small (by simp)) fun v9 H9 s9 h9 => ?_
      exact k _ _ rl [] (hRu rl (by simp)) v9 H9 (s4.trans (s5.trans (s6.trans (s7.trans (s8.trans s9))))) h9
end
end L2.Ww
set_option Elab.async false
set_option linter.all false
set_option maxRecDepth 100000
set_option maxHeartbeats 4000000
/-! What a machine accepts, plainly; levels and prices of the program's way. -/
namespace L2.Ww
open PySem PySem.Spec PyProof.Rows
def Ed (M : Mach) (i j : Nat) (c : Int) : Prop := ∃ (k : Nat) (t : List (List Wt)), M.tabs[k]? = some t ∧ entry t i j = some c
def AccM (M : Mach) : Int → Prop := BF.Acc (stF M.st) (stF M.en) (Ed M)
theorem entry_lt {t : List (List Wt)} {i j : Nat} {c : Int} (h : entry t i j = some c) : ∃ r, t[i]? = some r ∧ r[j]? = some (some c) := by
  unfold entry at h
  cases e : t[i]? with
  | none => rw [e] at h; cases h
  | some r =>
    refine ⟨r, rfl, ?_⟩
    rw [e, Option.bind_some] at h
    cases e2 : r[j]? with
    | none => rw [e2] at h; cases h
    | some x => rw [e2] at h; rw [show x = some c from h]
theorem Ed.lt {M : Mach} (wM : M.WF) {i j : Nat} {c : Int} (h : Ed M i j c) : i < M.st.length ∧ j < M.st.length := by
  obtain ⟨k, t, hk, he⟩ := h
  obtain ⟨r, hr, hc⟩ := entry_lt he
  have m1 := List.mem_of_getElem? hk
  have n1 := wM.rows t m1
  have n2 := wM.cols t m1 r (List.mem_of_getElem? hr)
  have h1 := (List.getElem?_eq_some_iff.mp hr).1
  have h2 := (List.getElem?_eq_some_iff.mp hc).1
  omega
theorem mem_steps {M : Mach} (wM : M.WF) {us : List Nat} {i j : Nat} {c : Int} : (∃ l, (i, j, c, l) ∈ stepsOf M us) ↔ BF.In (Ed M) us i j c := by
  constructor
  · rintro ⟨l, h⟩
    obtain ⟨k, t, _, h2, h3⟩ := step_at h
    have := stepsOf_mem h
    exact ⟨this.1, this.2, k, t, h2, h3⟩
  · rintro ⟨hi, hj, k, t, hk, he⟩
    have hkl : k < M.tabs.length := (List.getElem?_eq_some_iff.mp hk).1
    have hls : k < M.ls.cps.toList.length := by
      have := wM.lt
      have e : M.ls.cps.toList.length = M.ls.length := TL.len_tl M.ls
      omega
    refine ⟨M.ls.cps.toList[k], ?_⟩
    unfold stepsOf
    refine List.mem_flatMap.mpr ⟨(M.ls.cps.toList[k], t), ?_, ?_⟩
    · refine List.mem_of_getElem? (i := k) ?_
      rw [List.getElem?_zip_eq_some]
      exact ⟨List.getElem?_eq_getElem hls, hk⟩
    · refine List.mem_flatMap.mpr ⟨i, hi, List.mem_filterMap.mpr ⟨j, hj, ?_⟩⟩
      show (entry t i j).map _ = _
      rw [he]; rfl
theorem mem_stp {M : Mach} (wM : M.WF) {us : List Nat} (i j : Nat) (d : Int) : (∃ l, (i, j, d, l) ∈ (stepsOf M us).map stp) ↔ BF.In (Ed M) us i j d := by
  rw [← mem_steps wM]
  constructor
  · rintro ⟨l, h⟩
    obtain ⟨s, hs, e⟩ := List.mem_map.mp h
    cases e
    exact ⟨s.2.2.2, hs⟩
  · rintro ⟨l, h⟩
    exact ⟨_, List.mem_map.mpr ⟨_, h, rfl⟩⟩
theorem begun_iff {r : List Wt} {i : Nat} : i ∈ begunL r ↔ ∃ a, stF r i = some a := by
  unfold begunL stF
  rw [List.mem_filter, List.mem_range]
  constructor
  · rintro ⟨_, h⟩
    exact Option.isSome_iff_exists.mp h
  · rintro ⟨a, h⟩
    refine ⟨?_, by rw [h]; rfl⟩
    cases e : r[i]? with
    | none => rw [e] at h; cases h
    | some x => exact (List.getElem?_eq_some_iff.mp e).1
theorem rch_fwd {M : Mach} (wM : M.WF) {v : Nat} : Rch (begunL M.st) ((stepsOf M (List.range M.st.length)).map fwdP) v ↔ BF.Fwd (stF M.st) (Ed M) v := by
  constructor
  · intro h
    induction h with
    | base hv =>
      obtain ⟨a, ha⟩ := begun_iff.mp hv
      exact ⟨_, a, 0, 0, ha, .nil _⟩
    | step _ hp ih =>
      obtain ⟨i, a, n, d, ha, w⟩ := ih
      obtain ⟨s, hs, e⟩ := List.mem_map.mp hp
      cases e
      obtain ⟨_, _, k, t, hk, he⟩ := (mem_steps wM).mp ⟨s.2.2.2, hs⟩
      exact ⟨i, a, n + 1, _, ha, .snoc w ⟨k, t, hk, he⟩⟩
  · rintro ⟨i, a, n, d, ha, w⟩
    induction w with
    | nil => exact .base (begun_iff.mpr ⟨a, ha⟩)
    | snoc _ e ih =>
      refine .step (ih ha) ?_
      have lt := e.lt wM
      obtain ⟨l, hl⟩ := (mem_steps wM).mpr ⟨List.mem_range.mpr lt.1, List.mem_range.mpr lt.2, e⟩
      exact List.mem_map.mpr ⟨_, hl, rfl⟩
theorem rch_bwd {M : Mach} (wM : M.WF) {v : Nat} : Rch (begunL M.en) ((stepsOf M (List.range M.st.length)).map bwdP) v ↔ BF.Bwd (stF M.en) (Ed M) v := by
  constructor
  · intro h
    induction h with
    | base hv =>
      obtain ⟨a, ha⟩ := begun_iff.mp hv
      exact ⟨_, a, 0, 0, ha, .nil _⟩
    | step _ hp ih =>
      obtain ⟨i, a, n, d, ha, w⟩ := ih
      obtain ⟨s, hs, e⟩ := List.mem_map.mp hp
      cases e
      obtain ⟨_, _, k, t, hk, he⟩ := (mem_steps wM).mp ⟨s.2.2.2, hs⟩
      exact ⟨i, a, n + 1, _, ha, .cons ⟨k, t, hk, he⟩ w⟩
  · rintro ⟨j, b, n, d, hb, w⟩
    have w2 := w.rev
    clear w
    induction w2 with
    | nil => exact .base (begun_iff.mpr ⟨b, hb⟩)
    | snoc _ e ih =>
      refine .step (ih hb) ?_
      have lt := Ed.lt wM e
      obtain ⟨l, hl⟩ := (mem_steps wM).mpr ⟨List.mem_range.mpr lt.1, List.mem_range.mpr lt.2, e⟩
      exact List.mem_map.mpr ⟨_, hl, rfl⟩
theorem stF_lt {r : List Wt} {i : Nat} {a : Int} (h : stF r i = some a) : i < r.length := by
  unfold stF at h
  cases e : r[i]? with
  | none => rw [e] at h; cases h
  | some x => exact (List.getElem?_eq_some_iff.mp e).1
theorem fwd_lt {M : Mach} (wM : M.WF) {v : Nat} (h : BF.Fwd (stF M.st) (Ed M) v) : v < M.st.length := by
  obtain ⟨i, a, n, d, ha, w⟩ := h
  cases w with
  | nil => exact stF_lt ha
  | snoc _ e => exact (Ed.lt wM e).2
theorem IsUse.hus {M : Mach} (wM : M.WF) {us : List Nat} (h : IsUse M us) (v : Nat) : v ∈ us ↔ BF.Fwd (stF M.st) (Ed M) v ∧ BF.Bwd (stF M.en) (Ed M) v := by
  rw [h.iff, rch_fwd wM, rch_bwd wM]
  exact ⟨fun q => q.2, fun q => ⟨fwd_lt wM q.1, q⟩⟩
theorem IsUse.lt {M : Mach} {us : List Nat} (h : IsUse M us) (v : Nat) (hv : v ∈ us) : v < M.st.length := ((h.iff v).mp hv).1
theorem IsUse.few {M : Mach} (wM : M.WF) {us : List Nat} (h : IsUse M us) : us.length ≤ 20 := by
  have := BF.nodup_len (us := List.range M.st.length) h.nd fun x hx => List.mem_range.mpr (h.lt x hx)
  rw [List.length_range] at this
  have := wM.few
  omega
/-! ### levels -/
section
variable {M : Mach} {us : List Nat}
def ssM (M : Mach) (us : List Nat) : List (CH.Stp Str) := (stepsOf M us).map stp
def lv (M : Mach) (us : List Nat) (k : Nat) : Lv := levM M us (ssM M us) k
theorem lv_min (wM : M.WF) (k v : Nat) : BF.MinOf (BF.S (stF M.st) (Ed M) us k v) (CH.cost (lv M us k) v) := CH.lev_min (fun i j d => mem_stp wM i j d) k v
theorem lv_entry {k v : Nat} {x : Int × Nat × Str} (h : (v, x) ∈ lv M us k) : CH.look (lv M us k) v = some x := CH.look_of_mem (CH.lev_nd k) h
theorem lv_S (wM : M.WF) {k v : Nat} {x : Int × Nat × Str} (h : CH.look (lv M us k) v = some x) : BF.S (stF M.st) (Ed M) us k v x.1 := by
  refine ((lv_min wM k v).2 x.1 ?_).1
  unfold CH.cost
  rw [h]; rfl
theorem lv_of_S (wM : M.WF) {k v : Nat} {c : Int} (h : BF.S (stF M.st) (Ed M) us k v c) : ∃ x, CH.look (lv M us k) v = some x ∧ x.1 ≤ c := by
  cases e : CH.look (lv M us k) v with
  | none =>
    refine absurd h ((lv_min wM k v).1 ?_ c)
    unfold CH.cost
    rw [e]; rfl
  | some x =>
    refine ⟨x, rfl, ((lv_min wM k v).2 x.1 ?_).2 c h⟩
    unfold CH.cost
    rw [e]; rfl
def priM (M : Mach) (us : List Nat) : List (Nat × Int) := CH.prices ((List.range us.length).map (lv M us))
theorem pri_min (wM : M.WF) (hne : us ≠ []) (v : Nat) : BF.MinOf (BF.T (stF M.st) (Ed M) us (us.length - 1) v) (CH.look (priM M us) v) := by
  have h := CH.prices_min ((List.range us.length).map (lv M us)) v
  have hl : 0 < us.length := List.length_pos_iff.mpr hne
  constructor
  · rintro e c ⟨m, hm, hs⟩
    obtain ⟨x, hx, _⟩ := lv_of_S wM hs
    exact h.1 e x.1 ⟨lv M us m, List.mem_map.mpr ⟨m, List.mem_range.mpr (by omega), rfl⟩, x, CH.look_mem hx, rfl⟩
  · intro w e
    obtain ⟨⟨L, hL, x, hx, e2⟩, hmin⟩ := h.2 w e
    obtain ⟨m, hm, rfl⟩ := List.mem_map.mp hL
    have hm2 := List.mem_range.mp hm
    refine ⟨⟨m, by omega, e2 ▸ lv_S wM (lv_entry hx)⟩, ?_⟩
    rintro c ⟨m', hm', hs⟩
    obtain ⟨y, hy, hyl⟩ := lv_of_S wM hs
    have := hmin y.1 ⟨lv M us m', List.mem_map.mpr ⟨m', List.mem_range.mpr (by omega), rfl⟩, y, CH.look_mem hy, rfl⟩
    omega
theorem pri_some (wM : M.WF) (hne : us ≠ []) {k v : Nat} {c : Int} (h : BF.S (stF M.st) (Ed M) us k v c) : ∃ p, CH.look (priM M us) v = some p := by
  obtain ⟨m, c', hm, hs⟩ := BF.reach_short k v c h
  cases e : CH.look (priM M us) v with
  | none => exact absurd ⟨m, by omega, hs⟩ ((pri_min wM hne v).1 e c')
  | some p => exact ⟨p, rfl⟩
theorem lv_falls (wM : M.WF) (hu : IsUse M us) (hne : us ≠ []) {v : Nat} {x : Int × Nat × Str} {p : Int} (hx : (v, x) ∈ lv M us us.length) (hp : CH.look (priM M us) v = some p) (hlt : x.1 < p) : BF.ValS (AccM M) .falls := by
  refine BF.falls_of (hu.hus wM) (lv_S wM (lv_entry hx)) fun m c' hm hs => ?_
  have := ((pri_min wM hne v).2 p hp).2 c' ⟨m, by omega, hs⟩
  omega
theorem lv_least (wM : M.WF) (hu : IsUse M us) (hne : us ≠ []) (hno : ∀ v x, (v, x) ∈ lv M us us.length → ∀ p, CH.look (priM M us) v = some p → ¬ x.1 < p) {w : Int}
    (hw : BF.MinOf (fun c => ∃ v p b, v ∈ us ∧ CH.look (priM M us) v = some p ∧ stF M.en v = some b ∧ c = p + b) (some w)) : BF.ValS (AccM M) (.least w) := by
  have hl : 0 < us.length := List.length_pos_iff.mpr hne
  refine BF.least_of (k := us.length - 1) (hu.hus wM) (fun v c hs => ?_) (fun v _ => pri_min wM hne v) hw
  rw [Nat.sub_add_cancel hl] at hs
  obtain ⟨x, hx, hxl⟩ := lv_of_S wM hs
  obtain ⟨p, hp⟩ := pri_some wM hne hs
  have h1 := hno v x (CH.look_mem hx) p hp
  exact ⟨p, ((pri_min wM hne v).2 p hp).1, by omega⟩
theorem lv_way (wM : M.WF) (m : Nat) : LvlWay (lv M us) (fun u v l => ∃ c, (u, v, c, l) ∈ stepsOf M us) m := by
  rintro k v ⟨c, u, z⟩ _ h
  obtain ⟨d, y, hm, hy, _⟩ := CH.lev_by (w := 0) h
  obtain ⟨s, hs, e⟩ := List.mem_map.mp hm
  cases e
  exact ⟨s.2.2.2, y, rfl, hy, s.2.2.1, hs⟩
theorem chn_us {cs rs : List Nat} (h : Chn (fun u v l => ∃ c, (u, v, c, l) ∈ stepsOf M us) cs rs) (hne : cs ≠ []) : ∀ r ∈ rs, r ∈ us := by
  induction h with
  | one => exact absurd rfl hne
  | cons hR h2 ih =>
    obtain ⟨c, hs⟩ := hR
    have hm := stepsOf_mem hs
    intro r hr
    rcases List.mem_cons.mp hr with rfl | hr
    · exact hm.1
    · cases h2 with
      | one => rw [List.mem_singleton.mp hr]; exact hm.2
      | cons a b => exact ih (List.cons_ne_nil _ _) r hr
theorem use_out (wM : M.WF) (hu : IsUse M us) {r : Nat} (hr : r ∈ us) : ∃ v, Rch [r] ((stepsOf M us).map fwdP) v ∧ (stF M.en v).isSome = true := by
  obtain ⟨j, b, n, d, hb, w⟩ := BF.use_bwd (hu.hus wM) r hr
  refine ⟨j, ?_, by rw [hb]; rfl⟩
  clear hb
  induction w with
  | nil => exact .base List.mem_cons_self
  | snoc _ e ih =>
    refine .step (ih hr) ?_
    obtain ⟨l, hl⟩ := (mem_steps wM).mpr e
    exact List.mem_map.mpr ⟨_, hl, rfl⟩
theorem use_end (wM : M.WF) (hu : IsUse M us) (hne : us ≠ []) : ∃ v b, v ∈ us ∧ stF M.en v = some b := by
  obtain ⟨r, hr⟩ := List.exists_mem_of_ne_nil us hne
  obtain ⟨j, b, n, d, hb, w⟩ := BF.use_bwd (hu.hus wM) r hr
  exact ⟨j, b, (BF.wk_in w (.inl hr)).2, hb⟩
theorem use_price (wM : M.WF) (hu : IsUse M us) (hne : us ≠ []) {v : Nat} (hv : v ∈ us) : ∃ p, CH.look (priM M us) v = some p := by
  obtain ⟨n, c, hs⟩ := BF.use_fwd (hu.hus wM) hv
  exact pri_some wM hne hs
end
end L2.Ww
set_option Elab.async false
set_option linter.all false
set_option maxRecDepth 100000
set_option maxHeartbeats 4000000
/-! cheapest -/
namespace L2.Ww
open PySem PySem.Spec PyProof.Rows
theorem dp_ints (K : PySem.W.Frag) (H : Hp) (us : List Nat) : DpAll K H (us.map fun (n : Nat) => V.int (n : Int)) (us.map fun (n : Nat) => PyData.int (n : Int)) := by
  induction us with
  | nil => exact .nil
  | cons u us ih => exact .cons (.int _) ih
theorem shp_ints (us : List Nat) : PySem.SeqAt.shaped (.list (us.map fun (n : Nat) => PyData.int (n : Int))) = true := by
  have h1 : PyData.canLayAll0 (us.map fun (n : Nat) => PyData.int (n : Int)) = true := by
    induction us with
    | nil => rfl
    | cons u us ih => exact ih
  have h2 : PyData.depthAll (us.map fun (n : Nat) => PyData.int (n : Int)) = 0 := by
    induction us with
    | nil => rfl
    | cons u us ih =>
      show max 0 (PyData.depthAll _) = 0
      rw [ih (by
        have : PyData.canLayAll0 (PyData.int (u : Int) :: us.map fun (n : Nat) => PyData.int (n : Int)) = true := h1
        exact this)]
      rfl
  unfold PySem.SeqAt.shaped
  rw [Bool.and_eq_true]
  refine ⟨h1, decide_eq_true ?_⟩
  show PyData.depthAll _ + 1 ≤ 64
  rw [h2]
  decide
theorem eqv_nil (us : List Nat) : PyData.eqv (.list (us.map fun (n : Nat) => PyData.int (n : Int))) (.list []) = decide (us = []) := by
  cases us with
  | nil => rfl
  | cons u us => rfl
def spCheapest : Sp := fun vs H Q _ => ∃ a M, vs = [a] ∧ Rep H (dMach M) a ∧ M.WF ∧ M.ls.cps.toList.Nodup ∧
  (BF.ValS (AccM M) .none → Gives H (.t [.a (.str "none")]) Q) ∧ (BF.ValS (AccM M) .falls → ∀ d1 d2 d3, Gives H (.t [.a (.str "falls"), d1, d2, d3]) Q) ∧
  ∀ x, BF.ValS (AccM M) (.least x) → ∀ d1 d2 d3, Gives H (.t [.a (.str "least"), .a (.int x), d1, d2, d3]) Q
theorem rep_tup2 {H : Hp} {a b : D} {v : V} (h : Rep H (.t [a, b]) v) : ∃ p x y, v = .ref p ∧ H p = some (.tup [x, y]) ∧ Rep H a x ∧ Rep H b y := by
  obtain ⟨T, vs, rfl, hT, r0⟩ := h
  obtain ⟨v1, r1, e1, h1, r0⟩ := r0
  obtain ⟨v2, r2, e2, h2, r0⟩ := r0
  cases r0
  subst e2 e1
  exact ⟨T, v1, v2, rfl, hT, h1, h2⟩
theorem same_none {Ha Hb : Hp} {q : Addr} (s : Same Ha Hb) (e : Hb q = none) : Ha q = none := by
  cases e2 : Ha q with
  | none => rfl
  | some o => rw [s _ _ e2] at e; cases e
section
variable {P : Program} {w : World} {K : PySem.W.Frag} {mg : Str → Option Value} {base : Heap}
abbrev s_cheapest : Stmt := top 66
theorem sc_cheapest : FnScope ["machine", "some", "levels", "prices", "room", "told", "word", "way", "first", "ring", "lowest", "many", "level", "one"] ["machine"] (defScope s_cheapest) := ⟨rfl, rfl, rfl, by decide +kernel, rfl, by decide +kernel, by decide +kernel⟩
theorem ok_cheapest (T : Txt w K mg) : Cal P w K mg base CX0 3 "cheapest" spCheapest := by
  refine cal_ok T.d_cheapest (fun _ _ _ _ _ _ us hl => match us, hl with | [_], _ => rfl) sc_cheapest (fun vs H Q E h => ?_) (fun cdv A outer s f H vs Q E hr h => ?_)
  · obtain ⟨_, _, rfl, _⟩ := h; rfl
  · obtain ⟨a, M, rfl, ha, wM, ndl, kN, kF, kL⟩ := h
    refine ⟨_, PSs.nox (pss_cons (ps_set (i := 1) sc_cheapest.nd rfl (Or.inl rfl) (pe_c0 (ok_useful T) hr (by decide) rfl (pa_cons (pv 0) pa_nil)))
      (pss_cons (ps_if (pt_cmpR (op_eqD hr.units) (pv 1) (pe_lstQ pa_nil) (nomark _)) (pss_one (ps_ret (pe_tupQ (pa_cons pe_str pa_nil)))) pss_nil)
      (pss_cons (ps_set (i := 2) sc_cheapest.nd rfl (Or.inl rfl) (pe_c0 (ok_levels_of T) hr (by decide) rfl (pa_cons (pv 0) (pa_cons (pv 1) (pa_cons (pe_c0 (ok_steps_of T) hr (by decide) rfl (pa_cons (pv 0) (pa_cons (pv 1) pa_nil))) pa_nil)))))
      (pss_cons (ps_set (i := 3) sc_cheapest.nd rfl (Or.inr rfl) (pe_c0 (ok_prices_of T) hr (by decide) rfl (pa_cons (pv 2) pa_nil)))
      (pss_cons (ps_lock (ps_for PassesOwn.never rfl (pi_items (pe_ix (ix_listQ K) (pv 2) (pe_un un_neg pe_int) (fun _ _ => rfl))) (pg_tup (n := 2) rfl (pgs_cons (pg_name (i := 4) sc_cheapest.nd rfl (Or.inl rfl)) (pgs_cons (pg_name (i := 5) sc_cheapest.nd rfl (Or.inl rfl)) pgs_nil)))
      (pss_one (ps_if (pt_cmpR op_lt (pe_ix (ix_tupQ K) (pv 5) pe_int (fun _ _ => rfl)) (pe_dget (hu_of hr) (pv 3) (pv 4) (fun _ _ => rfl)) (nomark _)) (pss_cons (ps_asg (pe_c0 (ok_way_to T) hr (by decide) rfl (pa_cons (pv 2) (pa_cons (pe_callB (call_lenQ K) (by rfl) T.f_len PySem.boot_len (pa_cons (pv 1) pa_nil)) (pa_cons (pv 4) pa_nil)))) (pg_tup (n := 2) rfl (pgs_cons (pg_name (i := 6) sc_cheapest.nd rfl (Or.inl rfl)) (pgs_cons (pg_name (i := 7) sc_cheapest.nd rfl (Or.inl rfl)) pgs_nil))))
      (pss_cons (ps_asg (pe_c0 (ok_ring_in T) hr (by decide) rfl (pa_cons (pv 0) (pa_cons (pv 6) (pa_cons (pv 7) pa_nil)))) (pg_tup (n := 2) rfl (pgs_cons (pg_name (i := 8) sc_cheapest.nd rfl (Or.inl rfl)) (pgs_cons (pg_name (i := 9) sc_cheapest.nd rfl (Or.inl rfl)) pgs_nil))))
      (pss_one (ps_ret (pe_tupQ (pa_cons pe_str (pa_cons (pv 8) (pa_cons (pv 9) (pa_cons (pe_c0 (ok_way_out T) hr (by decide) rfl (pa_cons (pv 0) (pa_cons (pv 1) (pa_cons (pe_ix (ix_tupQ K) (pe_ix (ix_tupQ K) (pv 9) pe_int (fun _ _ => rfl)) pe_int (fun _ _ => rfl)) pa_nil)))) pa_nil))))))))) pss_nil))))
      (pss_cons (ps_set (i := 10) sc_cheapest.nd rfl (Or.inl rfl) (pe_callB (cr_min rfl) (by rfl) T.f_min (by decide +kernel) (pa_cons (pe_lc (own := [("room", 4)]) rfl sc_cheapest.nd (pi_list (pv 1)) (blkOk_by (own := [("room", 4)]) (N := ["machine", "some", "levels", "prices", "room", "told", "word", "way", "first", "ring", "lowest", "many", "level", "one"]) (sc := defScope s_cheapest) (by decide +kernel)) (fun _ _ _ _ _ => (pg_name (i := 4) sc_cheapest.nd rfl (Or.inl rfl))) (fun _ _ _ _ _ => (pts_one (pt_cmpR op_notN (pe_ix (ix_tupQ K) (pe_ix (ix_tupQ K) (pv 0) pe_int (fun _ _ => rfl)) (pv 4) (fun _ _ => rfl)) pe_non (nomark _)))) (fun _ _ _ _ _ => (pe_op op_add (pe_dget (hu_of hr) (pv 3) (pv 4) (fun _ _ => rfl)) (pe_ix (ix_tupQ K) (pe_ix (ix_tupQ K) (pv 0) pe_int (fun _ _ => rfl)) (pv 4) (fun _ _ => rfl))))) pa_nil)))
      (pss_cons (ps_for PassesOwn.never rfl (pi_enum rfl T.f_enumerate (pa_cons (pv 2) pa_nil)) (pg_tup (n := 2) rfl (pgs_cons (pg_name (i := 11) sc_cheapest.nd rfl (Or.inl rfl)) (pgs_cons (pg_name (i := 12) sc_cheapest.nd rfl (Or.inl rfl)) pgs_nil)))
      (pss_one (ps_lock (ps_for PassesOwn.never rfl (pi_items (pv 12)) (pg_tup (n := 2) rfl (pgs_cons (pg_name (i := 4) sc_cheapest.nd rfl (Or.inl rfl)) (pgs_cons (pg_name (i := 5) sc_cheapest.nd rfl (Or.inl rfl)) pgs_nil)))
      (pss_one (ps_if (PW.pt (pw_and (pt_cmpR op_notN (pe_ix (ix_tupQ K) (pe_ix (ix_tupQ K) (pv 0) pe_int (fun _ _ => rfl)) (pv 4) (fun _ _ => rfl)) pe_non (nomark _)) (pw_and1 (pt_cmpR op_eq (pe_op op_add (pe_ix (ix_tupQ K) (pv 5) pe_int (fun _ _ => rfl)) (pe_ix (ix_tupQ K) (pe_ix (ix_tupQ K) (pv 0) pe_int (fun _ _ => rfl)) (pv 4) (fun _ _ => rfl))) (pv 10) (nomark _))))) (pss_cons (ps_asg (pe_c0 (ok_way_to T) hr (by decide) rfl (pa_cons (pv 2) (pa_cons (pv 11) (pa_cons (pv 4) pa_nil)))) (pg_tup (n := 2) rfl (pgs_cons (pg_name (i := 6) sc_cheapest.nd rfl (Or.inl rfl)) (pgs_cons (pg_name (i := 7) sc_cheapest.nd rfl (Or.inl rfl)) pgs_nil))))
      (pss_one (ps_ret (pe_tupQ (pa_cons pe_str (pa_cons (pv 10) (pa_cons (pv 6) (pa_cons (pv 7) (pa_cons (pe_lc (own := [("one", 13)]) rfl sc_cheapest.nd (pi_range1 rfl T.f_range (pa_cons (pe_callB (call_lenQ K) (by rfl) T.f_len PySem.boot_len (pa_cons (pe_ix (ix_tupQ K) (pv 0) pe_int (fun _ _ => rfl)) pa_nil)) pa_nil)) (blkOk_by (own := [("one", 13)]) (N := ["machine", "some", "levels", "prices", "room", "told", "word", "way", "first", "ring", "lowest", "many", "level", "one"]) (sc := defScope s_cheapest) (by decide +kernel)) (fun _ _ _ _ _ => (pg_name (i := 13) sc_cheapest.nd rfl (Or.inl rfl))) (fun _ _ _ _ _ => pts_nil) (fun _ _ _ _ _ => (pe_dget1 (hu_of hr) (pv 3) (pv 13) ⟨rfl, rfl, rfl, rfl⟩))) pa_nil))))))))) pss_nil))))))
      (pss_one (ps_ret (pe_tupQ (pa_cons pe_str pa_nil))))))))))), ?_⟩
    refine ⟨_, rfl, a, M, rfl, ha, wM, fun us hu so H1 s1 hso hls => ?_⟩
    refine ⟨_, rfl, r_lst (ds := []) Reps.nil (small (by simp)) fun e0 H2 s2 he0 hle0 => ?_⟩
    have hso1 := lst_ns hls
    have he1 : H2 e0 = some (.lst []) := by
      obtain ⟨vs, q1, q2⟩ := hle0
      rw [show vs = [] from q2] at q1
      exact q1
    refine ⟨_, _, .lst (SqL.of (s2 _ _ hso1)) (dp_ints K H2 us), .lst (SqL.of he1) .nil, shp_ints us, rfl, _, rfl, ?_⟩
    rw [eqv_nil]
    by_cases hne : us = []
    · rw [decide_eq_true hne]
      refine iteT ?_
      refine r_tup (ds := [.a (.str "none")]) (Reps.cons rfl Reps.nil) (small (by simp)) fun v3 H3 s3 h3 => ?_
      exact kN (BF.none_of_nil (hu.hus wM) hne) v3 H3 (s1.trans (s2.trans s3)) h3
    rw [decide_eq_false hne]
    refine iteF ?_
    have s12 := s1.trans s2
    have hus20 := hu.few wM
    have hul := hu.lt
    have hstl := stepsOf_len wM hus20
    refine ⟨_, rfl, _, rfl, _, rfl, _, rfl, a, so, M, us, rfl, ha.same s12, wM, hls.same s2, hul, hus20, fun st H3 s3 hst hlst => ?_⟩
    have hlst2 : LstAt H3 st ((ssM M us).map dStp) := by rw [stps_eq] at hlst; exact hlst
    refine ⟨a, so, st, M, us, ssM M us, rfl, ha.same (s12.trans s3), wM, hls.same (s2.trans s3), hul, hus20, hlst2, by unfold ssM; rw [List.length_map]; exact hstl, fun lp H4 s4 hlp hL4 => ?_⟩
    have s14 : Same H H4 := s12.trans (s3.trans s4)
    have hL4' : LvsAt H4 lp (fun j => lvD (lv M us j)) (us.length + 1) := hL4
    refine ⟨_, rfl, lp, lv M us, us.length, rfl, hus20, lev_len M us (ssM M us) hus20 (by unfold ssM; rw [List.length_map]; exact hstl), hL4', fun pp H5 s5 hpp hP5 => ?_⟩
    have hP5' : DctAt H5 pp (pD (priM M us)) := hP5
    have hL5 := hL4'.same s5
    have s15 := s14.trans s5
    have hls5 : LstAt H5 so (dNs us) := hls.same (s2.trans (s3.trans (s4.trans s5)))
    have hen := wM.ends
    obtain ⟨as, hal, hll, hda⟩ := hL5
    obtain ⟨as', al, eas⟩ : ∃ as' al, as = as' ++ [al] := by
      rcases List.eq_nil_or_concat as with e | ⟨xs, x, e⟩
      · rw [e] at hal; simp at hal
      · exact ⟨xs, x, by rw [e] <;> simp⟩
    have hal' : as'.length = us.length := by rw [eas, List.length_append] at hal; simpa using hal
    have hdl : DctAt H5 al (lvD (lv M us us.length)) := hda us.length al (by rw [eas, ← hal']; simp)
    have hll2 : LstAt H5 lp ((as'.map fun a => D.a (.ref a)) ++ [.a (.ref al)]) := by
      rw [eas, List.map_append] at hll; exact hll
    have hppL : ∀ {d : Addr} {L : List (Nat × D)}, DctAt H4 d L → d ≠ pp := fun {d L} h e => by
      obtain ⟨ks, e2, _⟩ := h
      rw [e, hpp] at e2; cases e2
    obtain ⟨kvs, hkv, ent⟩ := hdl
    have halpp : al ≠ pp := by
      obtain ⟨as4, q1, q2, q3⟩ := hL4'
      obtain ⟨vs4, w1, w2⟩ := q2
      obtain ⟨vs5, w3, w4⟩ := hll
      rw [s5 _ _ w1] at w3
      cases w3
      have e4 : (as4.map V.ref).map D.a = as4.map fun a => D.a (.ref a) := by rw [List.map_map] <;> rfl
      have e5 : (as.map V.ref).map D.a = as.map fun a => D.a (.ref a) := by rw [List.map_map] <;> rfl
      rw [← e4, Reps.atoms] at w2
      rw [← e5, Reps.atoms] at w4
      rw [w2] at w4
      have e6 : as4 = as := (List.map_inj_right (f := V.ref) (fun x y e => by cases e; rfl)).mp w4
      rw [e6] at q3
      exact hppL (q3 us.length al (by rw [eas, ← hal']; simp))
    have hLR : LvsRd H5 lp (fun j => lvD (lv M us j)) (us.length + 1) := ⟨as, hal, hll, fun j b hb => (hda j b hb).rd⟩
    have hkl : kvs.length = (lv M us us.length).length := by rw [ent.len]; exact List.length_map _
    -- the last level
    refine ⟨al, .dK kvs, hkv, trivial, fun od => ?_⟩
    have tL : TupLe H5 (upd H5 al (.frz od (.dK kvs))) := tup_lock hkv
    have hPL : DctAt (upd H5 al (.frz od (.dK kvs))) pp (pD (priM M us)) := hP5'.up (upd_ne (fun e => halpp e.symm)) tL
    have haL : Rep (upd H5 al (.frz od (.dK kvs))) (dMach M) a := (ha.same s15).up tL
    have hsoL : LstAt (upd H5 al (.frz od (.dK kvs))) so (dNs us) := hls5.lock hkv
    have hLL := hLR.lock (od := od) hkv
    refine ⟨_, rfl, _, rfl, r_ixLast (hll2.lock hkv) fun v hv => ?_⟩
    cases hv
    refine ⟨al, od, kvs, rfl, upd_same, for_it (walk_items (d := al) (o := od) (kvs := kvs)) (fun j σ H6 => ∃ y4 y5, σ = [some a, some (.ref so), some (.ref lp), some (.ref pp), y4, y5, none, none, none, none, none, none, none, none] ∧ Same (upd H5 al (.frz od (.dK kvs))) H6 ∧ ∀ v x p, (v, x) ∈ (lv M us us.length).take j → CH.look (priM M us) v = some p → ¬ x.1 < p)
      ⟨none, none, rfl, Same.refl _, fun v x p hm => by simp at hm⟩ (fun j σ H6 _ ⟨_, _, _, s6, _⟩ => s6 _ _ upd_same) ?_ ?_⟩
    · rintro j x σ H6 H7 hj ⟨y4, y5, rfl, s6, hno⟩ ⟨T0, u, v, rfl, hT, rfl, hu1, hv1⟩
      obtain ⟨kv, hkj⟩ : ∃ kv, kvs[j]? = some kv := ⟨_, List.getElem?_eq_getElem hj⟩
      have hu2 : (kvs[j]?).map (fun kv => kV kv.1) = some u := hu1
      have hv2 : (kvs[j]?).map Prod.snd = some v := hv1
      rw [hkj] at hu2 hv2
      cases hv2
      obtain ⟨e, he, hk1, hr1⟩ := ent.at hkj
      have he2 : (((lv M us us.length).map fun e => (e.1, dEnt e.2)) : List (Nat × D))[j]? = some e := he
      rw [List.getElem?_map, Option.map_eq_some_iff] at he2
      obtain ⟨le, hle, rfl⟩ := he2
      obtain rfl : V.int (le.1 : Int) = u := by
        rw [← Option.some.inj hu2]
        show _ = kV kv.1
        rw [hk1]; rfl
      have hmem : (le.1, le.2) ∈ lv M us us.length := List.mem_of_getElem? hle
      have hlook := lv_entry hmem
      have hvus : le.1 ∈ us := CH.lev_mem (fun i j d => mem_stp wM i j d) hlook
      obtain ⟨pp1, hpp1⟩ := use_price wM hu hne hvus
      have s7 : Same (upd H5 al (.frz od (.dK kvs))) (upd H6 T0 (.tup [.int (le.1 : Int), kv.2])) := s6.trans (Same.upd' hT)
      refine ⟨T0, _, rfl, SqT.of upd_same, rfl, _, _, rfl, _, _, rfl, rfl, ?_⟩
      generalize upd H6 T0 (.tup [.int (le.1 : Int), kv.2]) = H7 at s7
      have hr7 : Rep H7 (dEnt le.2) kv.2 := (hr1.up tL).same s7
      obtain ⟨pv, gp, rp⟩ := (hPL.same s7).rd.gotS (n := le.1) (d := .a (.int pp1)) (by rw [look_pD, hpp1]; rfl)
      cases rp
      refine ⟨_, rfl, r_ixT 0 hr7 rfl fun u hu0 => ?_⟩
      cases hu0
      refine ⟨_, rfl, _, rfl, pp, _, rfl, gp, _, _, rfl, rfl, _, rfl, ?_⟩
      refine ite2 (fun hc => ?_) (fun hc => ?_)
      · have hc2 := of_decide_eq_true hc
        have hval : BF.ValS (AccM M) .falls := lv_falls wM hu hne hmem hpp1 hc2
        refine ⟨_, rfl, _, rfl, r_lenL (hsoL.same s7) ⟨_, rfl, ?_⟩⟩
        rw [dNs, List.length_map]
        refine ⟨lp, us.length, le.1, lv M us, us.length + 1, _, rfl, hLL.same s7, Nat.le_refl _, hus20, ⟨_, hlook⟩, lv_way wM _, fun cs rs hcl hch vw H8 s8 hvw => ?_⟩
        obtain ⟨Tw, vz, vr, rfl, hTw, hz, hrs⟩ := rep_tup2 hvw
        cases hz
        refine ⟨Tw, _, rfl, SqT.of hTw, rfl, _, _, rfl, _, _, rfl, rfl, ?_⟩
        have hcne : cs ≠ [] := fun e => by
          rw [e] at hcl
          exact hne (List.length_eq_zero_iff.mp hcl.symm)
        have s58 := s7.trans s8
        refine ⟨_, rfl, _, rfl, _, rfl, a, vr, M, us, cs, rs, rfl, haL.same s58, wM, ndl, hul, hrs, chn_us hch hcne, by rw [hcl]; exact hus20, hch, fun d z r rs' hr vg H9 s9 hvg => ?_⟩
        obtain ⟨Tg, vf, vring, rfl, hTg, hf, hring⟩ := rep_tup2 hvg
        refine ⟨Tg, _, rfl, SqT.of hTg, rfl, _, _, rfl, _, _, rfl, rfl, ?_⟩
        have s59 := s58.trans s9
        refine ⟨_, rfl, _, rfl, _, rfl, _, rfl, _, rfl, r_ixT 1 hring rfl fun vw1 hw1 => r_ixT 0 hw1 rfl fun vw2 hw2 => ?_⟩
        cases hw2
        refine ⟨a, so, r, M, us, rfl, haL.same s59, wM, hsoL.same s59, hul, hus20, hr, use_out wM hu hr, fun d4 v4 H10 s10 h4 => ?_⟩
        refine r_tup (Reps.cons (d := .a (.str "falls")) rfl (Reps.cons (hf.same s10) (Reps.cons (hring.same s10) (Reps.cons h4 Reps.nil)))) (small (by simp)) fun v11 H11 s11 h11 => ?_
        have sall := s59.trans (s10.trans s11)
        have hfz := sall _ _ (upd_same : (upd H5 al (.frz od (.dK kvs))) al = _)
        exact ⟨hfz, kF hval _ _ _ v11 _ (s15.trans (same_unlock sall hkv)) (h11.up (tup_unlock hfz))⟩
      · have hc2 : ¬ (le.2.1 < pp1) := fun z => hc (decide_eq_true z)
        refine ⟨_, _, rfl, s7, fun v x p hm hp => ?_⟩
        rw [List.take_add_one, hle] at hm
        rcases List.mem_append.mp hm with hm | hm
        · exact hno v x p hm hp
        · have hm2 : (v, x) = le := by simpa using hm
          have e1 : v = le.1 := by rw [← hm2]
          have e2 : x = le.2 := by rw [← hm2]
          subst e1 e2
          rw [hpp1] at hp
          cases hp
          exact hc2
    · rintro σ H6 ⟨y4, y5, rfl, s6, hno⟩
      have hf6 := s6 _ _ (upd_same : (upd H5 al (.frz od (.dK kvs))) al = _)
      refine ⟨hf6, ?_⟩
      rw [List.take_of_length_le (by omega)] at hno
      have s56 : Same H5 (upd H6 al (.dK kvs)) := same_unlock s6 hkv
      generalize upd H6 al (.dK kvs) = H6' at s56
      have s16 := s15.trans s56
      -- the lowest
      refine ⟨_, rfl, so, rfl, ⟨_, SqL.of (lst_ns (hls5.same s56))⟩, fun Dd hD => ?_⟩
      refine lc_gen (H0 := H6') (walk_list (xs := us.map fun (n : Nat) => V.int (n : Int))) hD (small (by rw [List.length_map]; omega)) (fun H7 s7 => SqL.of (lst_ns (hls5.same (s56.trans s7)))) same_YAt
        (fun i => (us[i]?).bind fun v => (CH.look (priM M us) v).bind fun p => (stF M.en v).map fun b => D.a (.int (p + b))) ?_ ?_
      · rintro i z H7 H8 hi s8 ⟨rfl, hz⟩ s7 Kf Kt hf ht
        rw [List.getElem?_map, Option.map_eq_some_iff] at hz
        obtain ⟨v, hv, rfl⟩ := hz
        have hvus := List.mem_of_getElem? hv
        obtain ⟨p, hp⟩ := use_price wM hu hne hvus
        have hvn : v < M.en.length := by have := hul v hvus; omega
        have hme : M.en[v]? = some M.en[v] := List.getElem?_eq_getElem hvn
        have hst : stF M.en v = M.en[v] := by unfold stF; rw [hme]; rfl
        have s18 := s16.trans s8
        refine ⟨rfl, _, rfl, r_ixT 3 (ha.same s18) rfl fun sv hsv => ⟨_, rfl, r_ixT v hsv (by rw [List.getElem?_map, hme] <;> rfl) fun c hc => ?_⟩⟩
        cases rep_W hc
        refine ⟨rfl, _, rfl, ?_⟩
        cases hc2 : M.en[v] with
        | none =>
          refine iteF (hf ?_ _ (Same.refl _))
          rw [hv, Option.bind_some, hp, Option.bind_some, hst, hc2]; rfl
        | some c =>
          obtain ⟨pv, gp, rp⟩ := (hP5'.same (s56.trans s8)).rd.gotS (n := v) (d := .a (.int p)) (by rw [look_pD, hp]; rfl)
          cases rp
          refine iteT ⟨_, rfl, _, rfl, pp, _, rfl, gp, _, rfl, r_ixT 3 (ha.same s18) rfl fun sv hsv => ⟨_, rfl, r_ixT v hsv (by rw [List.getElem?_map, hme] <;> rfl) fun c1 hc1 => ?_⟩⟩
          cases rep_W hc1
          rw [hc2]
          refine ⟨_, _, rfl, rfl, ht (.a (.int (p + c))) ?_ _ _ (Same.refl _) rfl⟩
          rw [hv, Option.bind_some, hp, Option.bind_some, hst, hc2]; rfl
      intro H7 s7 hl7
      rw [List.length_map, fm_range] at hl7
      generalize hns : us.filterMap (fun v => (CH.look (priM M us) v).bind fun p => (stF M.en v).map fun b => p + b) = ns
      have ens : (us.filterMap fun v => (CH.look (priM M us) v).bind fun p => (stF M.en v).map fun b => D.a (.int (p + b))) = (ns.map V.int).map D.a := by
        rw [← hns, List.map_map, List.map_filterMap]
        congr 1
        funext v
        cases CH.look (priM M us) v with
        | none => rfl
        | some p =>
          cases stF M.en v with
          | none => rfl
          | some b => rfl
      rw [ens] at hl7
      obtain ⟨nv, hnv, rnv⟩ := hl7
      rw [Reps.atoms] at rnv
      subst rnv
      have hmem : ∀ c, c ∈ ns ↔ ∃ v p b, v ∈ us ∧ CH.look (priM M us) v = some p ∧ stF M.en v = some b ∧ c = p + b := by
        intro c
        rw [← hns, List.mem_filterMap]
        constructor
        · rintro ⟨v, hv, e⟩
          obtain ⟨p, hp, e⟩ := Option.bind_eq_some_iff.mp e
          obtain ⟨b, hb, rfl⟩ := Option.map_eq_some_iff.mp e
          exact ⟨v, p, b, hv, hp, hb, rfl⟩
        · rintro ⟨v, p, b, hv, hp, hb, rfl⟩
          exact ⟨v, hv, by rw [hp, Option.bind_some, hb]; rfl⟩
      have hnp : 0 < ns.length := by
        obtain ⟨v, b, hv, hb⟩ := use_end wM hu hne
        obtain ⟨p, hp⟩ := use_price wM hu hne hv
        exact List.length_pos_of_mem ((hmem (p + b)).mpr ⟨v, p, b, hv, hp, hb, rfl⟩)
      have s17 := s16.trans s7
      have s57 := s56.trans s7
      refine ⟨Dd, ns, rfl, SqL.of hnv, hnp, fun lo hlo hmin => ?_⟩
      have hMin : BF.MinOf (fun c => ∃ v p b, v ∈ us ∧ CH.look (priM M us) v = some p ∧ stF M.en v = some b ∧ c = p + b) (some lo) :=
        ⟨fun e => (nomatch e), fun w e => by cases e; exact ⟨(hmem lo).mp hlo, fun c hc => hmin c ((hmem c).mpr hc)⟩⟩
      have hval : BF.ValS (AccM M) (.least lo) := lv_least wM hu hne (fun v x hm p hp => hno v x p hm hp) hMin
      -- the first level that has it
      have hll7 := hll.same s57
      obtain ⟨lv7, hlv7, rlv7⟩ := hll7
      have e5 : (as.map fun a => D.a (.ref a)) = (as.map V.ref).map D.a := by rw [List.map_map] <;> rfl
      rw [e5, Reps.atoms] at rlv7
      subst rlv7
      refine ⟨_, rfl, lp, _, rfl, SqL.of hlv7, for_it (walk_enum (xs := as.map V.ref)) (fun i σ H8 => ∃ y4 y5 y11 y12, σ = [some a, some (.ref so), some (.ref lp), some (.ref pp), y4, y5, none, none, none, none, some (.int lo), y11, y12, none] ∧ Same H7 H8 ∧ ∀ k v x b, k < i → (v, x) ∈ lv M us k → stF M.en v = some b → x.1 + b ≠ lo)
        ⟨_, _, _, _, rfl, Same.refl _, fun k v x b hk => by omega⟩ (fun i σ H8 _ ⟨_, _, _, _, _, s8, _⟩ => SqL.of (s8 _ _ hlv7)) ?_ ?_⟩
      · rintro i z σ H8 H9 hi ⟨y4, y5, y11, y12, rfl, s8, hno2⟩ ⟨T0, u, v, rfl, hT, rfl, hu1, hv1⟩
        cases hu1
        have hi2 : i < us.length + 1 := by rw [List.length_map, hal] at hi; exact hi
        obtain ⟨d, hd1, rfl⟩ := Option.map_eq_some_iff.mp (show (as[i]?).map V.ref = some v by rw [← List.getElem?_map]; exact hv1)
        have hdd := hda i d hd1
        obtain ⟨ks, hks, ent2⟩ := hdd
        have hdpp : d ≠ pp := by
          obtain ⟨as4, q1, q2, q3⟩ := hL4'
          obtain ⟨vs4, w1, w2⟩ := q2
          have w5 := s57 _ _ (s5 _ _ w1)
          rw [hlv7] at w5
          cases w5
          have e4 : (as4.map V.ref).map D.a = as4.map fun a => D.a (.ref a) := by rw [List.map_map] <;> rfl
          rw [← e4, Reps.atoms] at w2
          have e6 : as = as4 := (List.map_inj_right (f := V.ref) (fun x y e => by cases e; rfl)).mp w2
          rw [← e6] at q3
          exact hppL (q3 i d hd1)
        have s9 : Same H7 (upd H8 T0 (.tup [.int (i : Int), .ref d])) := s8.trans (Same.upd' hT)
        refine ⟨T0, _, rfl, SqT.of upd_same, rfl, _, _, rfl, _, _, rfl, rfl, ?_⟩
        generalize upd H8 T0 (.tup [.int (i : Int), .ref d]) = H9 at s9
        have s59 := s57.trans s9
        have hks9 := s59 _ _ hks
        refine ⟨d, .dK ks, hks9, trivial, fun od2 => ?_⟩
        have tL2 : TupLe H9 (upd H9 d (.frz od2 (.dK ks))) := tup_lock hks9
        have haL2 : Rep (upd H9 d (.frz od2 (.dK ks))) (dMach M) a := (ha.same (s15.trans s59)).up tL2
        have hPL2 : DctAt (upd H9 d (.frz od2 (.dK ks))) pp (pD (priM M us)) := (hP5'.same s59).up (upd_ne (fun e => hdpp e.symm)) tL2
        have hLL2 := (hLR.same s59).lock (od := od2) hks9
        have hkl2 : ks.length = (lv M us i).length := by rw [ent2.len]; exact List.length_map _
        refine ⟨_, rfl, d, od2, ks, rfl, upd_same, for_it (walk_items (d := d) (o := od2) (kvs := ks)) (fun j σ H10 => ∃ y4 y5, σ = [some a, some (.ref so), some (.ref lp), some (.ref pp), y4, y5, none, none, none, none, some (.int lo), some (.int (i : Int)), some (.ref d), none] ∧ Same (upd H9 d (.frz od2 (.dK ks))) H10 ∧ ∀ v x b, (v, x) ∈ (lv M us i).take j → stF M.en v = some b → x.1 + b ≠ lo)
          ⟨_, _, rfl, Same.refl _, fun v x b hm => by simp at hm⟩ (fun j σ H10 _ ⟨_, _, _, s10, _⟩ => s10 _ _ upd_same) ?_ ?_⟩
        · rintro j x σ H10 H11 hj ⟨y4, y5, rfl, s10, hno3⟩ ⟨T1, u, v, rfl, hT1, rfl, hu1, hv1⟩
          obtain ⟨kv, hkj⟩ : ∃ kv, ks[j]? = some kv := ⟨_, List.getElem?_eq_getElem hj⟩
          have hu2 : (ks[j]?).map (fun kv => kV kv.1) = some u := hu1
          have hv2 : (ks[j]?).map Prod.snd = some v := hv1
          rw [hkj] at hu2 hv2
          cases hv2
          obtain ⟨e, he, hk1, hr1⟩ := ent2.at hkj
          have he2 : (((lv M us i).map fun e => (e.1, dEnt e.2)) : List (Nat × D))[j]? = some e := he
          rw [List.getElem?_map, Option.map_eq_some_iff] at he2
          obtain ⟨le, hle, rfl⟩ := he2
          obtain rfl : V.int (le.1 : Int) = u := by
            rw [← Option.some.inj hu2]
            show _ = kV kv.1
            rw [hk1]; rfl
          have hmem1 : (le.1, le.2) ∈ lv M us i := List.mem_of_getElem? hle
          have hlook := lv_entry hmem1
          have hvus : le.1 ∈ us := CH.lev_mem (fun i j d => mem_stp wM i j d) hlook
          have hvn : le.1 < M.en.length := by have := hul _ hvus; omega
          have hme : M.en[le.1]? = some M.en[le.1] := List.getElem?_eq_getElem hvn
          have hst : stF M.en le.1 = M.en[le.1] := by unfold stF; rw [hme]; rfl
          have s11 : Same (upd H9 d (.frz od2 (.dK ks))) (upd H10 T1 (.tup [.int (le.1 : Int), kv.2])) := s10.trans (Same.upd' hT1)
          refine ⟨T1, _, rfl, SqT.of upd_same, rfl, _, _, rfl, _, _, rfl, rfl, ?_⟩
          generalize upd H10 T1 (.tup [.int (le.1 : Int), kv.2]) = H11 at s11
          have hr11 : Rep H11 (dEnt le.2) kv.2 := ((hr1.same s59).up tL2).same s11
          have take1 : ∀ v x b, (v, x) ∈ (lv M us i).take (j + 1) → stF M.en v = some b → (∀ b, stF M.en le.1 = some b → le.2.1 + b ≠ lo) → x.1 + b ≠ lo := by
            intro v x b hm hb hnew
            rw [List.take_add_one, hle] at hm
            rcases List.mem_append.mp hm with hm | hm
            · exact hno3 v x b hm hb
            · have hm2 : (v, x) = le := by simpa using hm
              have e1 : v = le.1 := by rw [← hm2]
              have e2 : x = le.2 := by rw [← hm2]
              subst e1 e2
              exact hnew b hb
          refine ⟨_, rfl, r_ixT 3 (haL2.same s11) rfl fun sv hsv => ⟨_, rfl, r_ixT le.1 hsv (by rw [List.getElem?_map, hme] <;> rfl) fun c hc => ?_⟩⟩
          cases rep_W hc
          refine ⟨rfl, _, rfl, ?_⟩
          cases hc2 : M.en[le.1] with
          | none =>
            refine iteF (iteF ⟨_, _, rfl, s11, fun v x b hm hb => take1 v x b hm hb fun b hb => ?_⟩)
            rw [hst, hc2] at hb; cases hb
          | some c =>
            refine iteT ⟨_, rfl, r_ixT 0 hr11 rfl fun u hu0 => ?_⟩
            cases hu0
            refine ⟨_, rfl, r_ixT 3 (haL2.same s11) rfl fun sv hsv => ⟨_, rfl, r_ixT le.1 hsv (by rw [List.getElem?_map, hme] <;> rfl) fun c1 hc1 => ?_⟩⟩
            cases rep_W hc1
            rw [hc2]
            refine ⟨_, _, rfl, rfl, _, rfl, rfl, _, rfl, ?_⟩
            refine ite2 (fun hc => ?_) (fun hc => ?_)
            · -- here
              refine ⟨_, rfl, _, rfl, _, rfl, ?_⟩
              refine ⟨lp, i, le.1, lv M us, us.length + 1, _, rfl, hLL2.same s11, by omega, by omega, ⟨_, hlook⟩, lv_way wM _, fun cs rs hcl hch vw H12 s12' hvw => ?_⟩
              obtain ⟨Tw, vz, vr, rfl, hTw, hz, hrs⟩ := rep_tup2 hvw
              cases hz
              refine ⟨Tw, _, rfl, SqT.of hTw, rfl, _, _, rfl, _, _, rfl, rfl, ?_⟩
              have s912 := s11.trans s12'
              refine ⟨_, rfl, _, rfl, _, rfl, _, rfl, r_ixT 1 (haL2.same s912) rfl fun sv hsv => r_lenT hsv ?_⟩
              rw [List.length_map]
              have hn20 := wM.few
              refine ⟨M.st.length, rfl, by omega, by omega, fun De hDe => ?_⟩
              refine lc_gen (H0 := H12) (walk_range0 (n := (M.st.length : Int).toNat)) hDe (small (by omega)) (fun _ _ => trivial) same_YFn (fun i => some (dW (CH.look (priM M us) i))) ?_ ?_
              · rintro i x H13 H14 hi s14 ⟨rfl, rfl⟩ s13 Kf Kt hf ht
                have hP := (hPL2.same (s912.trans s14)).rd
                have hIs : IsD H14 pp := by
                  obtain ⟨ks3, q1, _⟩ := hPL2.same (s912.trans s14)
                  exact .inl ⟨ks3, .inl q1⟩
                refine ⟨rfl, _, rfl, pp, rfl, hIs, _, rfl, ?_⟩
                cases e1 : CH.look (priM M us) i with
                | none =>
                  exact ⟨_, hP.gotN (by rw [look_pD, e1]; rfl), ht (dW none) (by rw [e1]) _ _ (Same.refl _) rfl⟩
                | some p =>
                  obtain ⟨pv, gp, rp⟩ := hP.gotS (n := i) (d := .a (.int p)) (by rw [look_pD, e1]; rfl)
                  cases rp
                  exact ⟨_, gp, ht (dW (some p)) (by rw [e1]) _ _ (Same.refl _) rfl⟩
              intro H13 s13 hl13
              refine r_tup (Reps.cons (d := .a (.str "least")) rfl (Reps.cons (d := .a (.int lo)) rfl (Reps.cons (d := .a (.str (strL cs))) rfl (Reps.cons (hrs.same s13) (Reps.cons (d := .a (.ref De)) rfl Reps.nil))))) (small (by simp)) fun v14 H14 s14 h14 => ?_
              have sall := s912.trans (s13.trans s14)
              have hfz := sall _ _ (upd_same : (upd H9 d (.frz od2 (.dK ks))) d = _)
              exact ⟨hfz, kL lo hval _ _ _ v14 _ (s15.trans (s59.trans (same_unlock sall hks9))) (h14.up (tup_unlock hfz))⟩
            · refine ⟨_, _, rfl, s11, fun v x b hm hb => take1 v x b hm hb fun b hb => ?_⟩
              rw [hst, hc2] at hb
              cases hb
              intro e
              refine hc (decide_eq_true ?_)
              first | exact congrArg V.int e | exact e
        · rintro σ H10 ⟨y4, y5, rfl, s10, hno3⟩
          have hf10 := s10 _ _ (upd_same : (upd H9 d (.frz od2 (.dK ks))) d = _)
          rw [List.take_of_length_le (by omega)] at hno3
          refine ⟨hf10, _, _, _, _, rfl, s9.trans (same_unlock s10 hks9), fun k v x b hk hm hb => ?_⟩
          by_cases e : k = i
          · subst e; exact hno3 v x b hm hb
          · exact hno2 k v x b (by omega) hm hb
      · rintro σ H8 ⟨y4, y5, y11, y12, rfl, s8, hno2⟩
        exfalso
        rw [List.length_map, hal] at hno2
        obtain ⟨v, p, b, hv, hp, hb, e⟩ := (hmem lo).mp hlo
        obtain ⟨⟨m, hm, hs⟩, hmin2⟩ := (pri_min wM hne v).2 p hp
        obtain ⟨x, hx, hxl⟩ := lv_of_S wM hs
        have h2 := hmin2 x.1 ⟨m, hm, lv_S wM hx⟩
        have e2 : x.1 = p := by omega
        exact hno2 m v x b (by omega) (CH.look_mem hx) hb (by rw [e2]; exact e.symm)
end
end L2.Ww
set_option Elab.async false
set_option linter.all false
set_option maxRecDepth 100000
set_option maxHeartbeats 4000000
/-! Numbers as texts. -/
namespace L2.Ww
open PySem PySem.Spec PyProof.Rows
def intS (x : Int) : Str := Str.ofString (toString x)
def intL (x : Int) : List Nat := if x < 0 then 45 :: TL.numL x.natAbs else TL.numL x.natAbs
theorem tl_int (x : Int) : TL.tl (intS x) = intL x := by
  unfold intS intL
  cases x with
  | ofNat n =>
    rw [if_neg (by show ¬ (Int.ofNat n < 0); exact Int.not_lt.mpr (Int.natCast_nonneg n))]
    exact TL.tl_num n
  | negSucc n =>
    rw [if_pos (Int.negSucc_lt_zero n)]
    have e : toString (Int.negSucc n) = "-" ++ toString (n + 1) := rfl
    rw [e, TL.tl_ofString, String.toList_append, List.map_append]
    have e2 := TL.tl_num (n + 1)
    have e3 : toString ((n + 1 : Nat) : Int) = toString (n + 1) := rfl
    rw [e3, TL.tl_ofString] at e2
    rw [e2] <;> rfl
theorem num_head {n : Nat} : ∀ {r : List Nat}, TL.numL n = 48 :: r → n = 0 := by
  induction n using Nat.strongRecOn with
  | _ n ih =>
    intro r h
    by_cases c : n < 10
    · rw [TL.numL_lt c] at h
      injection h with h1 _
      omega
    · rw [TL.numL_step (by omega)] at h
      have hne := TL.numL_ne (n / 10)
      cases e : TL.numL (n / 10) with
      | nil => exact absurd e hne
      | cons d s =>
        rw [e] at h
        injection h with h1 _
        have := ih (n / 10) (by omega) (r := s) (by rw [e, h1])
        omega
theorem int_read {x : Int} (h : x.natAbs < 10 ^ 30) : intText? (intS x) = some x ∧ (intS x).length ≤ 31 := by
  have hd := TL.numL_digits x.natAbs
  have hne := TL.numL_ne x.natAbs
  have hl := TL.numL_len (n := x.natAbs) (k := 30) (by decide) h
  have hz : (intS x).length ≤ 31 := by
    rw [TL.len_tl, tl_int]
    unfold intL
    split
    · rw [List.length_cons]; omega
    · omega
  refine ⟨?_, hz⟩
  have e := tl_int x
  unfold intL at e
  by_cases c : x < 0
  · rw [if_pos c] at e
    have := intText_neg (x := intS x) e hd hne (by omega)
    rw [this, TL.numL_val]
    congr 1
    omega
  · rw [if_neg c] at e
    have := intText_digits (x := intS x) (by rw [show (intS x).cps.toList = _ from e]; exact hd) (by rw [show (intS x).cps.toList = _ from e]; exact hne) (by omega)
    rw [this, show (intS x).cps.toList = _ from e, TL.numL_val]
    congr 1
    omega
theorem starts_minus (z : Str) : Txt.startswith z "-" = decide (z.cps.toList[0]? = some 45) := by
  have e : TL.tl z = z.cps.toList := rfl
  have h := PySem.StrLaws.subAt_one z 45 0
  unfold Txt.startswith
  rw [Bool.eq_iff_iff, Bool.and_eq_true, decide_eq_true_eq, decide_eq_true_eq]
  exact h
theorem cutS_tail (z : Str) (h : 0 < z.length) : (cutS z (some 1) none).cps.toList = z.cps.toList.drop 1 := by
  have e1 : HT.sIx z.length 0 (some 1) = min 1 z.length := HT.sIx_nat z.length 0 1
  have e : z.cps.toList.length = z.length := (TL.len_tl z).symm
  unfold cutS
  rw [e1, HT.sIx_none, Nat.min_eq_left h]
  show (z.cps.toList.drop 1).take (z.length - 1) = _
  rw [List.take_of_length_le (by rw [List.length_drop]; omega)]
def wS : Wt → Str
  | none => "none"
  | some x => intS x
theorem int_ne_none (x : Int) : intS x ≠ ("none" : Str) := by
  intro h
  have e := congrArg TL.tl h
  rw [tl_int] at e
  have e2 : TL.tl ("none" : Str) = [110, 111, 110, 101] := by decide +kernel
  rw [e2] at e
  unfold intL at e
  split at e
  · injection e with h1 _; cases h1
  · have := TL.numL_digits x.natAbs 110 (by rw [e]; exact List.mem_cons_self)
    omega
def spReadWhole : Sp := fun vs H Q _ => ∃ x : Int, vs = [.str (intS x)] ∧ x.natAbs < 10 ^ 30 ∧ Q (.int x) H
def spShown : Sp := fun vs H Q _ => ∃ v, ∃ x : Wt, vs = [v, vW x] ∧ (∀ y, x = some y → y.natAbs.log2 < 1920) ∧ Q (.str (wS x)) H
def spRead : Sp := fun vs H Q _ => ∃ v, ∃ x : Wt, vs = [v, .str (wS x)] ∧ (∀ y, x = some y → y.natAbs < 10 ^ 30) ∧ Q (vW x) H
section
variable {P : Program} {w : World} {K : PySem.W.Frag} {mg : Str → Option Value} {base : Heap}
abbrev s_read_whole : Stmt := top 70
theorem sc_read_whole : FnScope ["text", "figures", "sign"] ["text"] (defScope s_read_whole) := ⟨rfl, rfl, rfl, by decide +kernel, rfl, by decide +kernel, by decide +kernel⟩
theorem ok_read_whole (T : Txt w K mg) : Cal P w K mg base CX0 1 "read_whole" spReadWhole := by
  refine cal_ok T.d_read_whole (fun _ _ _ _ _ _ us hl => match us, hl with | [_], _ => rfl) sc_read_whole (fun vs H Q E h => ?_) (fun cdv A outer s f H vs Q E hr h => ?_)
  · obtain ⟨_, rfl, _⟩ := h; rfl
  · obtain ⟨x, rfl, hx, k⟩ := h
    refine ⟨_, PSs.nox (pss_cons (ps_set (i := 1) sc_read_whole.nd rfl (Or.inl rfl) (pv 0))
      (pss_cons (ps_if (pt_val (pe_m1 PySem.F.slot_str_startswith PySem.F.type_str_startswith mt_startswith (pv 0) pe_str)) (pss_one (ps_set (i := 1) sc_read_whole.nd rfl (Or.inl rfl) (pe_slice sl_str (pv 0) (po_some pe_int) po_none))) pss_nil)
      (pss_cons (ps_if (PW.pt (pw_or (pt_cmpR op_lt (pe_callB call_len_str (by rfl) T.f_len PySem.boot_len (pa_cons (pv 1) pa_nil)) pe_int (nomark _)) (pw_or1 (pt_cmpR op_gt (pe_callB call_len_str (by rfl) T.f_len PySem.boot_len (pa_cons (pv 1) pa_nil)) (C8.pe_gc rfl T.g_MOST_FIGURES) (nomark _))))) (pss_one ps_never) pss_nil)
      (pss_cons (ps_for PassesOwn.never rfl (pi_str (pv 1)) (pg_name (i := 2) sc_read_whole.nd rfl (Or.inl rfl))
      (pss_one (ps_if (pt_cmpR op_notIn_sign (pv 2) (C8.pe_gc rfl T.g_FIGURES) (by rfl)) (pss_one ps_never) pss_nil)))
      (pss_cons (ps_if (PW.pt (pw_and (pt_cmpR op_eq (pe_ix ix_str (pv 1) pe_int (fun _ _ => rfl)) pe_str (nomark _)) (pw_and1 (pt_cmpR op_ne (pv 0) pe_str (nomark _))))) (pss_one ps_never) pss_nil)
      (pss_one (ps_ret (pe_callTy call_int_str (by rfl) T.f_int (by decide +kernel) (pa_cons (pv 0) pa_nil))))))))), ?_⟩
    obtain ⟨hread, hlen⟩ := int_read hx
    have htl : (intS x).cps.toList = intL x := tl_int x
    have hd := TL.numL_digits x.natAbs
    have hne := TL.numL_ne x.natAbs
    have hl := TL.numL_len (n := x.natAbs) (k := 30) (by decide) hx
    have hpos : 0 < (TL.numL x.natAbs).length := List.length_pos_iff.mpr hne
    have hzl : (intS x).length ≤ sizeLine := small (by omega)
    refine ⟨_, rfl, _, rfl, ⟨_, rfl⟩, intS x, "-", rfl, rfl, _, rfl, ?_⟩
    rw [starts_minus]
    generalize hF : (if x < 0 then cutS (intS x) (some 1) none else intS x) = F
    have hFl : F.cps.toList = TL.numL x.natAbs := by
      rw [← hF]
      by_cases c : x < 0
      · rw [if_pos c, cutS_tail _ (by rw [TL.len_tl]; show 0 < (intS x).cps.toList.length; rw [htl]; unfold intL; rw [if_pos c]; simp), htl]
        unfold intL
        rw [if_pos c] <;> rfl
      · rw [if_neg c, htl]
        unfold intL
        rw [if_neg c]
    have hFn : F.length = (TL.numL x.natAbs).length := by rw [TL.len_tl]; show F.cps.toList.length = _; rw [hFl]
    have h0 : (intS x).cps.toList[0]? = some 45 ↔ x < 0 := by
      rw [htl]
      unfold intL
      by_cases c : x < 0
      · rw [if_pos c]; exact ⟨fun _ => c, fun _ => rfl⟩
      · rw [if_neg c]
        constructor
        · intro e
          have := hd 45 (List.mem_of_getElem? e)
          omega
        · intro e; exact absurd e c
    by_cases c : x < 0
    · rw [decide_eq_true (h0.mpr c)]
      rw [if_pos c] at hF
      refine iteT ⟨_, rfl, _, rfl, intS x, rfl, hzl, ?_⟩
      rw [hF]
      refine ⟨_, rfl, F, rfl, small (by omega), _, _, rfl, rfl, _, rfl, ?_⟩
      rw [decide_eq_false (by omega)]
      refine iteF ⟨_, rfl, F, rfl, small (by omega), _, _, rfl, rfl, _, rfl, ?_⟩
      rw [decide_eq_false (by omega)]
      refine iteF ?_
      refine ⟨_, rfl, _, rfl, for_it (walk_str (z := F)) (fun i σ H2 => ∃ y, σ = [some (.str (intS x)), some (.str F), y] ∧ H2 = H) ⟨none, rfl, rfl⟩ (fun _ _ _ _ _ => trivial) ?_ ?_⟩
      · rintro i z σ H2 H3 hi ⟨y, rfl, rfl⟩ ⟨rfl, d, hc, rfl⟩
        have hm : d ∈ TL.numL x.natAbs := by rw [← hFl]; exact List.mem_of_getElem? (by rw [Array.getElem?_toList]; exact hc)
        have hm2 := hd d hm
        refine ⟨_, rfl, d, "0123456789", rfl, rfl, _, rfl, ?_⟩
        have hm3 : d ∈ ("0123456789" : Str).cps.toList := by
          have : ∀ d : Nat, 48 ≤ d → d ≤ 57 → d ∈ ("0123456789" : Str).cps.toList := by
            have e : ("0123456789" : Str).cps.toList = [48, 49, 50, 51, 52, 53, 54, 55, 56, 57] := by decide +kernel
            rw [e]
            intro d h1 h2
            simp
            omega
          exact this d hm2.1 hm2.2
        rw [decide_eq_true hm3]
        exact iteF ⟨_, rfl, rfl⟩
      · rintro σ H2 ⟨y, rfl, rfl⟩
        obtain ⟨d, hd0⟩ : ∃ d, F.cps.toList[0]? = some d := ⟨_, List.getElem?_eq_getElem (by rw [hFl]; exact hpos)⟩
        have hd1 : (TL.numL x.natAbs)[0]? = some d := by rw [← hFl]; exact hd0
        refine ⟨_, rfl, F, 0, d, rfl, rfl, small (by omega), atI_nat (j := 0) hd0, rfl, _, rfl, ?_⟩
        refine ite2 (fun he => ?_) (fun he => ?_)
        · exfalso
          have he2 := of_decide_eq_true he
          injection he2 with he3
          have he4 : d = 48 := by
            have := congrArg (fun z : Str => z.cps.toList) he3
            have e : ("0" : Str).cps.toList = [48] := by decide +kernel
            rw [e] at this
            have h5 : [d] = [48] := this
            injection h5
          subst he4
          obtain ⟨r, hr⟩ : ∃ r, TL.numL x.natAbs = 48 :: r := by
            cases e : TL.numL x.natAbs with
            | nil => exact absurd e hne
            | cons a r => rw [e] at hd1; cases hd1; exact ⟨r, rfl⟩
          have := num_head hr
          omega
        · refine iteF ⟨_, rfl, _, _, rfl, hread, by omega, k⟩
    · rw [decide_eq_false (fun z => c (h0.mp z))]
      rw [if_neg c] at hF
      refine iteF ?_
      rw [hF]
      refine ⟨_, rfl, F, rfl, small (by omega), _, _, rfl, rfl, _, rfl, ?_⟩
      rw [decide_eq_false (by omega)]
      refine iteF ⟨_, rfl, F, rfl, small (by omega), _, _, rfl, rfl, _, rfl, ?_⟩
      rw [decide_eq_false (by omega)]
      refine iteF ?_
      refine ⟨_, rfl, _, rfl, for_it (walk_str (z := F)) (fun i σ H2 => ∃ y, σ = [some (.str F), some (.str F), y] ∧ H2 = H) ⟨none, rfl, rfl⟩ (fun _ _ _ _ _ => trivial) ?_ ?_⟩
      · rintro i z σ H2 H3 hi ⟨y, rfl, rfl⟩ ⟨rfl, d, hc, rfl⟩
        have hm : d ∈ TL.numL x.natAbs := by rw [← hFl]; exact List.mem_of_getElem? (by rw [Array.getElem?_toList]; exact hc)
        have hm2 := hd d hm
        refine ⟨_, rfl, d, "0123456789", rfl, rfl, _, rfl, ?_⟩
        have hm3 : d ∈ ("0123456789" : Str).cps.toList := by
          have e : ("0123456789" : Str).cps.toList = [48, 49, 50, 51, 52, 53, 54, 55, 56, 57] := by decide +kernel
          rw [e]
          simp
          omega
        rw [decide_eq_true hm3]
        exact iteF ⟨_, rfl, rfl⟩
      · rintro σ H2 ⟨y, rfl, rfl⟩
        obtain ⟨d, hd0⟩ : ∃ d, F.cps.toList[0]? = some d := ⟨_, List.getElem?_eq_getElem (by rw [hFl]; exact hpos)⟩
        have hd1 : (TL.numL x.natAbs)[0]? = some d := by rw [← hFl]; exact hd0
        rw [hF] at hread hlen
        refine ⟨_, rfl, F, 0, d, rfl, rfl, small (by omega), atI_nat (j := 0) hd0, rfl, _, rfl, ?_⟩
        refine ite2 (fun he => ?_) (fun he => ?_)
        · have he2 := of_decide_eq_true he
          injection he2 with he3
          have he4 : d = 48 := by
            have := congrArg (fun z : Str => z.cps.toList) he3
            have e : ("0" : Str).cps.toList = [48] := by decide +kernel
            rw [e] at this
            have h5 : [d] = [48] := this
            injection h5
          subst he4
          obtain ⟨r, hr⟩ : ∃ r, TL.numL x.natAbs = 48 :: r := by
            cases e : TL.numL x.natAbs with
            | nil => exact absurd e hne
            | cons a r => rw [e] at hd1; cases hd1; exact ⟨r, rfl⟩
          have h00 := num_head hr
          have hF0 : F = ("0" : Str) := by
            refine TL.ext_tl ?_
            show F.cps.toList = _
            rw [hFl, h00]
            decide +kernel
          refine ⟨_, rfl, rfl, _, rfl, ?_⟩
          rw [decide_eq_true (show V.str F = V.str "0" by rw [hF0])]
          refine iteF ⟨_, rfl, _, _, rfl, hread, by omega, k⟩
        · refine iteF ⟨_, rfl, _, _, rfl, hread, by omega, k⟩
abbrev s_Costs_shown : Stmt := inClass (top 73) 6
theorem sc_Costs_shown : FnScope ["self", "x"] ["self", "x"] (defScope s_Costs_shown) := ⟨rfl, rfl, rfl, by decide +kernel, rfl, by decide +kernel, by decide +kernel⟩
theorem ok_Costs_shown (T : Txt w K mg) : Met P w K mg base CX0 1 (He.ga K "Costs") "shown" spShown := by
  refine met_ok T.c_Costs T.d_Costs_shown (fun _ _ _ _ _ _ us hl => match us, hl with | [_, _], _ => rfl) sc_Costs_shown (fun vs H Q E h => ?_) (fun cdv A outer s f H vs Q E hr h => ?_)
  · obtain ⟨v, x, rfl, _⟩ := h; rfl
  · obtain ⟨v, x, rfl, hx, k⟩ := h
    refine ⟨_, PSs.nox (pss_cons (ps_if (pt_cmpR op_isN (pv 1) pe_non (nomark _)) (pss_one (ps_ret pe_str)) pss_nil)
      (pss_one (ps_ret (pe_callTy call_str_int (by rfl) T.f_str (by decide +kernel) (pa_cons (pv 1) pa_nil))))), ?_⟩
    refine ⟨_, rfl, rfl, _, rfl, ?_⟩
    cases x with
    | none => exact iteT k
    | some x => exact iteF ⟨_, rfl, x, rfl, hx x rfl, k⟩
abbrev s_Costs_read : Stmt := inClass (top 73) 7
theorem sc_Costs_read : FnScope ["self", "text"] ["self", "text"] (defScope s_Costs_read) := ⟨rfl, rfl, rfl, by decide +kernel, rfl, by decide +kernel, by decide +kernel⟩
theorem ok_Costs_read (T : Txt w K mg) : Met P w K mg base CX0 2 (He.ga K "Costs") "read" spRead := by
  refine met_ok T.c_Costs T.d_Costs_read (fun _ _ _ _ _ _ us hl => match us, hl with | [_, _], _ => rfl) sc_Costs_read (fun vs H Q E h => ?_) (fun cdv A outer s f H vs Q E hr h => ?_)
  · obtain ⟨v, x, rfl, _⟩ := h; rfl
  · obtain ⟨v, x, rfl, hx, k⟩ := h
    refine ⟨_, PSs.nox (pss_cons (ps_if (pt_not (pt_val (pe_callB (call_isiQ K) (by rfl) T.f_isinstance (by decide +kernel) (pa_cons (pv 1) (pa_cons (pe_bltn (v := .ty "str") rfl T.f_str (by decide +kernel) rfl) pa_nil))))) (pss_one ps_never) pss_nil)
      (pss_cons (ps_if (pt_cmpR op_eq (pv 1) pe_str (nomark _)) (pss_one (ps_ret pe_non)) pss_nil)
      (pss_one (ps_ret (pe_c0 (ok_read_whole T) hr (by decide) rfl (pa_cons (pv 1) pa_nil)))))), ?_⟩
    refine ⟨_, rfl, isi_str ⟨_, rfl, iteF ?_⟩⟩
    refine ⟨_, rfl, rfl, _, rfl, ?_⟩
    cases x with
    | none => exact iteT k
    | some x =>
      rw [decide_eq_false (show ¬ V.str (wS (some x)) = V.str "none" by
        intro e
        injection e with e2
        exact int_ne_none x e2)]
      exact iteF ⟨_, rfl, x, rfl, hx x rfl, k⟩
end
end L2.Ww
set_option Elab.async false
set_option linter.all false
set_option maxRecDepth 100000
set_option maxHeartbeats 4000000
/-! Machines as texts: lines, tables. -/
namespace L2.Ww
open PySem PySem.Spec PyProof.Rows
def lineS (r : List Wt) : Str := if r = [] then "-" else Txt.join " " (r.map wS)
def tabS (t : List (List Wt)) : Str := if t = [] then "-" else Txt.join ", " (t.map lineS)
def machS (M : Mach) : Str := Txt.join " | " (([M.ls, lineS M.st] ++ M.tabs.map tabS) ++ [lineS M.en])
def WOk (x : Wt) : Prop := ∀ y, x = some y → y.natAbs < 10 ^ 30
/-! ### signs -/
theorem joinL_len (S : List Nat) (B : Nat) : ∀ ps : List (List Nat), (∀ p ∈ ps, p.length ≤ B) → (TL.joinL S ps).length ≤ ps.length * (B + S.length)
  | [], _ => Nat.zero_le _
  | [p], h => by
    have := h p List.mem_cons_self
    show p.length ≤ 1 * (B + S.length)
    omega
  | p :: q :: r, h => by
    have h1 := h p List.mem_cons_self
    have h2 := joinL_len S B (q :: r) fun z hz => h z (List.mem_cons_of_mem _ hz)
    show (p ++ (S ++ TL.joinL S (q :: r))).length ≤ _
    rw [List.length_append, List.length_append, List.length_cons, Nat.succ_mul]
    omega
theorem joinL_mem (S : List Nat) {c : Nat} : ∀ ps : List (List Nat), c ∈ TL.joinL S ps → c ∈ S ∨ ∃ p ∈ ps, c ∈ p
  | [], h => by cases h
  | [p], h => .inr ⟨p, List.mem_cons_self, h⟩
  | p :: q :: r, h => by
    have h' : c ∈ p ++ (S ++ TL.joinL S (q :: r)) := h
    rcases List.mem_append.mp h' with h | h
    · exact .inr ⟨p, List.mem_cons_self, h⟩
    · rcases List.mem_append.mp h with h | h
      · exact .inl h
      · rcases joinL_mem S (q :: r) h with h | ⟨z, hz, h⟩
        · exact .inl h
        · exact .inr ⟨z, List.mem_cons_of_mem _ hz, h⟩
theorem tl_joinT (y : Str) (ps : List Str) : TL.tl (Txt.join y ps) = TL.joinL (TL.tl y) (ps.map TL.tl) := by rw [TL.join_eq, TL.tl_join]
theorem join_len (y : Str) (B : Nat) (ps : List Str) (h : ∀ p ∈ ps, p.length ≤ B) : (Txt.join y ps).length ≤ ps.length * (B + y.length) := by
  rw [TL.len_tl, tl_joinT, TL.len_tl y]
  have := joinL_len (TL.tl y) B (ps.map TL.tl) fun p hp => by
    obtain ⟨z, hz, rfl⟩ := List.mem_map.mp hp
    rw [← TL.len_tl]; exact h z hz
  rw [List.length_map] at this
  exact this
theorem join_mem (y : Str) {c : Nat} (ps : List Str) (h : c ∈ TL.tl (Txt.join y ps)) : c ∈ TL.tl y ∨ ∃ p ∈ ps, c ∈ TL.tl p := by
  rw [tl_joinT] at h
  rcases joinL_mem _ _ h with h | ⟨p, hp, h⟩
  · exact .inl h
  · obtain ⟨z, hz, rfl⟩ := List.mem_map.mp hp
    exact .inr ⟨z, hz, h⟩
theorem tl_none : TL.tl ("none" : Str) = [110, 111, 110, 101] := by decide +kernel
theorem tl_dash : TL.tl ("-" : Str) = [45] := by decide +kernel
theorem tl_sp : TL.tl (" " : Str) = [32] := by decide +kernel
theorem tl_cm : TL.tl (", " : Str) = [44, 32] := by decide +kernel
theorem tl_bar : TL.tl (" | " : Str) = [32, 124, 32] := by decide +kernel
theorem len_sp : (" " : Str).length = 1 := by decide +kernel
theorem len_cm : (", " : Str).length = 2 := by decide +kernel
theorem len_bar : (" | " : Str).length = 3 := by decide +kernel
/-- the signs of a weight -/
theorem wS_mem {x : Wt} {c : Nat} (h : c ∈ TL.tl (wS x)) : c = 45 ∨ (48 ≤ c ∧ c ≤ 57) ∨ (101 ≤ c ∧ c ≤ 111) := by
  cases x with
  | none =>
    rw [show TL.tl (wS none) = _ from tl_none] at h
    simp at h
    omega
  | some x =>
    rw [show TL.tl (wS (some x)) = _ from tl_int x] at h
    unfold intL at h
    split at h
    · rcases List.mem_cons.mp h with h | h
      · exact .inl h
      · exact .inr (.inl (TL.numL_digits _ _ h))
    · exact .inr (.inl (TL.numL_digits _ _ h))
theorem wS_len {x : Wt} (h : WOk x) : (wS x).length ≤ 31 := by
  cases x with
  | none => rw [TL.len_tl, show TL.tl (wS none) = _ from tl_none]; decide
  | some x => exact (int_read (h x rfl)).2
theorem line_mem {r : List Wt} {c : Nat} (h : c ∈ TL.tl (lineS r)) : c = 32 ∨ c = 45 ∨ (48 ≤ c ∧ c ≤ 57) ∨ (101 ≤ c ∧ c ≤ 111) := by
  unfold lineS at h
  split at h
  · rw [tl_dash] at h
    exact .inr (.inl (List.mem_singleton.mp h))
  · rcases join_mem _ _ h with h | ⟨p, hp, h⟩
    · rw [tl_sp] at h
      exact .inl (List.mem_singleton.mp h)
    · obtain ⟨x, _, rfl⟩ := List.mem_map.mp hp
      exact .inr (wS_mem h)
theorem line_len {r : List Wt} (h : ∀ x ∈ r, WOk x) (hl : r.length ≤ 20) : (lineS r).length ≤ 640 := by
  unfold lineS
  split
  · rw [TL.len_tl, tl_dash]; decide
  · have := join_len " " 31 (r.map wS) fun p hp => by
      obtain ⟨x, hx, rfl⟩ := List.mem_map.mp hp
      exact wS_len (h x hx)
    rw [List.length_map, len_sp] at this
    omega
theorem tab_mem {t : List (List Wt)} {c : Nat} (h : c ∈ TL.tl (tabS t)) : c = 44 ∨ c = 32 ∨ c = 45 ∨ (48 ≤ c ∧ c ≤ 57) ∨ (101 ≤ c ∧ c ≤ 111) := by
  unfold tabS at h
  split at h
  · rw [tl_dash] at h
    exact .inr (.inr (.inl (List.mem_singleton.mp h)))
  · rcases join_mem _ _ h with h | ⟨p, hp, h⟩
    · rw [tl_cm] at h
      simp at h
      omega
    · obtain ⟨x, _, rfl⟩ := List.mem_map.mp hp
      exact .inr (line_mem h)
theorem tab_len {t : List (List Wt)} {n : Nat} (h : ∀ r ∈ t, r.length ≤ 20 ∧ ∀ x ∈ r, WOk x) (hl : t.length ≤ 20) : (tabS t).length ≤ 12840 := by
  unfold tabS
  split
  · rw [TL.len_tl, tl_dash]; decide
  · have := join_len ", " 640 (t.map lineS) fun p hp => by
      obtain ⟨x, hx, rfl⟩ := List.mem_map.mp hp
      exact line_len (h x hx).2 (h x hx).1
    rw [List.length_map, len_cm] at this
    omega
theorem line_split {r : List Wt} (h : r ≠ []) : Txt.split (lineS r) " " = r.map wS := by
  unfold lineS
  rw [if_neg h]
  refine TL.split_join (s := 32) (S := []) tl_sp (by decide +kernel) (fun e => h (List.map_eq_nil_iff.mp e)) fun p hp hm => ?_
  obtain ⟨x, _, rfl⟩ := List.mem_map.mp hp
  have := wS_mem hm
  omega
theorem tab_split {t : List (List Wt)} (h : t ≠ []) : Txt.split (tabS t) ", " = t.map lineS := by
  unfold tabS
  rw [if_neg h]
  refine TL.split_join (s := 44) (S := [32]) tl_cm (by decide +kernel) (fun e => h (List.map_eq_nil_iff.mp e)) fun p hp hm => ?_
  obtain ⟨x, _, rfl⟩ := List.mem_map.mp hp
  have := line_mem hm
  omega
/-- the separator " | ": the bar is in no part -/
theorem bar_pre {p q : List Nat} (h : 124 ∉ p) (hq : q = [] ∨ ∃ r, q = [32, 124, 32] ++ r) : ∀ i, i < p.length → TL.pre [32, 124, 32] ((p ++ q).drop i) = false := by
  intro i hi
  cases e : TL.pre [32, 124, 32] ((p ++ q).drop i) with
  | false => rfl
  | true =>
    exfalso
    have e1 : ((p ++ q).drop i).take 3 = [32, 124, 32] := eq_of_beq e
    have e2 : (p ++ q)[i + 1]? = some 124 := by
      have := congrArg (fun z => z[1]?) e1
      simp only [List.getElem?_take, List.getElem?_drop] at this
      simpa using this
    rcases Nat.lt_or_ge (i + 1) p.length with h2 | h2
    · rw [List.getElem?_append_left h2] at e2
      exact h (List.mem_of_getElem? e2)
    · rw [List.getElem?_append_right h2, show i + 1 - p.length = 0 by omega] at e2
      rcases hq with rfl | ⟨r, rfl⟩
      · cases e2
      · cases e2
theorem bar_split : ∀ {ps : List (List Nat)}, ps ≠ [] → (∀ p ∈ ps, 124 ∉ p) → TL.spl [32, 124, 32] 0 [] (TL.joinL [32, 124, 32] ps) = ps
  | [], h, _ => absurd rfl h
  | [p], _, hp => by
    show TL.spl [32, 124, 32] 0 [] p = [p]
    rw [TL.spl_last (fun i hi => by
      have := bar_pre (q := []) (hp p List.mem_cons_self) (.inl rfl) i hi
      rw [List.append_nil] at this
      exact this), List.nil_append]
  | p :: q :: r, _, hp => by
    show TL.spl [32, 124, 32] 0 [] (p ++ ([32, 124, 32] ++ TL.joinL [32, 124, 32] (q :: r))) = p :: q :: r
    rw [TL.spl_part (by simp) (bar_pre (hp p List.mem_cons_self) (.inr ⟨_, rfl⟩)), List.nil_append, bar_split (by simp) fun z hz => hp z (List.mem_cons_of_mem _ hz)]
theorem bars_split {ps : List Str} (hne : ps ≠ []) (hp : ∀ p ∈ ps, 124 ∉ TL.tl p) : Txt.split (Txt.join " | " ps) " | " = ps := by
  refine TL.map_tl_inj ?_
  rw [TL.split_spl _ (" | " : Str) (by rw [tl_bar]; simp) (TL.kind_ok (by decide +kernel)), tl_joinT, tl_bar]
  refine bar_split (fun e => hne (List.map_eq_nil_iff.mp e)) fun p h => ?_
  obtain ⟨z, hz, rfl⟩ := List.mem_map.mp h
  exact hp z hz
theorem line_dash {r : List Wt} : lineS r = ("-" : Str) ↔ r = [] := by
  constructor
  · intro e
    refine Classical.byContradiction fun h => ?_
    have h2 := line_split h
    rw [e] at h2
    have h3 : Txt.split ("-" : Str) " " = [("-" : Str)] := by
      have := TL.split_join (y := " ") (s := 32) (S := []) (parts := [("-" : Str)]) tl_sp (by decide +kernel) (by simp) fun p hp hm => by
        rw [List.mem_singleton.mp hp, tl_dash] at hm
        simp at hm
      rw [TL.join_eq] at this
      exact this
    rw [h3] at h2
    obtain ⟨x, hx, e2⟩ := List.mem_map.mp (show ("-" : Str) ∈ r.map wS by rw [← h2]; exact List.mem_cons_self)
    have e3 := congrArg TL.tl e2
    rw [tl_dash] at e3
    cases x with
    | none => rw [show TL.tl (wS none) = _ from tl_none] at e3; cases e3
    | some x =>
      rw [show TL.tl (wS (some x)) = _ from tl_int x] at e3
      unfold intL at e3
      split at e3
      · injection e3 with _ e4
        exact TL.numL_ne _ e4
      · have := TL.numL_digits x.natAbs 45 (by rw [e3]; exact List.mem_cons_self)
        omega
  · intro h
    unfold lineS
    rw [if_pos h]
/-! ### the walks -/
theorem r_strs {H : Hp} {Q : VK} {ys : List Str} (k : GivesL H (ys.map fun z => D.a (.str z)) Q) : rNewStrs ys H Q := fun p hp => k p _ (Same.upd' hp) hp ⟨_, upd_same, by
  have e : (ys.map fun z => D.a (V.str z)) = (ys.map V.str).map D.a := by rw [List.map_map] <;> rfl
  rw [e]
  exact Reps.atoms.mpr rfl⟩
def spReadLine (K : PySem.W.Frag) : Sp := fun vs H Q _ => ∃ k r, vs = [k, .str (lineS r), .int ((r.length : Nat) : Int)] ∧ CostsAt K H k ∧ (∀ x ∈ r, WOk x) ∧ r.length ≤ 20 ∧ Gives H (dRow r) Q
def spReadTable (K : PySem.W.Frag) : Sp := fun vs H Q _ => ∃ k t, vs = [k, .str (tabS t), .int ((t.length : Nat) : Int)] ∧ CostsAt K H k ∧ (∀ r ∈ t, r.length = t.length ∧ ∀ x ∈ r, WOk x) ∧ t.length ≤ 20 ∧ Gives H (dTab t) Q
section
variable {P : Program} {w : World} {K : PySem.W.Frag} {mg : Str → Option Value} {base : Heap}
abbrev s_read_line : Stmt := top 105
theorem sc_read_line : FnScope ["kind", "text", "many", "texts", "one"] ["kind", "text", "many"] (defScope s_read_line) := ⟨rfl, rfl, rfl, by decide +kernel, rfl, by decide +kernel, by decide +kernel⟩
theorem ok_read_line (T : Txt w K mg) : Cal P w K mg base CX0 3 "read_line" (spReadLine K) := by
  refine cal_ok T.d_read_line (fun _ _ _ _ _ _ us hl => match us, hl with | [_, _, _], _ => rfl) sc_read_line (fun vs H Q E h => ?_) (fun cdv A outer s f H vs Q E hr h => ?_)
  · obtain ⟨_, _, rfl, _⟩ := h; rfl
  · obtain ⟨kd, r, rfl, hk, hw, hl, k⟩ := h
    refine ⟨_, PSs.nox (pss_cons (ps_if (pt_cmpR op_eq (pv 2) pe_int (nomark _)) (pss_cons (ps_if (pt_cmpR op_ne (pv 1) pe_str (nomark _)) (pss_one ps_never) pss_nil)
      (pss_one (ps_ret (pe_tupQ pa_nil)))) pss_nil)
      (pss_cons (ps_set (i := 3) sc_read_line.nd rfl (Or.inl rfl) (pe_split (pv 1) pe_str))
      (pss_cons (ps_if (pt_cmpR op_ne (pe_callB (call_lenQ K) (by rfl) T.f_len PySem.boot_len (pa_cons (pv 3) pa_nil)) (pv 2) (nomark _)) (pss_one ps_never) pss_nil)
      (pss_one (ps_ret (pe_callTy (call_tupQ K) (by rfl) T.f_tuple (by decide +kernel) (pa_cons (pe_lc (own := [("one", 4)]) rfl sc_read_line.nd (pi_list (pv 3)) (blkOk_by (own := [("one", 4)]) (N := ["kind", "text", "many", "texts", "one"]) (sc := defScope s_read_line) (by decide +kernel)) (fun _ _ _ _ _ => (pg_name (i := 4) sc_read_line.nd rfl (Or.inl rfl))) (fun _ _ _ _ _ => pts_nil) (fun _ _ _ _ _ => (pe_mc (ok_Costs_read T) hr (by decide) (pv 0) (pa_cons (pv 4) pa_nil)))) pa_nil))))))), ?_⟩
    refine ⟨_, rfl, rfl, _, rfl, ?_⟩
    refine ite2 (fun h => ?_) (fun h => ?_)
    · have h0 : r = [] := by
        have h1 := of_decide_eq_true h
        injection h1 with h2
        exact List.length_eq_zero_iff.mp (by omega)
      subst h0
      refine ⟨_, rfl, rfl, _, rfl, ?_⟩
      rw [decide_eq_true (show V.str (lineS []) = V.str "-" from rfl)]
      refine iteF ?_
      exact r_tup (ds := []) Reps.nil (small (by simp)) fun v H1 s1 h1 => k v H1 s1 h1
    · have hne : r ≠ [] := fun e => h (decide_eq_true (by rw [e]; rfl))
      have hll := line_len hw hl
      refine ⟨_, rfl, ⟨_, rfl⟩, _, _, rfl, rfl, by decide +kernel, small (by omega), ?_⟩
      rw [line_split hne]
      refine r_strs fun p H1 s1 hp hlp => ?_
      refine ⟨_, rfl, r_lenL hlp ⟨_, rfl, rfl, _, rfl, ?_⟩⟩
      rw [List.length_map, List.length_map]
      rw [decide_eq_true rfl]
      refine iteF ?_
      obtain ⟨pv, hpv, rpv⟩ := hlp
      have hpl : pv.length = r.length := by rw [rpv.len, List.length_map, List.length_map]
      refine ⟨_, rfl, p, rfl, ⟨_, SqL.of hpv⟩, fun Dd hD => ?_⟩
      refine lc_gen (H0 := H1) (walk_list (xs := pv)) hD (small (by omega)) (fun H2 s2 => SqL.of (s2 _ _ hpv)) same_YAt (fun i => (r[i]?).map dW) ?_ ?_
      · rintro i z H2 H3 hi s3 ⟨rfl, hz⟩ s2 Kf Kt hf ht
        obtain ⟨d, hd, rd⟩ := rpv.getV hz
        rw [List.getElem?_map, List.getElem?_map, Option.map_eq_some_iff] at hd
        obtain ⟨z1, hz1, rfl⟩ := hd
        obtain ⟨x, hx, rfl⟩ := Option.map_eq_some_iff.mp hz1
        cases rd
        obtain ⟨ka, kdx, rfl, hka⟩ := id hk
        exact ⟨rfl, _, rfl, ka, kdx, _, rfl, (s1.trans s3) _ _ hka, rfl, _, rfl, _, x, rfl, hw x (List.mem_of_getElem? hx), ht (dW x) (by rw [hx] <;> rfl) _ _ (Same.refl _) rfl⟩
      · intro Hf sf hlst
        refine r_tupL hlst fun v H' s' rr => k v H' (s1.trans (sf.trans s')) ?_
        rw [hpl, fm_map] at rr
        exact rr
abbrev s_read_table : Stmt := top 106
theorem sc_read_table : FnScope ["kind", "text", "many", "lines", "line"] ["kind", "text", "many"] (defScope s_read_table) := ⟨rfl, rfl, rfl, by decide +kernel, rfl, by decide +kernel, by decide +kernel⟩
theorem ok_read_table (T : Txt w K mg) : Cal P w K mg base CX0 4 "read_table" (spReadTable K) := by
  refine cal_ok T.d_read_table (fun _ _ _ _ _ _ us hl => match us, hl with | [_, _, _], _ => rfl) sc_read_table (fun vs H Q E h => ?_) (fun cdv A outer s f H vs Q E hr h => ?_)
  · obtain ⟨_, _, rfl, _⟩ := h; rfl
  · obtain ⟨kd, t, rfl, hk, hw, hl, k⟩ := h
    refine ⟨_, PSs.nox (pss_cons (ps_if (pt_cmpR op_eq (pv 2) pe_int (nomark _)) (pss_one (ps_ret (pe_c0 (ok_read_line T) hr (by decide) rfl (pa_cons (pv 0) (pa_cons (pv 1) (pa_cons pe_int pa_nil)))))) pss_nil)
      (pss_cons (ps_set (i := 3) sc_read_table.nd rfl (Or.inl rfl) (pe_split (pv 1) pe_str))
      (pss_cons (ps_if (pt_cmpR op_ne (pe_callB (call_lenQ K) (by rfl) T.f_len PySem.boot_len (pa_cons (pv 3) pa_nil)) (pv 2) (nomark _)) (pss_one ps_never) pss_nil)
      (pss_one (ps_ret (pe_callTy (call_tupQ K) (by rfl) T.f_tuple (by decide +kernel) (pa_cons (pe_lc (own := [("line", 4)]) rfl sc_read_table.nd (pi_list (pv 3)) (blkOk_by (own := [("line", 4)]) (N := ["kind", "text", "many", "lines", "line"]) (sc := defScope s_read_table) (by decide +kernel)) (fun _ _ _ _ _ => (pg_name (i := 4) sc_read_table.nd rfl (Or.inl rfl))) (fun _ _ _ _ _ => pts_nil) (fun _ _ _ _ _ => (pe_c0 (ok_read_line T) hr (by decide) rfl (pa_cons (pv 0) (pa_cons (pv 4) (pa_cons (pv 2) pa_nil)))))) pa_nil))))))), ?_⟩
    refine ⟨_, rfl, rfl, _, rfl, ?_⟩
    refine ite2 (fun h => ?_) (fun h => ?_)
    · have h0 : t = [] := by
        have h1 := of_decide_eq_true h
        injection h1 with h2
        exact List.length_eq_zero_iff.mp (by omega)
      subst h0
      exact ⟨_, rfl, _, rfl, kd, [], rfl, hk, fun x hx => (nomatch hx), Nat.zero_le _, fun v H1 s1 h1 => k v H1 s1 h1⟩
    · have hne : t ≠ [] := fun e => h (decide_eq_true (by rw [e]; rfl))
      have hll := tab_len (n := 0) (t := t) (fun r hr => ⟨by rw [(hw r hr).1]; exact hl, (hw r hr).2⟩) hl
      refine ⟨_, rfl, ⟨_, rfl⟩, _, _, rfl, rfl, by decide +kernel, Nat.le_of_lt (Nat.lt_of_le_of_lt (show _ ≤ 12842 by omega) (by decide)), ?_⟩
      rw [tab_split hne]
      refine r_strs fun p H1 s1 hp hlp => ?_
      refine ⟨_, rfl, r_lenL hlp ⟨_, rfl, rfl, _, rfl, ?_⟩⟩
      rw [List.length_map, List.length_map]
      rw [decide_eq_true rfl]
      refine iteF ?_
      obtain ⟨pv, hpv, rpv⟩ := hlp
      have hpl : pv.length = t.length := by rw [rpv.len, List.length_map, List.length_map]
      refine ⟨_, rfl, p, rfl, ⟨_, SqL.of hpv⟩, fun Dd hD => ?_⟩
      refine lc_gen (H0 := H1) (walk_list (xs := pv)) hD (small (by omega)) (fun H2 s2 => SqL.of (s2 _ _ hpv)) same_YAt (fun i => (t[i]?).map dRow) ?_ ?_
      · rintro i z H2 H3 hi s3 ⟨rfl, hz⟩ s2 Kf Kt hf ht
        obtain ⟨d, hd, rd⟩ := rpv.getV hz
        rw [List.getElem?_map, List.getElem?_map, Option.map_eq_some_iff] at hd
        obtain ⟨z1, hz1, rfl⟩ := hd
        obtain ⟨x, hx, rfl⟩ := Option.map_eq_some_iff.mp hz1
        cases rd
        have hxr := hw x (List.mem_of_getElem? hx)
        refine ⟨rfl, _, rfl, _, rfl, _, rfl, kd, x, by rw [hxr.1], hk.same (s1.trans s3), hxr.2, by rw [hxr.1]; exact hl, fun v H4 s4 h4 => ht (dRow x) (by rw [hx] <;> rfl) _ _ s4 h4⟩
      · intro Hf sf hlst
        refine r_tupL hlst fun v H' s' rr => k v H' (s1.trans (sf.trans s')) ?_
        rw [hpl, fm_map] at rr
        exact rr
end
end L2.Ww
set_option Elab.async false
set_option linter.all false
set_option maxRecDepth 100000
set_option maxHeartbeats 4000000
/-! len(set(text)) of a text of unlike signs. -/
namespace L2.Ww
open PySem PySem.Spec PyProof.Rows
def sg (c : Nat) : Str := ⟨#[c]⟩
theorem sg_inj {c d : Nat} (h : sg c = sg d) : c = d := by
  have h2 := congrArg (fun y : Str => y.cps.toList) h
  have h3 : [c] = [d] := h2
  injection h3
section
variable {prog : Program} {w : World} {A : Around} {R : Result → Shared → Prop} {I : Addr} {fp wr : List Addr} {G : Array GenState → Array GenState → Prop} {n : Nat} {P : Nat → Value → Prop} {St : Nat → Shared → Prop}
theorem loop_signs (W : WalksS prog w A.in1 I fp wr G n P St) (S : Addr) (hSf : S ∉ fp) (cs : List Nat) (hsz : cs.length = n) (nd : cs.Nodup) (hb : n + 1 < scanBound)
    (hval : ∀ i v, P i v → ∃ c t, cs[i]? = some c ∧ v = .str (sg c) t) :
    ∀ (k i : Nat) (s : Shared), n - i = k → i ≤ n → St i s →
      s.heap.SetOf (PySem.strKind prog w) S (fun k' => (cs.take i).any fun c => sg c == k') i →
      (∀ s', Moved (S :: wr) G s s' → s'.heap.SetOf (PySem.strKind prog w) S (fun k' => (cs.take n).any fun c => sg c == k') n → R (.ok (.ret .none)) s') →
      codeAny (model prog w) A (.builtin "set.update.loop" ⟨[.ref S, .ref I], []⟩) R s := by
  have hSw : S ∉ wr := fun h => hSf (W.sub _ h)
  have hsub : ∀ b ∈ wr, b ∈ S :: wr := fun b hb => List.mem_cons_of_mem _ hb
  intro k
  induction k with
  | zero =>
    intro i s hk hi hst hS hR
    have hin : i = n := by omega
    subst hin
    refine codeAny_builtin PyProof.Rows.F.entry_set_update_loop ?_
    rw [Around.under_plainId PyProof.Rows.F.plain_set_update_loop _]
    show wpAny _ A.in1 (pyNext (.ref I) >>= _) _ _ s
    refine wpAny_bind (W.done s _ _ hst fun s' hm => ?_)
    show wpAny _ A.in1 (ret Value.none) _ _ s'
    exact wpAny_pure (hR s' (hm.mono hsub) (by
      obtain ⟨o, es, ep, t, ho, rest⟩ := hS
      exact ⟨o, es, ep, t, hm.heap S _ hSw ho, rest⟩))
  | succ k ih =>
    intro i s hk hi hst hS hR
    have hlt : i < n := by omega
    refine codeAny_builtin PyProof.Rows.F.entry_set_update_loop ?_
    rw [Around.under_plainId PyProof.Rows.F.plain_set_update_loop _]
    show wpAny _ A.in1 (pyNext (.ref I) >>= _) _ _ s
    refine wpAny_bind (W.item i s _ _ hlt hst fun v s' hP hst' hm => ?_)
    obtain ⟨c, t, hc, rfl⟩ := hval i v hP
    have hS' : s'.heap.SetOf (PySem.strKind prog w) S (fun k' => (cs.take i).any fun c => sg c == k') i := by
      obtain ⟨o, es, ep, tb, ho, rest⟩ := hS
      exact ⟨o, es, ep, tb, hm.heap S _ hSw ho, rest⟩
    show wpAny _ A.in1 (holding [Value.str (sg c) t] (setAdd S (.str (sg c) t)) >>= _) _ _ s'
    refine wpAny_bind (wpAny_holding ?_)
    unfold setAdd
    refine wpAny_holding ?_
    refine wpAny_bind ((PySem.strKind prog w).pyHash (k := sg c) (strKind_is _ _ _ _) ?_)
    refine wpAny_setAddHashed_of (knd := PySem.strKind prog w) (s := { s' with toks := s'.toks + 1 }) (strKind_is _ _ _ _) rfl hS' (by omega) fun h' hsb hS2 => ?_
    have hnew : ((cs.take i).any fun d => sg d == sg c) = false := by
      cases e : (cs.take i).any fun d => sg d == sg c with
      | false => rfl
      | true =>
        exfalso
        obtain ⟨d, hd, e2⟩ := List.any_eq_true.mp e
        have e3 : d = c := sg_inj (eq_of_beq e2)
        subst e3
        obtain ⟨j, hj, hj2⟩ := List.mem_iff_getElem.mp hd
        rw [List.length_take] at hj
        rw [List.getElem_take] at hj2
        have h1 : cs[j]? = some d := by rw [List.getElem?_eq_getElem (by omega), hj2]
        obtain ⟨h2, e2⟩ := List.getElem?_eq_some_iff.mp hc
        obtain ⟨h3, e3⟩ := List.getElem?_eq_some_iff.mp h1
        have := (List.getElem_inj nd).mp (e3.trans e2.symm)
        omega
    have hSi : h'.SetOf (PySem.strKind prog w) S (fun k' => (cs.take (i + 1)).any fun c => sg c == k') (i + 1) := by
      refine SetOf_congr hS2 (fun k' => ?_) (by rw [hnew] <;> rfl)
      rw [List.take_add_one, hc, List.any_append]
      congr 1
      show decide (k' = sg c) = ((sg c == k') || false)
      rw [Bool.or_false]
      by_cases e : k' = sg c
      · rw [e, decide_eq_true rfl]; exact (beq_self_eq_true (sg c)).symm
      · rw [decide_eq_false e]
        exact (beq_eq_false_iff_ne.mpr fun z => e z.symm).symm
    refine wpAny_pure ⟨plainId_quiet PyProof.Rows.F.plain_set_update_loop _, ih (i + 1) _ (by omega) hlt (W.frame _ s' _ _ hst' (Nat.le_succ _) fun b hb o e => ?_) hSi fun s'' hm'' hS'' => ?_⟩
    · rw [hsb.2 b (fun h : b = S => hSf (by rw [← h]; exact hb))]; exact e
    · refine hR s'' (Moved.trans W.gtrans ((hm.mono hsub).then_heap (Nat.le_succ _) fun b o hb e => ?_) hm'') hS''
      rw [hsb.2 b (fun h : b = S => hb (by rw [h]; exact List.mem_cons_self))]; exact e
end
section
variable {prog : Program} {w : World} {A : Around} {E : Value → Shared → Prop} {s : Shared}
theorem call_set_text {x : Str} {t : Tok} {Q : Value → Shared → Prop} (hh : A.handled = none) (nd : x.cps.toList.Nodup) (hb : x.cps.size + 1 < scanBound)
    (h : ∀ (h' : Heap) (tk : Nat), h'.SetOf (PySem.strKind prog w) s.heap.objs.size (fun k' => (x.cps.toList.take x.cps.size).any fun c => sg c == k') x.cps.size →
      (∀ b o, b < s.heap.objs.size → s.heap.get? b = some o → h'.get? b = some o) → Q (.ref s.heap.objs.size) { s with heap := h', toks := tk }) :
    wpAny (model prog w) A (call (.type "set") [.str x t]) Q E s := by
  obtain ⟨c, tl, hmro⟩ := PySem.F.called_set.mro
  have hmade := PySem.F.called_set.made
  have hsub := PySem.F.called_set.sub
  refine wpAny_call (codeAny_of_tree ?_)
  show wpAny _ _ (callAny (.type "set") _) _ _ _
  refine wpAny_pure ⟨Code.quiet_builtin _ (by decide +kernel), codeAny_builtin PySem.F.entry_type_call ?_⟩
  rw [Around.under_plain (weight_type_call_type "set" [.str x t] []) rfl]
  have h1 := PySem.F.called_set.notType
  have h2 := PySem.F.called_set.canCreate
  have hct := PySem.F.typeCall_set_1 (.str x t)
  repeat (any_goals (first | assumption | wp_step))
  refine codeAny_mono (code_set_new_1 (.str x t) (E := E) (Q₁ := fun obj s₁ => ∃ led : Bool, obj = .ref s.heap.objs.size ∧ s₁ = { s with heap := s.heap.push { cls := .type "set", dict := none, data := .set #[] 0 (.fresh 0 0 led) } }) fun led => ⟨led, rfl, rfl⟩) fun r s₁ hr => ?_
  cases r with
  | error e => exact hr
  | ok fl =>
    cases fl with
    | ret obj =>
      obtain ⟨led, rfl, rfl⟩ := hr
      have hS : (s.heap.push { cls := .type "set", dict := none, data := .set #[] 0 (.fresh 0 0 led) }).get? s.heap.objs.size = some { cls := .type "set", dict := none, data := .set #[] 0 (.fresh 0 0 led) } := Heap.get?_push_size _ rfl
      have hT : Shared.TypeIs { s with heap := s.heap.push { cls := .type "set", dict := none, data := .set #[] 0 (.fresh 0 0 led) } } (.ref s.heap.objs.size) "set" := ⟨_, hS, rfl⟩
      have hli := PySem.F.called_set.init.lookup
      have hbi := PySem.F.called_set.init.bind (.ref s.heap.objs.size)
      repeat (any_goals (first | assumption | wp_step))
      refine codeAny_mono (codeAny_call_builtin (R := wants (fun r s₂ => r = .none ∧ ∃ h' tk, s₂ = { s with heap := h', toks := tk } ∧
          h'.SetOf (PySem.strKind prog w) s.heap.objs.size (fun k' => (x.cps.toList.take x.cps.size).any fun c => sg c == k') x.cps.size ∧
          (∀ b o, b < s.heap.objs.size → s.heap.get? b = some o → h'.get? b = some o)) E) PySem.F.called_set.init.plain PySem.F.entry_set_init (check_set_init_1 hT ?_)) fun r₂ s₂ hr₂ => ?_
      · have hsls := PySem.F.sub_str_set
        have hslf := PySem.F.sub_str_frozenset
        have hne : (Value.type "str" == Value.type "dict") = false := by decide
        unfold Builtin.«set.__init__» noKeywords Builtin.Frozenset.updateFrom
        generalize hPI : pyIter = PI
        wp_walk
        subst hPI
        refine wpAny_pyIter_str fun o St Wk hSt => ?_
        refine wpAny_bind (wpAny_runValue ?_)
        have hh3 : A.in1.in1.in1.handled = none := by simp [hh]
        have hSf : s.heap.objs.size ∉ [(s.heap.push { cls := .type "set", dict := none, data := .set #[] 0 (.fresh 0 0 led) }).objs.size] := by
          rw [Heap.size_push]; simp only [List.mem_cons, List.not_mem_nil, or_false]
          exact Nat.ne_of_lt (Nat.lt_succ_self _)
        refine loop_signs (Walks.toS (Wk _ hh3)) s.heap.objs.size hSf x.cps.toList (by simp) nd hb (fun i v hP => ?_) (x.cps.size - 0) 0 _ (by omega) (Nat.zero_le _) hSt ?hS0 ?hR
        · obtain ⟨c, u, hc, e⟩ := hP
          exact ⟨c, u, by rw [Array.getElem?_toList]; exact hc, e⟩
        case hS0 =>
          have hget : ((s.heap.push { cls := .type "set", dict := none, data := .set #[] 0 (.fresh 0 0 led) }).push o).get? s.heap.objs.size
              = some { cls := .type "set", dict := none, data := .set #[] 0 (.fresh 0 0 led) } := Heap.get?_push_of_some _ hS
          exact PyProof.Rows.SetOf_congr ((PyProof.Rows.setObjOf_fresh (knd := PySem.strKind prog w) led).setOf hget (by unfold scanBound; omega)) (fun _ => rfl) rfl
        case hR =>
          intro s' hm hS'
          obtain ⟨h', g', d', tk', os'⟩ := s'
          have eg : g' = s.gens := hm.gens
          have ed : d' = s.drawn := hm.drawn
          have eo : os' = s.os := hm.os
          subst eg; subst ed; subst eo
          show wpAny _ _ _ _ _ _
          refine wpAny_pure ?_
          show wpAny _ _ (ret Value.none) _ _ _
          refine wpAny_pure ⟨rfl, h', tk', rfl, hS', fun b o hb e => ?_⟩
          have hb1 : b ≠ s.heap.objs.size := Nat.ne_of_lt hb
          have hb2 : b ≠ (s.heap.push { cls := .type "set", dict := none, data := .set #[] 0 (.fresh 0 0 led) }).objs.size := by
            rw [Heap.size_push]; exact Nat.ne_of_lt (Nat.lt_succ_of_lt hb)
          exact hm.heap b o (by simp only [List.mem_cons, List.not_mem_nil, or_false, not_or]; exact ⟨hb1, hb2⟩) (Heap.get?_push_of_some _ (Heap.get?_push_of_some _ e))
      · cases r₂ with
        | error e => exact hr₂
        | ok fl₂ =>
          cases fl₂ with
          | ret r =>
            obtain ⟨rfl, h', tk, rfl, hS', hk'⟩ := hr₂
            repeat (any_goals (first | assumption | wp_step))
            exact h _ _ hS' hk'
          | _ => exact hr₂.elim
    | _ => exact hr.elim
end
/-- len(set(x)), x a text of unlike signs -/
def tLenSetS (ta : TE) : TE := fun σ H Q => ta σ H fun v H1 => ∃ x : Str, v = .str x ∧ x.cps.toList.Nodup ∧ x.length ≤ 4000 ∧ Q (.int (x.length : Nat)) H1
theorem pe_lenSetS {X : Cx} {a : Expr} {ta : TE} {p p2 q pos : Pos} (hc : X.calm = true) (hg : Gl X "len") (hm : X.mg "len" = none) (hg2 : Gl X "set") (hm2 : X.mg "set" = none) (ha : PE X a ta)
    (na : starEach [a] X.env = (false, eval a X.env) :: starEach [] X.env := by rfl) : PE X (.Call (.Name "len" p) [.Call (.Name "set" p2) [a] [] q] [] pos) (tLenSetS ta) := by
  refine ⟨fun pins s σ H Q I h => ?_⟩
  refine Call_ (ld_blt I hg hm boot_len ?_)
  refine PyProof.Rows.callWith_builtin1 (PyProof.Rows.args_cons ?_ rfl) rfl rfl
  refine Call_ (ld_blt I hg2 hm2 boot_set ?_)
  refine PyProof.Rows.callWith_type1 (PyProof.Rows.args_cons (thn (ha.run pins s σ H _ I h) fun v s1 ⟨y, H1, I1, r1, q1⟩ => PyProof.Rows.args_nil ?_) na) na rfl
  obtain ⟨x, rfl, nd, hl, q1⟩ := q1
  obtain ⟨t, rfl⟩ := r1
  have hl2 : x.cps.size ≤ 4000 := hl
  refine call_set_text (I1.ok.hd hc) nd (by unfold scanBound; omega) fun h' tk hS hk => ?_
  refine PyProof.Rows.args_nil ?_
  obtain ⟨o, es, ep, tb, ho, hex, hd, _, _, _, hf, hn⟩ := hS
  have I2 : Inv X pins σ H1 { s1 with heap := h', toks := tk } := I1.kept fun b o e => hk b o (Heap.lt_size e) e
  exact call_len_set ho hex hd hf (by rw [hn]; omega) ⟨.int (x.length : Nat), H1, I2.tok _, ⟨_, by rw [hn]; rfl⟩, q1⟩
end L2.Ww
set_option Elab.async false
set_option linter.all false
set_option maxRecDepth 100000
set_option maxHeartbeats 4000000
/-! is_letters, read_machine -/
namespace L2.Ww
open PySem PySem.Spec PyProof.Rows
structure LetOk (z : Str) : Prop where
  pos : 0 < z.length
  le3 : z.length ≤ 3
  nd : z.cps.toList.Nodup
  small : ∀ c ∈ z.cps.toList, 97 ≤ c ∧ c ≤ 122
theorem small_mem {c : Nat} (h1 : 97 ≤ c) (h2 : c ≤ 122) : c ∈ ("abcdefghijklmnopqrstuvwxyz" : Str).cps.toList := by
  have e : ("abcdefghijklmnopqrstuvwxyz" : Str).cps.toList = (List.range 26).map (· + 97) := by decide +kernel
  rw [e]
  exact List.mem_map.mpr ⟨c - 97, List.mem_range.mpr (by omega), by omega⟩
def spIsLetters : Sp := fun vs H Q _ => ∃ z, vs = [.str z] ∧ LetOk z ∧ ∀ H', Same H H' → Q (.bl true) H'
structure MWOk (M : Mach) : Prop where
  st : ∀ x ∈ M.st, WOk x
  tabs : ∀ t ∈ M.tabs, ∀ r ∈ t, ∀ x ∈ r, WOk x
  en : ∀ x ∈ M.en, WOk x
def spReadMachine (K : PySem.W.Frag) : Sp := fun vs H Q _ => ∃ k M, vs = [k, .str (machS M)] ∧ CostsAt K H k ∧ M.WF ∧ LetOk M.ls ∧ MWOk M ∧ Gives H (dMach M) Q
theorem cutD_inner {α : Type} (a b c : α) (mid : List α) : cutD (([a, b] ++ mid) ++ [c]) (some 2) (some (-1)) = mid := by
  unfold cutD
  rw [sIx_neg1]
  have e1 : HT.sIx (([a, b] ++ mid) ++ [c]).length 0 (some 2) = 2 := by
    have := HT.sIx_nat (([a, b] ++ mid) ++ [c]).length 0 2
    refine Eq.trans this ?_
    simp
  rw [e1]
  simp
section
variable {P : Program} {w : World} {K : PySem.W.Frag} {mg : Str → Option Value} {base : Heap}
abbrev s_is_letters : Stmt := top 22
theorem sc_is_letters : FnScope ["thing", "sign"] ["thing"] (defScope s_is_letters) := ⟨rfl, rfl, rfl, by decide +kernel, rfl, by decide +kernel, by decide +kernel⟩
theorem ok_is_letters (T : Txt w K mg) : Cal P w K mg base CX0 1 "is_letters" spIsLetters := by
  refine cal_ok T.d_is_letters (fun _ _ _ _ _ _ us hl => match us, hl with | [_], _ => rfl) sc_is_letters (fun vs H Q E h => ?_) (fun cdv A outer s f H vs Q E hr h => ?_)
  · obtain ⟨_, rfl, _⟩ := h; rfl
  · obtain ⟨z, rfl, hz, k⟩ := h
    refine ⟨_, PSs.nox (pss_cons (ps_if (PW.pt (pw_or (pt_not (pt_val (pe_callB (call_isiQ K) (by rfl) T.f_isinstance (by decide +kernel) (pa_cons (pv 0) (pa_cons (pe_bltn (v := .ty "str") rfl T.f_str (by decide +kernel) rfl) pa_nil))))) (pw_or1 (pt_not (pt_chain op_lt op_le pe_int (pe_callB call_len_str (by rfl) T.f_len PySem.boot_len (pa_cons (pv 0) pa_nil)) (C8.pe_gc rfl T.g_MOST_LETTERS)))))) (pss_one (ps_ret pe_bl)) pss_nil)
      (pss_one (ps_ret (pe_and (pe_cmpR op_eq (pe_lenSetS rfl rfl T.f_len rfl T.f_set (pv 0)) (pe_callB call_len_str (by rfl) T.f_len PySem.boot_len (pa_cons (pv 0) pa_nil)) (nomark _)) (pe_one (pe_callB (cr_all rfl) (by rfl) T.f_all (by decide +kernel) (pa_cons (pe_lc (own := [("sign", 1)]) rfl sc_is_letters.nd (pi_str (pv 0)) (blkOk_by (own := [("sign", 1)]) (N := ["thing", "sign"]) (sc := defScope s_is_letters) (by decide +kernel)) (fun _ _ _ _ _ => (pg_name (i := 1) sc_is_letters.nd rfl (Or.inl rfl))) (fun _ _ _ _ _ => pts_nil) (fun _ _ _ _ _ => (pe_cmpR op_in_sign (pv 1) (C8.pe_gc rfl T.g_SMALL) (by rfl)))) pa_nil))))))), ?_⟩
    have hp := hz.pos
    have h3 := hz.le3
    have hzl : z.length ≤ sizeLine := small (by omega)
    refine ⟨_, rfl, isi_str ⟨_, rfl, iteF ?_⟩⟩
    refine ⟨_, rfl, z, rfl, hzl, _, _, rfl, rfl, _, rfl, ?_⟩
    rw [decide_eq_true (show (0 : Int) < (z.length : Int) by omega)]
    refine iteT ⟨_, _, rfl, rfl, _, rfl, ?_⟩
    rw [decide_eq_true (show (z.length : Int) ≤ 3 by omega)]
    refine iteF ?_
    refine ⟨_, rfl, z, rfl, hz.nd, by omega, _, rfl, z, rfl, hzl, rfl, _, rfl, ?_⟩
    rw [decide_eq_true rfl]
    refine iteT ?_
    refine ⟨_, rfl, _, rfl, fun Dd hD => ?_⟩
    have hsz : z.cps.size = z.length := rfl
    refine lc_gen (H0 := H) (walk_str (z := z)) hD (small (by omega)) (fun _ _ => trivial) (fun i H1 x H2 y => by rw [y.1]; exact Same.refl H1) (fun _ => some (.a (.bl true))) ?_ ?_
    · rintro i x H1 H2 hi s2 ⟨rfl, c, hc, rfl⟩ s1 Kf Kt hf ht
      have hm : c ∈ z.cps.toList := List.mem_of_getElem? (by rw [Array.getElem?_toList]; exact hc)
      have hcs := hz.small c hm
      refine ⟨rfl, _, rfl, c, _, rfl, rfl, ?_⟩
      rw [decide_eq_true (small_mem hcs.1 hcs.2)]
      exact ht (.a (.bl true)) rfl _ _ (Same.refl _) rfl
    · intro Hf sf hlst
      rw [fm_rng] at hlst
      obtain ⟨bv, hbv, rbv⟩ := hlst
      have e : ((List.range z.cps.size).map fun _ => D.a (.bl true)) = (((List.range z.cps.size).map fun _ => true).map V.bl).map D.a := by
        rw [List.map_map, List.map_map] <;> rfl
      rw [e, Reps.atoms] at rbv
      subst rbv
      refine ⟨Dd, _, rfl, SqL.of hbv, ?_⟩
      have e2 : (((List.range z.cps.size).map fun _ => true).all id) = true := by
        rw [List.all_eq_true]
        intro x hx
        obtain ⟨_, _, rfl⟩ := List.mem_map.mp hx
        rfl
      rw [e2]
      exact k Hf sf
abbrev s_read_machine : Stmt := top 107
theorem sc_read_machine : FnScope ["kind", "text", "pieces", "letters", "many", "start", "tables", "piece"] ["kind", "text"] (defScope s_read_machine) := ⟨rfl, rfl, rfl, by decide +kernel, rfl, by decide +kernel, by decide +kernel⟩
theorem ok_read_machine (T : Txt w K mg) : Cal P w K mg base CX0 5 "read_machine" (spReadMachine K) := by
  refine cal_ok T.d_read_machine (fun _ _ _ _ _ _ us hl => match us, hl with | [_, _], _ => rfl) sc_read_machine (fun vs H Q E h => ?_) (fun cdv A outer s f H vs Q E hr h => ?_)
  · obtain ⟨_, _, rfl, _⟩ := h; rfl
  · obtain ⟨kd, M, rfl, hk, wM, hL, hW, k⟩ := h
    refine ⟨_, PSs.nox (pss_cons (ps_if (pt_not (pt_val (pe_callB (call_isiQ K) (by rfl) T.f_isinstance (by decide +kernel) (pa_cons (pv 1) (pa_cons (pe_bltn (v := .ty "str") rfl T.f_str (by decide +kernel) rfl) pa_nil))))) (pss_one ps_never) pss_nil)
      (pss_cons (ps_set (i := 2) sc_read_machine.nd rfl (Or.inl rfl) (pe_split (pv 1) pe_str))
      (pss_cons (ps_set (i := 3) sc_read_machine.nd rfl (Or.inl rfl) (pe_ix (ix_listQ K) (pv 2) pe_int (fun _ _ => rfl)))
      (pss_cons (ps_if (PW.pt (pw_or (pt_not (pt_val (pe_c0 (ok_is_letters T) hr (by decide) rfl (pa_cons (pv 3) pa_nil)))) (pw_or1 (pt_cmpR op_ne (pe_callB (call_lenQ K) (by rfl) T.f_len PySem.boot_len (pa_cons (pv 2) pa_nil)) (pe_op op_add (pe_callB call_len_str (by rfl) T.f_len PySem.boot_len (pa_cons (pv 3) pa_nil)) pe_int) (nomark _))))) (pss_one ps_never) pss_nil)
      (pss_cons (ps_set (i := 4) sc_read_machine.nd rfl (Or.inr rfl) pe_int)
      (pss_cons (ps_if (pt_cmpR op_ne (pe_ix (ix_listQ K) (pv 2) pe_int (fun _ _ => rfl)) pe_str (nomark _)) (pss_one (ps_set (i := 4) sc_read_machine.nd rfl (Or.inr rfl) (pe_callB (call_lenQ K) (by rfl) T.f_len PySem.boot_len (pa_cons (pe_split (pe_ix (ix_listQ K) (pv 2) pe_int (fun _ _ => rfl)) pe_str) pa_nil)))) pss_nil)
      (pss_cons (ps_if (pt_cmpR op_gt (pv 4) (C8.pe_gc rfl T.g_MOST_ROOMS) (nomark _)) (pss_one ps_never) pss_nil)
      (pss_cons (ps_set (i := 5) sc_read_machine.nd rfl (Or.inl rfl) (pe_c0 (ok_read_line T) hr (by decide) rfl (pa_cons (pv 0) (pa_cons (pe_ix (ix_listQ K) (pv 2) pe_int (fun _ _ => rfl)) (pa_cons (pv 4) pa_nil)))))
      (pss_cons (ps_set (i := 6) sc_read_machine.nd rfl (Or.inl rfl) (pe_callTy (call_tupQ K) (by rfl) T.f_tuple (by decide +kernel) (pa_cons (pe_lc (own := [("piece", 7)]) rfl sc_read_machine.nd (pi_list (pe_slice (sl_listQ K) (pv 2) (po_some pe_int) (po_some (pe_un un_neg pe_int)))) (blkOk_by (own := [("piece", 7)]) (N := ["kind", "text", "pieces", "letters", "many", "start", "tables", "piece"]) (sc := defScope s_read_machine) (by decide +kernel)) (fun _ _ _ _ _ => (pg_name (i := 7) sc_read_machine.nd rfl (Or.inl rfl))) (fun _ _ _ _ _ => pts_nil) (fun _ _ _ _ _ => (pe_c0 (ok_read_table T) hr (by decide) rfl (pa_cons (pv 0) (pa_cons (pv 7) (pa_cons (pv 4) pa_nil)))))) pa_nil)))
      (pss_one (ps_ret (pe_tupQ (pa_cons (pv 3) (pa_cons (pv 5) (pa_cons (pv 6) (pa_cons (pe_c0 (ok_read_line T) hr (by decide) rfl (pa_cons (pv 0) (pa_cons (pe_ix (ix_listQ K) (pv 2) (pe_un un_neg pe_int) (fun _ _ => rfl)) (pa_cons (pv 4) pa_nil)))) pa_nil)))))))))))))))), ?_⟩
    have hn20 := wM.few
    have hen := wM.ends
    have htl : M.tabs.length ≤ 3 := by rw [wM.lt]; exact wM.let3
    have hst31 := line_len hW.st hn20
    have hen31 := line_len hW.en (by omega)
    have htab : ∀ t ∈ M.tabs, (tabS t).length ≤ 12840 := fun t ht => tab_len (n := 0) (fun r hr => ⟨by rw [wM.cols t ht r hr]; exact hn20, hW.tabs t ht r hr⟩) (by rw [wM.rows t ht]; exact hn20)
    generalize hps : ([M.ls, lineS M.st] ++ M.tabs.map tabS) ++ [lineS M.en] = ps
    have hpsl : ps.length = M.tabs.length + 3 := by rw [← hps]; simp
    have hne : ps ≠ [] := fun e => by rw [e] at hpsl; simp at hpsl
    have hlen : (machS M).length ≤ 77058 := by
      have := join_len " | " 12840 ps fun p hp => by
        rw [← hps] at hp
        simp only [List.cons_append, List.nil_append, List.mem_cons, List.mem_append, List.mem_map, List.not_mem_nil, or_false] at hp
        rcases hp with rfl | rfl | ⟨t, ht, rfl⟩ | rfl
        · have := hL.le3; omega
        · omega
        · exact htab t ht
        · omega
      rw [len_bar, hpsl] at this
      unfold machS
      rw [hps]
      have h2 : (M.tabs.length + 3) * (12840 + 3) ≤ 6 * (12840 + 3) := Nat.mul_le_mul_right _ (by omega)
      omega
    have hspl : Txt.split (machS M) " | " = ps := by
      unfold machS
      rw [hps]
      refine bars_split hne fun p hp hm => ?_
      rw [← hps] at hp
      simp only [List.cons_append, List.nil_append, List.mem_cons, List.mem_append, List.mem_map, List.not_mem_nil, or_false] at hp
      rcases hp with rfl | rfl | ⟨t, ht, rfl⟩ | rfl
      · have := hL.small 124 hm; omega
      · have := line_mem hm; omega
      · have := tab_mem hm; omega
      · have := line_mem hm; omega
    refine ⟨_, rfl, isi_str ⟨_, rfl, iteF ?_⟩⟩
    refine ⟨_, rfl, ⟨_, rfl⟩, _, _, rfl, rfl, by decide +kernel, Nat.le_of_lt (Nat.lt_of_le_of_lt (show _ ≤ 77060 by omega) (by decide)), ?_⟩
    rw [hspl]
    refine r_strs fun p H1 s1 hp hlp => ?_
    have hp0 : (ps.map fun z => D.a (.str z))[0]? = some (.a (.str M.ls)) := by rw [← hps]; rfl
    have hp1 : (ps.map fun z => D.a (.str z))[1]? = some (.a (.str (lineS M.st))) := by rw [← hps]; rfl
    refine ⟨_, rfl, r_ixL 0 hlp hp0 fun v hv => ?_⟩
    cases hv
    refine ⟨_, rfl, M.ls, rfl, hL, fun H2 s2 => ⟨_, rfl, iteF ?_⟩⟩
    have hlp2 := hlp.same s2
    refine ⟨_, rfl, r_lenL hlp2 ⟨_, rfl, M.ls, rfl, small (by have := hL.le3; omega), _, _, rfl, rfl, rfl, _, rfl, ?_⟩⟩
    rw [List.length_map, hpsl, wM.lt]
    rw [decide_eq_true (show V.int ((M.ls.length + 3 : Nat) : Int) = V.int ((M.ls.length : Int) + 3) by rw [Int.natCast_add] <;> rfl)]
    refine iteF ?_
    have s12 := s1.trans s2
    have hkk : ∀ {H' : Hp}, Same H H' → CostsAt K H' kd := fun s => hk.same s
    -- the rooms
    refine ⟨_, rfl, r_ixL 1 hlp2 hp1 fun v hv => ?_⟩
    cases hv
    refine ⟨rfl, _, rfl, ?_⟩
    have htab2 : ∀ t ∈ M.tabs, ∀ r ∈ t, r.length = t.length ∧ ∀ x ∈ r, WOk x := fun t ht r hr => ⟨by rw [wM.cols t ht r hr, wM.rows t ht], hW.tabs t ht r hr⟩
    have ecut : cutD (ps.map fun z => D.a (.str z)) (some 2) (some (-1)) = (M.tabs.map tabS).map fun z => D.a (.str z) := by
      rw [← hps, List.map_append, List.map_append]
      exact cutD_inner _ _ _ _
    have elast : (ps.map fun z => D.a (.str z)) = (([M.ls, lineS M.st] ++ M.tabs.map tabS).map fun z => D.a (.str z)) ++ [.a (.str (lineS M.en))] := by
      rw [← hps, List.map_append] <;> rfl
    refine ite2 (fun hc => ?_) (fun hc => ?_)
    · have hne1 : M.st ≠ [] := fun e => by
        rw [e] at hc
        have : (!decide (V.str (lineS []) = V.str "-")) = true := hc
        rw [decide_eq_true (show V.str (lineS []) = V.str "-" from rfl)] at this
        cases this
      refine ⟨_, rfl, r_ixL 1 hlp2 hp1 fun v hv => ?_⟩
      cases hv
      refine ⟨⟨_, rfl⟩, _, _, rfl, rfl, by decide +kernel, small (by omega), ?_⟩
      rw [line_split hne1]
      refine r_strs fun p3 H3 s3 hp3 hlp3 => r_lenL hlp3 ?_
      rw [List.length_map, List.length_map]
      refine ⟨_, rfl, _, _, rfl, rfl, _, rfl, ?_⟩
      rw [decide_eq_false (by omega)]
      refine iteF ?_
      have s13 := s12.trans s3
      have hl3 := hlp2.same s3
      refine ⟨_, rfl, _, rfl, r_ixL 1 hl3 hp1 fun v hv => ?_⟩
      cases hv
      refine ⟨_, rfl, kd, M.st, rfl, hkk s13, hW.st, hn20, fun vst H4 s4 hst => ?_⟩
      refine ⟨_, rfl, _, rfl, _, rfl, _, rfl, r_slL (hl3.same s4) fun q H5 s5 hq hlq => ?_⟩
      rw [ecut] at hlq
      obtain ⟨qv, hqv, rqv⟩ := hlq
      have hql : qv.length = M.tabs.length := by rw [rqv.len, List.length_map, List.length_map]
      refine ⟨q, rfl, ⟨_, SqL.of hqv⟩, fun Dd hD => ?_⟩
      refine lc_gen (H0 := H5) (walk_list (xs := qv)) hD (small (by omega)) (fun H6 s6 => SqL.of (s6 _ _ hqv)) same_YAt (fun i => (M.tabs[i]?).map dTab) ?_ ?_
      · rintro i z H6 H7 hi s7 ⟨rfl, hz⟩ s6 Kf Kt hf ht
        obtain ⟨d, hd, rd⟩ := rqv.getV hz
        rw [List.getElem?_map, List.getElem?_map, Option.map_eq_some_iff] at hd
        obtain ⟨z1, hz1, rfl⟩ := hd
        obtain ⟨t, ht1, rfl⟩ := Option.map_eq_some_iff.mp hz1
        cases rd
        have hm := List.mem_of_getElem? ht1
        exact ⟨rfl, _, rfl, _, rfl, _, rfl, kd, t, by rw [wM.rows t hm], hkk (s13.trans (s4.trans (s5.trans s7))), htab2 t hm, by rw [wM.rows t hm]; exact hn20, fun v H8 s8 h8 => ht (dTab t) (by rw [ht1] <;> rfl) _ _ s8 h8⟩
      · intro Hf sf hlst
        refine r_tupL hlst fun vt H8 s8 h8 => ?_
        rw [hql, fm_map] at h8
        have s48 := s4.trans (s5.trans (sf.trans s8))
        refine ⟨_, rfl, _, rfl, _, rfl, _, rfl, _, rfl, _, rfl, ?_⟩
        have hl8 := hl3.same s48
        rw [elast] at hl8
        refine r_ixLast hl8 fun v hv => ?_
        cases hv
        refine ⟨_, rfl, kd, M.en, by rw [hen], hkk (s13.trans s48), hW.en, by omega, fun ven H9 s9 h9 => ?_⟩
        refine r_tup (ds := [.a (.str M.ls), dRow M.st, dTabs M.tabs, dRow M.en]) (Reps.cons rfl (Reps.cons (hst.same (s5.trans (sf.trans (s8.trans s9)))) (Reps.cons (h8.same s9) (Reps.cons h9 Reps.nil)))) (small (by simp)) fun v10 H10 s10 h10 => ?_
        exact k v10 H10 (s13.trans (s48.trans (s9.trans s10))) h10
    · have hst0 : M.st = [] := by
        refine Classical.byContradiction fun e => hc ?_
        show (!decide (V.str (lineS M.st) = V.str "-")) = true
        rw [decide_eq_false (fun z => e (line_dash.mp (by injection z)))]; rfl
      have hz0 : M.st.length = 0 := by rw [hst0]; rfl
      refine ⟨_, rfl, _, _, rfl, rfl, _, rfl, ?_⟩
      refine iteF ?_
      refine ⟨_, rfl, _, rfl, r_ixL 1 hlp2 hp1 fun v hv => ?_⟩
      cases hv
      refine ⟨_, rfl, kd, M.st, by rw [hz0] <;> rfl, hkk s12, hW.st, hn20, fun vst H4 s4 hst => ?_⟩
      refine ⟨_, rfl, _, rfl, _, rfl, _, rfl, r_slL (hlp2.same s4) fun q H5 s5 hq hlq => ?_⟩
      rw [ecut] at hlq
      obtain ⟨qv, hqv, rqv⟩ := hlq
      have hql : qv.length = M.tabs.length := by rw [rqv.len, List.length_map, List.length_map]
      refine ⟨q, rfl, ⟨_, SqL.of hqv⟩, fun Dd hD => ?_⟩
      refine lc_gen (H0 := H5) (walk_list (xs := qv)) hD (small (by omega)) (fun H6 s6 => SqL.of (s6 _ _ hqv)) same_YAt (fun i => (M.tabs[i]?).map dTab) ?_ ?_
      · rintro i z H6 H7 hi s7 ⟨rfl, hz⟩ s6 Kf Kt hf ht
        obtain ⟨d, hd, rd⟩ := rqv.getV hz
        rw [List.getElem?_map, List.getElem?_map, Option.map_eq_some_iff] at hd
        obtain ⟨z1, hz1, rfl⟩ := hd
        obtain ⟨t, ht1, rfl⟩ := Option.map_eq_some_iff.mp hz1
        cases rd
        have hm := List.mem_of_getElem? ht1
        exact ⟨rfl, _, rfl, _, rfl, _, rfl, kd, t, by rw [wM.rows t hm, hz0] <;> rfl, hkk (s12.trans (s4.trans (s5.trans s7))), htab2 t hm, by rw [wM.rows t hm]; exact hn20, fun v H8 s8 h8 => ht (dTab t) (by rw [ht1] <;> rfl) _ _ s8 h8⟩
      · intro Hf sf hlst
        refine r_tupL hlst fun vt H8 s8 h8 => ?_
        rw [hql, fm_map] at h8
        have s48 := s4.trans (s5.trans (sf.trans s8))
        refine ⟨_, rfl, _, rfl, _, rfl, _, rfl, _, rfl, _, rfl, ?_⟩
        have hl8 := hlp2.same s48
        rw [elast] at hl8
        refine r_ixLast hl8 fun v hv => ?_
        cases hv
        refine ⟨_, rfl, kd, M.en, by rw [hen, hz0] <;> rfl, hkk (s12.trans s48), hW.en, by omega, fun ven H9 s9 h9 => ?_⟩
        refine r_tup (ds := [.a (.str M.ls), dRow M.st, dTabs M.tabs, dRow M.en]) (Reps.cons rfl (Reps.cons (hst.same (s5.trans (sf.trans (s8.trans s9)))) (Reps.cons (h8.same s9) (Reps.cons h9 Reps.nil)))) (small (by simp)) fun v10 H10 s10 h10 => ?_
        exact k v10 H10 (s12.trans (s48.trans (s9.trans s10))) h10
end
end L2.Ww
set_option Elab.async false
set_option linter.all false
set_option maxRecDepth 100000
set_option maxHeartbeats 4000000
/-! A saying of one word: read, built. -/
namespace L2.Ww
open PySem PySem.Spec PyProof.Rows
@[irreducible] def tNeverE : TE := fun _ _ _ => False
theorem pe_neverE {X : Cx} {e : Expr} : PE X e tNeverE := ⟨fun _ _ _ _ _ _ h => by unfold tNeverE at h; exact h.elim⟩
def wordT (w : Str) : Str := if w.length = 0 then "-" else w
structure WordOk (ls w : Str) : Prop where
  inl : ∀ c ∈ w.cps.toList, c ∈ ls.cps.toList
  le3 : w.length ≤ 3
theorem str_nil {w : Str} (h : w.length = 0) : w = (⟨#[]⟩ : Str) := TL.ext_tl ((TL.len0_tl w).mp h)
theorem word_ne_dash {ls w : Str} (hl : LetOk ls) (h : WordOk ls w) : w ≠ ("-" : Str) := fun e => by
  have := hl.small 45 (h.inl 45 (by rw [e, show ("-" : Str).cps.toList = [45] from tl_dash]; exact List.mem_cons_self))
  omega
def spReadWord : Sp := fun vs H Q _ => ∃ ls w, vs = [.str ls, .str (wordT w)] ∧ LetOk ls ∧ WordOk ls w ∧ ∀ H', Same H H' → Q (.str w) H'
def dSay (w : Str) : D := .t [.a (.str "word"), .a (.str w)]
def spWithin : Sp := fun vs H Q _ => ∃ a w, vs = [a] ∧ Rep H (dSay w) a ∧ GivesL H [] Q
def spBuilt (K : PySem.W.Frag) : Sp := fun vs H Q _ => ∃ k ls w a, vs = [k, .str ls, a] ∧ CostsAt K H k ∧ LetOk ls ∧ WordOk ls w ∧ Rep H (dSay w) a ∧ Gives H (dMach (mSingle ls w)) Q
def spReadAt : Sp := fun vs H Q _ => ∃ k ls p w, vs = [k, .str ls, .ref p, .int 0, .int 1] ∧ LetOk ls ∧ WordOk ls w ∧ LstAt H p [.a (.str "word"), .a (.str (wordT w))] ∧ Gives H (.t [dSay w, .a (.int 2)]) Q
def spManyParts : Sp := fun vs H Q _ => ∃ a w, vs = [a] ∧ Rep H (dSay w) a ∧ ∀ H', Same H H' → Q (.int 1) H'
def spReadSaying : Sp := fun vs H Q _ => ∃ k ls w, vs = [k, .str ls, .str ("word " ++ wordT w)] ∧ LetOk ls ∧ WordOk ls w ∧ Gives H (dSay w) Q
theorem r_inT {K : PySem.W.Frag} {H : Hp} {Q : VK} {p : Addr} {xs : List V} {x : V} {neg : Bool} (h : SqT K H p xs) (f : flatV x = true) (fs : xs.all flatV = true) (k : Q (.bl (if neg then !inV x xs else inV x xs)) H) : qIn K neg x (.ref p) H Q := by
  unfold qIn
  exact ⟨p, xs, rfl, .inr h, f, fs, k⟩
theorem wordT_free {ls w : Str} (hl : LetOk ls) (h : WordOk ls w) : 32 ∉ TL.tl (wordT w) := fun hm => by
  unfold wordT at hm
  split at hm
  · rw [tl_dash] at hm; simp at hm
  · have := hl.small 32 (h.inl 32 hm); omega
theorem wordT_len {ls w : Str} (h : WordOk ls w) : (wordT w).length ≤ 3 := by
  unfold wordT
  split
  · rw [TL.len_tl, tl_dash]; decide
  · exact h.le3
theorem join2 (a b : Str) : Txt.join " " [a, b] = a ++ " " ++ b := by
  rw [TL.join_eq]; rfl
theorem say_split {ls w : Str} (hl : LetOk ls) (h : WordOk ls w) : Txt.split ("word " ++ wordT w) " " = [("word" : Str), wordT w] := by
  have e : ("word " : Str) ++ wordT w = Txt.join " " [("word" : Str), wordT w] := by
    rw [join2]
    refine TL.ext_tl ?_
    rw [TL.tl_append, TL.tl_append, TL.tl_append]
    congr 1
  rw [e]
  refine TL.split_join (s := 32) (S := []) tl_sp (by decide +kernel) (by simp) fun p hp hm => ?_
  simp only [List.mem_cons, List.not_mem_nil, or_false] at hp
  rcases hp with rfl | rfl
  · revert hm
    decide +kernel
  · exact wordT_free hl h hm
section
variable {P : Program} {w : World} {K : PySem.W.Frag} {mg : Str → Option Value} {base : Heap}
abbrev s_read_word : Stmt := top 89
theorem sc_read_word : FnScope ["letters", "text", "sign"] ["letters", "text"] (defScope s_read_word) := ⟨rfl, rfl, rfl, by decide +kernel, rfl, by decide +kernel, by decide +kernel⟩
theorem ok_read_word (T : Txt w K mg) : Cal P w K mg base CX0 1 "read_word" spReadWord := by
  refine cal_ok T.d_read_word (fun _ _ _ _ _ _ us hl => match us, hl with | [_, _], _ => rfl) sc_read_word (fun vs H Q E h => ?_) (fun cdv A outer s f H vs Q E hr h => ?_)
  · obtain ⟨_, _, rfl, _⟩ := h; rfl
  · obtain ⟨ls, wd, rfl, hl, hw, k⟩ := h
    refine ⟨_, PSs.nox (pss_cons (ps_if (pt_cmpR op_eq (pv 1) pe_str (nomark _)) (pss_one (ps_ret pe_str)) pss_nil)
      (pss_cons (ps_if (PW.pt (pw_or (pt_cmpR op_eq (pv 1) pe_str (nomark _)) (pw_or1 (pt_not (pt_val (pe_callB (cr_all rfl) (by rfl) T.f_all (by decide +kernel) (pa_cons (pe_lc (own := [("sign", 2)]) rfl sc_read_word.nd (pi_str (pv 1)) (blkOk_by (own := [("sign", 2)]) (N := ["letters", "text", "sign"]) (sc := defScope s_read_word) (by decide +kernel)) (fun _ _ _ _ _ => (pg_name (i := 2) sc_read_word.nd rfl (Or.inl rfl))) (fun _ _ _ _ _ => pts_nil) (fun _ _ _ _ _ => (pe_cmpR op_in_sign (pv 2) (pv 0) (by rfl)))) pa_nil))))))) (pss_one ps_never) pss_nil)
      (pss_one (ps_ret (pv 1))))), ?_⟩
    refine ⟨_, rfl, rfl, _, rfl, ?_⟩
    by_cases h0 : wd.length = 0
    · have e1 : wordT wd = "-" := if_pos h0
      rw [decide_eq_true (show V.str (wordT wd) = V.str "-" by rw [e1])]
      have e2 := str_nil h0
      subst e2
      exact iteT (k H (Same.refl H))
    · have e1 : wordT wd = wd := if_neg h0
      rw [e1]
      rw [decide_eq_false (show ¬ V.str wd = V.str "-" by intro z; injection z with z; exact word_ne_dash hl hw z)]
      refine iteF ⟨_, rfl, rfl, _, rfl, ?_⟩
      rw [decide_eq_false (show ¬ V.str wd = V.str "" by intro z; injection z with z; rw [z] at h0; exact h0 rfl)]
      refine iteF ⟨_, rfl, _, rfl, fun Dd hD => ?_⟩
      refine lc_gen (H0 := H) (walk_str (z := wd)) hD (small (by have := hw.le3; show wd.length ≤ 1000; omega)) (fun _ _ => trivial) (fun i H1 x H2 y => by rw [y.1]; exact Same.refl H1) (fun _ => some (.a (.bl true))) ?_ ?_
      · rintro i x H1 H2 hi s2 ⟨rfl, c, hc, rfl⟩ s1 Kf Kt hf ht
        have hm : c ∈ wd.cps.toList := List.mem_of_getElem? (by rw [Array.getElem?_toList]; exact hc)
        refine ⟨rfl, _, rfl, _, rfl, c, ls, rfl, rfl, ?_⟩
        rw [decide_eq_true (hw.inl c hm)]
        exact ht (.a (.bl true)) rfl _ _ (Same.refl _) rfl
      · intro Hf sf hlst
        rw [fm_rng] at hlst
        obtain ⟨bv, hbv, rbv⟩ := hlst
        have e : ((List.range wd.cps.size).map fun _ => D.a (.bl true)) = (((List.range wd.cps.size).map fun _ => true).map V.bl).map D.a := by
          rw [List.map_map, List.map_map] <;> rfl
        rw [e, Reps.atoms] at rbv
        subst rbv
        refine ⟨Dd, _, rfl, SqL.of hbv, _, rfl, ?_⟩
        have e2 : (((List.range wd.cps.size).map fun _ => true).all id) = true := by
          rw [List.all_eq_true]
          intro x hx
          obtain ⟨_, _, rfl⟩ := List.mem_map.mp hx
          rfl
        rw [e2]
        exact iteF ⟨_, rfl, k Hf sf⟩
abbrev s_within : Stmt := top 87
theorem sc_within : FnScope ["saying"] ["saying"] (defScope s_within) := ⟨rfl, rfl, rfl, by decide +kernel, rfl, by decide +kernel, by decide +kernel⟩
theorem ok_within (T : Txt w K mg) : Cal P w K mg base CX0 1 "within" spWithin := by
  refine cal_ok T.d_within (fun _ _ _ _ _ _ us hl => match us, hl with | [_], _ => rfl) sc_within (fun vs H Q E h => ?_) (fun cdv A outer s f H vs Q E hr h => ?_)
  · obtain ⟨_, _, rfl, _⟩ := h; rfl
  · obtain ⟨a, wd, rfl, ha, k⟩ := h
    refine ⟨_, PSs.nox (pss_cons (ps_if (pt_cmpR (op_in_seqQ K) (pe_ix (ix_tupQ K) (pv 0) pe_int (fun _ _ => rfl)) (pe_glob (v := .ref (He.ga K "PAIRS")) rfl T.g_PAIRS rfl) (by rfl)) (pss_one (ps_ret (pe_lstQ (pa_cons (pe_ix (ix_tupQ K) (pv 0) pe_int (fun _ _ => rfl)) (pa_cons (pe_ix (ix_tupQ K) (pv 0) pe_int (fun _ _ => rfl)) pa_nil))))) pss_nil)
      (pss_cons (ps_if (pt_cmpR (op_in_seqQ K) (pe_ix (ix_tupQ K) (pv 0) pe_int (fun _ _ => rfl)) (pe_glob (v := .ref (He.ga K "ONES")) rfl T.g_ONES rfl) (by rfl)) (pss_one (ps_ret (pe_lstQ (pa_cons (pe_ix (ix_tupQ K) (pv 0) pe_int (fun _ _ => rfl)) pa_nil)))) pss_nil)
      (pss_cons (ps_if (pt_cmpR op_eq (pe_ix (ix_tupQ K) (pv 0) pe_int (fun _ _ => rfl)) pe_str (nomark _)) (pss_one (ps_ret (pe_lstQ (pa_cons (pe_ix (ix_tupQ K) (pv 0) pe_int (fun _ _ => rfl)) pa_nil)))) pss_nil)
      (pss_one (ps_ret (pe_lstQ pa_nil)))))), ?_⟩
    refine ⟨_, rfl, r_ixT 0 ha rfl fun v hv => ?_⟩
    cases hv
    refine r_inT (T.t_PAIRS H) rfl (by decide +kernel) ⟨_, rfl, ?_⟩
    refine iteF ⟨_, rfl, r_ixT 0 ha rfl fun v hv => ?_⟩
    cases hv
    refine r_inT (T.t_ONES H) rfl (by decide +kernel) ⟨_, rfl, ?_⟩
    refine iteF ⟨_, rfl, r_ixT 0 ha rfl fun v hv => ?_⟩
    cases hv
    refine ⟨rfl, _, rfl, iteF ?_⟩
    exact r_lst Reps.nil (small (by simp)) fun p H1 s1 hp hl => k p H1 s1 hp hl
abbrev s_built : Stmt := top 88
theorem sc_built : FnScope ["kind", "letters", "saying", "form", "made", "inner", "letter"] ["kind", "letters", "saying"] (defScope s_built) := ⟨rfl, rfl, rfl, by decide +kernel, rfl, by decide +kernel, by decide +kernel⟩
theorem ok_built (T : Txt w K mg) : Cal P w K mg base CX0 4 "built" (spBuilt K) := by
  refine cal_ok T.d_built (fun _ _ _ _ _ _ us hl => match us, hl with | [_, _, _], _ => rfl) sc_built (fun vs H Q E h => ?_) (fun cdv A outer s f H vs Q E hr h => ?_)
  · obtain ⟨_, _, _, _, rfl, _⟩ := h; rfl
  · obtain ⟨kd, ls, wd, a, rfl, hk, hl, hw, ha, k⟩ := h
    refine ⟨_, PSs.nox (pss_cons (ps_set (i := 3) sc_built.nd rfl (Or.inl rfl) (pe_ix (ix_tupQ K) (pv 2) pe_int (fun _ _ => rfl)))
      (pss_cons (ps_if (pt_cmpR op_eq (pv 3) pe_str (nomark _)) (pss_one ps_never) pss_nil)
      (pss_cons (ps_if (pt_cmpR op_eq (pv 3) pe_str (nomark _)) (pss_one (ps_ret (pe_c0 (ok_single T) hr (by decide) rfl (pa_cons (pv 0) (pa_cons (pv 1) (pa_cons (pe_ix (ix_tupQ K) (pv 2) pe_int (fun _ _ => rfl)) (pa_cons (pe_m00 (ok_Costs_one T) hr (by decide) (pv 0)) pa_nil))))))) pss_nil)
      (pss_cons ps_never
      (pss_cons ps_never
      (pss_cons ps_never
      (pss_cons ps_never
      (pss_cons ps_never
      (pss_cons ps_never
      (pss_one ps_never)))))))))), ?_⟩
    refine ⟨_, rfl, r_ixT 0 ha rfl fun v hv => ?_⟩
    cases hv
    refine ⟨_, rfl, rfl, _, rfl, iteF ?_⟩
    refine ⟨_, rfl, rfl, _, rfl, iteT ?_⟩
    refine ⟨_, rfl, _, rfl, _, rfl, r_ixT 1 ha rfl fun v hv => ?_⟩
    cases hv
    obtain ⟨ka, kdx, rfl, hka⟩ := id hk
    refine ⟨_, rfl, ka, kdx, _, rfl, hka, rfl, _, rfl, ?_⟩
    exact ⟨.ref ka, ls, wd, rfl, hk, hw.inl, hw.le3, hl.le3, k⟩
abbrev s_read_at : Stmt := top 90
theorem sc_read_at : FnScope ["kind", "letters", "texts", "at", "high", "form", "by", "inner", "behind", "other"] ["kind", "letters", "texts", "at", "high"] (defScope s_read_at) := ⟨rfl, rfl, rfl, by decide +kernel, rfl, by decide +kernel, by decide +kernel⟩
theorem ok_read_at (T : Txt w K mg) : Cal P w K mg base CX0 2 "read_at" spReadAt := by
  refine cal_ok T.d_read_at (fun _ _ _ _ _ _ us hl => match us, hl with | [_, _, _, _, _], _ => rfl) sc_read_at (fun vs H Q E h => ?_) (fun cdv A outer s f H vs Q E hr h => ?_)
  · obtain ⟨_, _, _, _, rfl, _⟩ := h; rfl
  · obtain ⟨kd, ls, p, wd, rfl, hl, hw, hp, k⟩ := h
    refine ⟨_, PSs.nox (pss_cons (ps_if (PW.pt (pw_or (pt_cmpR op_ge (pv 3) (pe_callB (call_lenQ K) (by rfl) T.f_len PySem.boot_len (pa_cons (pv 2) pa_nil)) (nomark _)) (pw_or1 (pt_cmpR op_gt (pv 4) (C8.pe_gc rfl T.g_MOST_HIGH) (nomark _))))) (pss_one ps_never) pss_nil)
      (pss_cons (ps_set (i := 5) sc_read_at.nd rfl (Or.inl rfl) (pe_ix (ix_listQ K) (pv 2) (pv 3) (fun _ _ => rfl)))
      (pss_cons (ps_if (pt_cmpR op_eq (pv 5) pe_str (nomark _)) (pss_one ps_never) pss_nil)
      (pss_cons (ps_if (pt_cmpR op_eq (pv 5) pe_str (nomark _)) (pss_cons (ps_if (pt_cmpR op_ge (pe_op op_add (pv 3) pe_int) (pe_callB (call_lenQ K) (by rfl) T.f_len PySem.boot_len (pa_cons (pv 2) pa_nil)) (nomark _)) (pss_one ps_never) pss_nil)
      (pss_one (ps_ret (pe_tupQ (pa_cons (pe_tupQ (pa_cons pe_str (pa_cons (pe_c0 (ok_read_word T) hr (by decide) rfl (pa_cons (pv 1) (pa_cons (pe_ix (ix_listQ K) (pv 2) (pe_op op_add (pv 3) pe_int) (fun _ _ => rfl)) pa_nil))) pa_nil))) (pa_cons (pe_op op_add (pv 3) pe_int) pa_nil)))))) pss_nil)
      (pss_cons ps_never
      (pss_cons ps_never
      (pss_cons ps_never
      (pss_cons ps_never
      (pss_cons ps_never
      (pss_one ps_never)))))))))), ?_⟩
    refine ⟨_, rfl, _, rfl, r_lenL hp ⟨_, _, rfl, rfl, _, rfl, ?_⟩⟩
    refine iteF ⟨_, rfl, _, _, rfl, rfl, _, rfl, iteF ?_⟩
    refine ⟨_, rfl, _, rfl, r_ixL 0 hp rfl fun v hv => ?_⟩
    cases hv
    refine ⟨_, rfl, rfl, _, rfl, iteF ?_⟩
    refine ⟨_, rfl, rfl, _, rfl, iteT ?_⟩
    refine ⟨_, rfl, _, _, rfl, rfl, _, rfl, r_lenL hp ⟨_, _, rfl, rfl, _, rfl, iteF ?_⟩⟩
    refine ⟨_, rfl, _, rfl, _, rfl, _, _, rfl, rfl, r_ixL 1 hp rfl fun v hv => ?_⟩
    cases hv
    refine ⟨ls, wd, rfl, hl, hw, fun H1 s1 => ?_⟩
    refine r_tup (ds := [.a (.str "word"), .a (.str wd)]) (Reps.cons rfl (Reps.cons rfl Reps.nil)) (small (by simp)) fun v2 H2 s2 h2 => ?_
    refine ⟨_, rfl, _, _, rfl, rfl, ?_⟩
    exact r_tup (ds := [dSay wd, .a (.int 2)]) (Reps.cons h2 (Reps.cons rfl Reps.nil)) (small (by simp)) fun v3 H3 s3 h3 => k v3 H3 (s1.trans (s2.trans s3)) h3
abbrev s_many_parts : Stmt := top 91
theorem sc_many_parts : FnScope ["saying", "inner"] ["saying"] (defScope s_many_parts) := ⟨rfl, rfl, rfl, by decide +kernel, rfl, by decide +kernel, by decide +kernel⟩
theorem ok_many_parts (T : Txt w K mg) : Cal P w K mg base CX0 2 "many_parts" spManyParts := by
  refine cal_ok T.d_many_parts (fun _ _ _ _ _ _ us hl => match us, hl with | [_], _ => rfl) sc_many_parts (fun vs H Q E h => ?_) (fun cdv A outer s f H vs Q E hr h => ?_)
  · obtain ⟨_, _, rfl, _⟩ := h; rfl
  · obtain ⟨a, wd, rfl, ha, k⟩ := h
    refine ⟨_, PSs.nox (pss_one (ps_ret (pe_op op_add pe_int (pe_callB (cr_sum rfl) (by rfl) T.f_sum (by decide +kernel) (pa_cons (pe_lc (own := [("inner", 1)]) rfl sc_many_parts.nd (pi_list (pe_c0 (ok_within T) hr (by decide) rfl (pa_cons (pv 0) pa_nil))) (blkOk_by (own := [("inner", 1)]) (N := ["saying", "inner"]) (sc := defScope s_many_parts) (by decide +kernel)) (fun _ _ _ _ _ => (pg_name (i := 1) sc_many_parts.nd rfl (Or.inl rfl))) (fun _ _ _ _ _ => pts_nil) (fun _ _ _ _ _ => pe_neverE)) pa_nil))))), ?_⟩
    refine ⟨_, rfl, a, wd, rfl, ha, fun p H1 s1 hp hl => ?_⟩
    have hp1 : H1 p = some (.lst []) := by
      obtain ⟨vs, q1, q2⟩ := hl
      rw [show vs = [] from q2] at q1
      exact q1
    refine ⟨p, rfl, ⟨_, SqL.of hp1⟩, fun Dd hD => ?_⟩
    refine lc_gen (H0 := H1) (walk_list (xs := [])) hD (Nat.zero_le _) (fun H2 s2 => SqL.of (s2 _ _ hp1)) same_YAt (fun _ => none) (fun i x H2 H3 hi => by simp at hi) ?_
    intro Hf sf hlst
    obtain ⟨bv, hbv, rbv⟩ := hlst
    have e : bv = [] := rbv
    subst e
    exact ⟨Dd, [], rfl, SqL.of hbv, _, _, rfl, rfl, k Hf (s1.trans sf)⟩
abbrev s_read_saying : Stmt := top 92
theorem sc_read_saying : FnScope ["kind", "letters", "text", "texts", "saying", "behind"] ["kind", "letters", "text"] (defScope s_read_saying) := ⟨rfl, rfl, rfl, by decide +kernel, rfl, by decide +kernel, by decide +kernel⟩
theorem ok_read_saying (T : Txt w K mg) : Cal P w K mg base CX0 3 "read_saying" spReadSaying := by
  refine cal_ok T.d_read_saying (fun _ _ _ _ _ _ us hl => match us, hl with | [_, _, _], _ => rfl) sc_read_saying (fun vs H Q E h => ?_) (fun cdv A outer s f H vs Q E hr h => ?_)
  · obtain ⟨_, _, _, rfl, _⟩ := h; rfl
  · obtain ⟨kd, ls, wd, rfl, hl, hw, k⟩ := h
    refine ⟨_, PSs.nox (pss_cons (ps_if (pt_not (pt_val (pe_callB (call_isiQ K) (by rfl) T.f_isinstance (by decide +kernel) (pa_cons (pv 2) (pa_cons (pe_bltn (v := .ty "str") rfl T.f_str (by decide +kernel) rfl) pa_nil))))) (pss_one ps_never) pss_nil)
      (pss_cons (ps_set (i := 3) sc_read_saying.nd rfl (Or.inl rfl) (pe_split (pv 2) pe_str))
      (pss_cons (ps_if (pt_cmpR op_gt (pe_callB (call_lenQ K) (by rfl) T.f_len PySem.boot_len (pa_cons (pv 3) pa_nil)) (pe_op op_mul pe_int (C8.pe_gc rfl T.g_MOST_PARTS)) (nomark _)) (pss_one ps_never) pss_nil)
      (pss_cons (ps_asg (pe_c0 (ok_read_at T) hr (by decide) rfl (pa_cons (pv 0) (pa_cons (pv 1) (pa_cons (pv 3) (pa_cons pe_int (pa_cons pe_int pa_nil)))))) (pg_tup (n := 2) rfl (pgs_cons (pg_name (i := 4) sc_read_saying.nd rfl (Or.inl rfl)) (pgs_cons (pg_name (i := 5) sc_read_saying.nd rfl (Or.inl rfl)) pgs_nil))))
      (pss_cons (ps_if (PW.pt (pw_or (pt_cmpR op_ne (pv 5) (pe_callB (call_lenQ K) (by rfl) T.f_len PySem.boot_len (pa_cons (pv 3) pa_nil)) (nomark _)) (pw_or1 (pt_cmpR op_gt (pe_c0 (ok_many_parts T) hr (by decide) rfl (pa_cons (pv 4) pa_nil)) (C8.pe_gc rfl T.g_MOST_PARTS) (nomark _))))) (pss_one ps_never) pss_nil)
      (pss_one (ps_ret (pv 4)))))))), ?_⟩
    refine ⟨_, rfl, isi_str ⟨_, rfl, iteF ?_⟩⟩
    have hlen : (("word " : Str) ++ wordT wd).length ≤ 8 := by
      have h1 := wordT_len hw
      rw [TL.len_tl, TL.tl_append, List.length_append, ← TL.len_tl, ← TL.len_tl]
      have h2 : ("word " : Str).length = 5 := by decide +kernel
      omega
    refine ⟨_, rfl, ⟨_, rfl⟩, _, _, rfl, rfl, by decide +kernel, small (by omega), ?_⟩
    rw [say_split hl hw]
    refine r_strs fun p H1 s1 hp hlp => ?_
    refine ⟨_, rfl, r_lenL hlp ⟨_, _, rfl, rfl, .inl ⟨by decide, by decide⟩, _, _, rfl, rfl, _, rfl, iteF ?_⟩⟩
    refine ⟨_, rfl, _, rfl, _, rfl, kd, ls, p, wd, rfl, hl, hw, hlp, fun v H2 s2 hv => ?_⟩
    obtain ⟨Tp, vs, vb, rfl, hT, hs, hb⟩ := rep_tup2 hv
    cases hb
    refine ⟨Tp, _, rfl, SqT.of hT, rfl, _, _, rfl, _, _, rfl, rfl, ?_⟩
    refine ⟨_, rfl, _, rfl, r_lenL (hlp.same s2) ⟨rfl, _, rfl, iteF ?_⟩⟩
    refine ⟨_, rfl, vs, wd, rfl, hs, fun H3 s3 => ⟨_, _, rfl, rfl, _, rfl, iteF ?_⟩⟩
    exact ⟨_, rfl, k vs H3 (s1.trans (s2.trans s3)) (hs.same s3)⟩
end
end L2.Ww
set_option Elab.async false
set_option linter.all false
set_option maxRecDepth 100000
set_option maxHeartbeats 4000000
/-! is_call, taken_apart -/
namespace L2.Ww
open PySem PySem.Spec PyProof.Rows
@[irreducible] def qInF (K : PySem.W.Frag) (neg : Bool) : R2 := fun x y H Q => ∃ (z : Str) (r : Option Value), x = .str z ∧ y = .ref (He.ga K "FORMS") ∧ PySem.W.nsIn K (He.ga K "FORMS") z = some r ∧ Q (.bl (if neg then !r.isSome else r.isSome)) H
@[irreducible] def qIxD (K : PySem.W.Frag) (w : World) : R2 := rIxD K w
theorem op_notInF {X : Cx} {w : World} {K : PySem.W.Frag} {mg : Str → Option Value} (T : Txt w K mg) (hK : X.K = K := by rfl) (hw : X.w = w := by rfl) : OpR X (compareOp .NotIn) (qInF K true) := by
  subst hK hw
  unfold qInF
  obtain ⟨es, n, D⟩ := T.k_FORMS
  exact op_notIn_kd D
theorem ix_kdictQ {X : Cx} (K : PySem.W.Frag) (w : World) (hK : X.K = K := by rfl) (hw : X.w = w := by rfl) : IxR X (qIxD K w) := by
  subst hK hw
  unfold qIxD
  exact ix_kdict
/-- a row's form -/
def FormAt (K : PySem.W.Frag) (form : Str) (n k s : Nat) (b : Bool) : Prop := ∃ a, PySem.W.nsIn K (He.ga K "FORMS") form = some (some (.ref a)) ∧ ∀ H : Hp, SqT K H a [.int (n : Int), .int (k : Int), .int (s : Int), .bl b]
theorem r_notInF {K : PySem.W.Frag} {H : Hp} {Q : VK} {form : Str} {n k s : Nat} {b : Bool} (f : FormAt K form n k s b) (q : Q (.bl false) H) : qInF K true (.str form) (.ref (He.ga K "FORMS")) H Q := by
  obtain ⟨a, h, _⟩ := f
  unfold qInF
  exact ⟨form, _, rfl, rfl, h, q⟩
theorem r_ixF {w : World} {K : PySem.W.Frag} {mg : Str → Option Value} (T : Txt w K mg) {H : Hp} {Q : VK} {form : Str} {n k s : Nat} {b : Bool} (f : FormAt K form n k s b)
    (q : ∀ a, (∀ H : Hp, SqT K H a [.int (n : Int), .int (k : Int), .int (s : Int), .bl b]) → Q (.ref a) H) : qIxD K w (.ref (He.ga K "FORMS")) (.str form) H Q := by
  obtain ⟨a, h, hs⟩ := f
  obtain ⟨es, m, D⟩ := T.k_FORMS
  unfold qIxD
  exact ⟨_, form, .ref a, rfl, rfl, ⟨es, m, .ref a, D.at_, D.lit, h, rfl⟩, q a hs⟩
theorem r_ixSq {K : PySem.W.Frag} {H : Hp} {Q : VK} {a : Addr} {xs : List V} (i : Nat) {v : V} (h : SqT K H a xs) (e : xs[i]? = some v) (k : Q v H) : qIxT K (.ref a) (.int (i : Int)) H Q := by
  unfold qIxT
  exact ⟨a, xs, _, v, rfl, rfl, h, atI_nat e, k⟩
structure NameOk (z : Str) : Prop where
  pos : 0 < z.length
  le8 : z.length ≤ 8
  small : ∀ c ∈ z.cps.toList, 97 ≤ c ∧ c ≤ 122
def spIsCall : Sp := fun vs H Q _ => ∃ z, vs = [.str z] ∧ NameOk z ∧ ∀ H', Same H H' → Q (.bl true) H'
def strsD (zs : List Str) : List D := zs.map fun z => D.a (.str z)
def spTaken (K : PySem.W.Frag) : Sp := fun vs H Q _ => ∃ row form n k s b rest, vs = [.str row] ∧ row.length ≤ 200000 ∧ Txt.split row " " = form :: rest ∧ FormAt K form n k s b ∧ n + k ≤ 10 ∧
  (b = true → n + k < rest.length) ∧ (b = false → rest.length = n + k + s) ∧
  ∀ p v H', Same H H' → H p = none → LstAt H' p (strsD (rest.take (n + k))) → Rep H' (.t [.a (.str form), .a (.ref p), .a (.str (Txt.join " " (rest.drop (n + k))))]) v → Q v H'
theorem spl_joinL (l : List Nat) : ∀ acc, TL.joinL [32] (TL.spl [32] 0 acc l) = acc ++ l ∧ TL.spl [32] 0 acc l ≠ [] := by
  induction l with
  | nil => intro acc; rw [TL.spl_nil, List.append_nil]; exact ⟨rfl, by simp⟩
  | cons c r ih =>
    intro acc
    by_cases h : c = 32
    · subst h
      rw [TL.spl_hit (by show ([32] == [32]) = true; rfl)]
      obtain ⟨h1, h2⟩ := ih []
      refine ⟨?_, by simp⟩
      show TL.joinL [32] (acc :: TL.spl [32] 0 [] r) = _
      cases e : TL.spl [32] 0 [] r with
      | nil => exact absurd e h2
      | cons q s =>
        rw [e] at h1
        show acc ++ ([32] ++ TL.joinL [32] (q :: s)) = _
        rw [h1] <;> rfl
    · rw [TL.spl_miss (TL.pre_of_head [] r h)]
      obtain ⟨h1, h2⟩ := ih (acc ++ [c])
      refine ⟨?_, h2⟩
      rw [h1, List.append_assoc] <;> rfl
theorem split_tl (z : Str) : (Txt.split z " ").map TL.tl = TL.spl [32] 0 [] (TL.tl z) := by
  rw [TL.split_spl z (" " : Str) (by rw [tl_sp]; simp) (TL.kind_ok (by decide +kernel)), tl_sp]
theorem join_split (z : Str) : Txt.join " " (Txt.split z " ") = z := by
  refine TL.ext_tl ?_
  rw [tl_joinT, split_tl, tl_sp, (spl_joinL _ []).1, List.nil_append]
theorem split_ne (z : Str) : Txt.split z " " ≠ [] := fun e => by
  have h := split_tl z
  rw [e] at h
  exact (spl_joinL (TL.tl z) []).2 h.symm
/-- a word, a blank, the rest -/
theorem split_cons {a z : Str} (h : 32 ∉ TL.tl a) : Txt.split (a ++ " " ++ z) " " = a :: Txt.split z " " := by
  refine TL.map_tl_inj ?_
  rw [split_tl, List.map_cons, split_tl, TL.tl_append, TL.tl_append, tl_sp, List.append_assoc]
  rw [show [32] ++ TL.tl z = ([32] : List Nat) ++ TL.tl z from rfl, TL.spl_part1 h, List.nil_append]
theorem split_one {a : Str} (h : 32 ∉ TL.tl a) : Txt.split a " " = [a] := by
  refine TL.map_tl_inj ?_
  rw [split_tl, TL.spl_last1 h, List.nil_append] <;> rfl
theorem strs_sub (zs : List Str) (lo hi : Option Int) : cutD (strsD zs) lo hi = strsD (cutD zs lo hi) := by
  unfold cutD strsD
  rw [List.length_map, ← List.map_drop, ← List.map_take]
section
variable {P : Program} {w : World} {K : PySem.W.Frag} {mg : Str → Option Value} {base : Heap}
abbrev s_is_call : Stmt := top 115
theorem sc_is_call : FnScope ["text", "sign"] ["text"] (defScope s_is_call) := ⟨rfl, rfl, rfl, by decide +kernel, rfl, by decide +kernel, by decide +kernel⟩
theorem ok_is_call (T : Txt w K mg) : Cal P w K mg base CX0 1 "is_call" spIsCall := by
  refine cal_ok T.d_is_call (fun _ _ _ _ _ _ us hl => match us, hl with | [_], _ => rfl) sc_is_call (fun vs H Q E h => ?_) (fun cdv A outer s f H vs Q E hr h => ?_)
  · obtain ⟨_, rfl, _⟩ := h; rfl
  · obtain ⟨z, rfl, hz, k⟩ := h
    refine ⟨_, PSs.nox (pss_cons (ps_if (PW.pt (pw_or (pt_cmpR op_eq (pv 0) pe_str (nomark _)) (pw_or1 (pt_cmpR op_gt (pe_callB call_len_str (by rfl) T.f_len PySem.boot_len (pa_cons (pv 0) pa_nil)) (C8.pe_gc rfl T.g_MOST_SIGNS) (nomark _))))) (pss_one (ps_ret pe_bl)) pss_nil)
      (pss_one (ps_ret (pe_callB (cr_all rfl) (by rfl) T.f_all (by decide +kernel) (pa_cons (pe_lc (own := [("sign", 1)]) rfl sc_is_call.nd (pi_str (pv 0)) (blkOk_by (own := [("sign", 1)]) (N := ["text", "sign"]) (sc := defScope s_is_call) (by decide +kernel)) (fun _ _ _ _ _ => (pg_name (i := 1) sc_is_call.nd rfl (Or.inl rfl))) (fun _ _ _ _ _ => pts_nil) (fun _ _ _ _ _ => (pe_cmpR op_in_sign (pv 1) (C8.pe_gc rfl T.g_SMALL_LETTERS) (by rfl)))) pa_nil))))), ?_⟩
    have hp := hz.pos
    have h8 := hz.le8
    have hzl : z.length ≤ sizeLine := small (by omega)
    refine ⟨_, rfl, rfl, _, rfl, ?_⟩
    rw [decide_eq_false (show ¬ V.str z = V.str "" by intro e; injection e with e; rw [e] at hp; exact absurd hp (by decide))]
    refine iteF ⟨_, rfl, z, rfl, hzl, _, _, rfl, rfl, _, rfl, ?_⟩
    rw [decide_eq_false (show ¬ ((8 : Int) < (z.length : Int)) by omega)]
    refine iteF ⟨_, rfl, _, rfl, fun Dd hD => ?_⟩
    have hsz : z.cps.size = z.length := rfl
    refine lc_gen (H0 := H) (walk_str (z := z)) hD (small (by omega)) (fun _ _ => trivial) (fun i H1 x H2 y => by rw [y.1]; exact Same.refl H1) (fun _ => some (.a (.bl true))) ?_ ?_
    · rintro i x H1 H2 hi s2 ⟨rfl, c, hc, rfl⟩ s1 Kf Kt hf ht
      have hm : c ∈ z.cps.toList := List.mem_of_getElem? (by rw [Array.getElem?_toList]; exact hc)
      have hcs := hz.small c hm
      refine ⟨rfl, _, rfl, c, _, rfl, rfl, ?_⟩
      rw [decide_eq_true (small_mem hcs.1 hcs.2)]
      exact ht (.a (.bl true)) rfl _ _ (Same.refl _) rfl
    · intro Hf sf hlst
      rw [fm_rng] at hlst
      obtain ⟨bv, hbv, rbv⟩ := hlst
      have e : ((List.range z.cps.size).map fun _ => D.a (.bl true)) = (((List.range z.cps.size).map fun _ => true).map V.bl).map D.a := by
        rw [List.map_map, List.map_map] <;> rfl
      rw [e, Reps.atoms] at rbv
      subst rbv
      refine ⟨Dd, _, rfl, SqL.of hbv, ?_⟩
      have e2 : (((List.range z.cps.size).map fun _ => true).all id) = true := by
        rw [List.all_eq_true]
        intro x hx
        obtain ⟨_, _, rfl⟩ := List.mem_map.mp hx
        rfl
      rw [e2]
      exact k Hf sf
abbrev s_taken_apart : Stmt := top 116
theorem sc_taken_apart : FnScope ["row", "texts", "new", "kept", "single_texts", "has_tail", "many"] ["row"] (defScope s_taken_apart) := ⟨rfl, rfl, rfl, by decide +kernel, rfl, by decide +kernel, by decide +kernel⟩
theorem ok_taken_apart (T : Txt w K mg) : Cal P w K mg base CX0 1 "taken_apart" (spTaken K) := by
  refine cal_ok T.d_taken_apart (fun _ _ _ _ _ _ us hl => match us, hl with | [_], _ => rfl) sc_taken_apart (fun vs H Q E h => ?_) (fun cdv A outer s f H vs Q E hr h => ?_)
  · obtain ⟨_, _, _, _, _, _, _, rfl, _⟩ := h; rfl
  · obtain ⟨row, form, n, kn, sn, b, rest, rfl, hrl, hspl, hF, hnk, hb1, hb2, k⟩ := h
    refine ⟨_, PSs.nox (pss_cons (ps_if (pt_not (pt_val (pe_callB (call_isiQ K) (by rfl) T.f_isinstance (by decide +kernel) (pa_cons (pv 0) (pa_cons (pe_bltn (v := .ty "str") rfl T.f_str (by decide +kernel) rfl) pa_nil))))) (pss_one ps_never) pss_nil)
      (pss_cons (ps_set (i := 1) sc_taken_apart.nd rfl (Or.inl rfl) (pe_split (pv 0) pe_str))
      (pss_cons (ps_if (pt_cmpR (op_notInF T) (pe_ix (ix_listQ K) (pv 1) pe_int (fun _ _ => rfl)) (pe_glob (v := .ref (He.ga K "FORMS")) rfl T.g_FORMS rfl) (by rfl)) (pss_one ps_never) pss_nil)
      (pss_cons (ps_asg (pe_ix (ix_kdictQ K w) (pe_glob (v := .ref (He.ga K "FORMS")) rfl T.g_FORMS rfl) (pe_ix (ix_listQ K) (pv 1) pe_int (fun _ _ => rfl)) (fun _ _ => rfl)) (pg_tup (n := 4) rfl (pgs_cons (pg_name (i := 2) sc_taken_apart.nd rfl (Or.inl rfl)) (pgs_cons (pg_name (i := 3) sc_taken_apart.nd rfl (Or.inl rfl)) (pgs_cons (pg_name (i := 4) sc_taken_apart.nd rfl (Or.inl rfl)) (pgs_cons (pg_name (i := 5) sc_taken_apart.nd rfl (Or.inl rfl)) pgs_nil))))))
      (pss_cons (ps_set (i := 6) sc_taken_apart.nd rfl (Or.inl rfl) (pe_op op_add (pe_op op_add pe_int (pv 2)) (pv 3)))
      (pss_cons (ps_if (PW.pt (pw_or (PW.pt (pw_and (pt_val (pv 5)) (pw_and1 (pt_cmpR op_le (pe_callB (call_lenQ K) (by rfl) T.f_len PySem.boot_len (pa_cons (pv 1) pa_nil)) (pv 6) (nomark _))))) (pw_or1 (PW.pt (pw_and (pt_not (pt_val (pv 5))) (pw_and1 (pt_cmpR op_ne (pe_callB (call_lenQ K) (by rfl) T.f_len PySem.boot_len (pa_cons (pv 1) pa_nil)) (pe_op op_add (pv 6) (pv 4)) (nomark _)))))))) (pss_one ps_never) pss_nil)
      (pss_one (ps_ret (pe_tupQ (pa_cons (pe_ix (ix_listQ K) (pv 1) pe_int (fun _ _ => rfl)) (pa_cons (pe_slice (sl_listQ K) (pv 1) (po_some pe_int) (po_some (pv 6))) (pa_cons (pe_join pe_str (pe_slice (sl_listQ K) (pv 1) (po_some (pv 6)) po_none)) pa_nil)))))))))))), ?_⟩
    refine ⟨_, rfl, isi_str ⟨_, rfl, iteF ?_⟩⟩
    refine ⟨_, rfl, ⟨_, rfl⟩, _, _, rfl, rfl, by decide +kernel, Nat.le_of_lt (Nat.lt_of_le_of_lt (show _ ≤ 200002 by omega) (by decide)), ?_⟩
    rw [hspl]
    refine r_strs fun p H1 s1 hp hlp => ?_
    refine ⟨_, rfl, r_ixL 0 hlp rfl fun v hv => ?_⟩
    cases hv
    refine r_notInF hF ⟨_, rfl, iteF ?_⟩
    refine ⟨_, rfl, r_ixL 0 hlp rfl fun v hv => ?_⟩
    cases hv
    refine r_ixF T hF fun fa hfa => ?_
    refine ⟨fa, _, rfl, hfa H1, rfl, _, _, rfl, _, _, rfl, _, _, rfl, _, _, rfl, rfl, ?_⟩
    refine ⟨_, rfl, _, _, rfl, rfl, _, rfl, _, _, rfl, rfl, ?_⟩
    have hlen : ((form :: rest).map fun z => D.a (.str z)).length = rest.length + 1 := by rw [List.length_map, List.length_cons]
    have hmany : (1 : Int) + (n : Int) + (kn : Int) = ((n + kn + 1 : Nat) : Int) := by omega
    have ecut1 : cutD (strsD (form :: rest)) (some 1) (some ((1 : Int) + (n : Int) + (kn : Int))) = strsD (rest.take (n + kn)) := by
      rw [hmany, strs_sub]
      congr 1
      have hle : n + kn ≤ rest.length := by
        cases b with
        | true => have := hb1 rfl; omega
        | false => have := hb2 rfl; omega
      have := cutD_mid (form :: rest) 1 (n + kn + 1) (by rw [List.length_cons]; omega) (by omega)
      refine Eq.trans (show _ = cutD (form :: rest) (some ((1 : Nat) : Int)) (some ((n + kn + 1 : Nat) : Int)) from rfl) (this.trans ?_)
      rw [Nat.add_sub_cancel] <;> rfl
    have ecut2 : cutD (strsD (form :: rest)) (some ((1 : Int) + (n : Int) + (kn : Int))) none = strsD (rest.drop (n + kn)) := by
      rw [hmany, strs_sub]
      congr 1
      have hle : n + kn ≤ rest.length := by
        cases b with
        | true => have := hb1 rfl; omega
        | false => have := hb2 rfl; omega
      rw [cutD_suf (form :: rest) (n + kn + 1) (by rw [List.length_cons]; omega), List.drop_succ_cons]
    have jl : ((rest.drop (n + kn)).map (·.length)).sum + (rest.drop (n + kn)).length * (" " : Str).length ≤ 16777216 := by
      have all : ∀ zs : List Str, (zs.map (·.length)).sum + zs.length ≤ (Txt.join " " zs).length + 1 := by
        intro zs
        rw [TL.len_tl, tl_joinT, tl_sp]
        induction zs with
        | nil => exact Nat.zero_le _
        | cons z zs ih =>
          cases zs with
          | nil =>
            show (z.length + 0) + 1 ≤ (TL.tl z).length + 1
            rw [TL.len_tl]; omega
          | cons y ys =>
            show (z.length + (((y :: ys).map (·.length)).sum)) + ((y :: ys).length + 1) ≤ (TL.tl z ++ ([32] ++ TL.joinL [32] ((y :: ys).map TL.tl))).length + 1
            rw [List.length_append, List.length_append, ← TL.len_tl]
            show _ ≤ z.length + (1 + _) + 1
            omega
      have h1 := all (form :: rest)
      rw [← hspl, join_split] at h1
      rw [hspl, List.map_cons, List.sum_cons, List.length_cons] at h1
      have h2 : ((rest.drop (n + kn)).map (·.length)).sum ≤ (rest.map (·.length)).sum := by
        have e := List.take_append_drop (n + kn) rest
        have h3 : (rest.map (·.length)).sum = ((rest.take (n + kn)).map (·.length)).sum + ((rest.drop (n + kn)).map (·.length)).sum := by
          rw [← List.sum_append, ← List.map_append, e]
        omega
      have h4 : (rest.drop (n + kn)).length ≤ rest.length := by rw [List.length_drop]; omega
      rw [len_sp]
      omega
    cases b with
    | true =>
      have hgt := hb1 rfl
      refine ⟨_, rfl, _, rfl, iteT ?_⟩
      refine ⟨_, rfl, r_lenL hlp ⟨_, rfl, _, _, rfl, rfl, _, rfl, ?_⟩⟩
      rw [hlen, decide_eq_false (by omega)]
      refine iteF ⟨_, rfl, _, rfl, iteF (iteF ?_)⟩
      refine ⟨_, rfl, r_ixL 0 hlp rfl fun v hv => ?_⟩
      cases hv
      refine ⟨_, rfl, _, rfl, _, rfl, _, rfl, r_slL hlp fun q H2 s2 hq hlq => ?_⟩
      rw [show cutD ((form :: rest).map fun z => D.a (.str z)) = cutD (strsD (form :: rest)) from rfl, ecut1] at hlq
      refine ⟨⟨_, rfl⟩, _, rfl, _, rfl, _, rfl, r_slL (hlp.same s2) fun q2 H3 s3 hq2 hlq2 => ?_⟩
      rw [show cutD ((form :: rest).map fun z => D.a (.str z)) = cutD (strsD (form :: rest)) from rfl, ecut2] at hlq2
      obtain ⟨jv, hjv, rjv⟩ := hlq2
      have e5 : strsD (rest.drop (n + kn)) = ((rest.drop (n + kn)).map V.str).map D.a := by unfold strsD; rw [List.map_map] <;> rfl
      rw [e5, Reps.atoms] at rjv
      subst rjv
      refine ⟨_, q2, rest.drop (n + kn), rfl, rfl, .inl (SqL.of hjv), jl, ?_⟩
      refine r_tup (ds := [.a (.str form), .a (.ref q), .a (.str (Txt.join " " (rest.drop (n + kn))))]) (Reps.cons rfl (Reps.cons rfl (Reps.cons rfl Reps.nil))) (small (by simp)) fun v4 H4 s4 h4 => ?_
      exact k q v4 H4 (s1.trans (s2.trans (s3.trans s4))) (by
        cases e2 : H q with
        | none => rfl
        | some o => rw [s1 _ _ e2] at hq; cases hq) (hlq.same (s3.trans s4)) h4
    | false =>
      have hgt := hb2 rfl
      refine ⟨_, rfl, _, rfl, iteF (iteF ?_)⟩
      refine ⟨_, rfl, _, rfl, iteT ?_⟩
      refine ⟨_, rfl, r_lenL hlp ⟨_, rfl, _, rfl, _, _, rfl, rfl, rfl, _, rfl, ?_⟩⟩
      rw [hlen, decide_eq_true (show V.int ((rest.length + 1 : Nat) : Int) = V.int ((1 : Int) + (n : Int) + (kn : Int) + (sn : Int)) by
        congr 1
        omega)]
      refine iteF ?_
      refine ⟨_, rfl, r_ixL 0 hlp rfl fun v hv => ?_⟩
      cases hv
      refine ⟨_, rfl, _, rfl, _, rfl, _, rfl, r_slL hlp fun q H2 s2 hq hlq => ?_⟩
      rw [show cutD ((form :: rest).map fun z => D.a (.str z)) = cutD (strsD (form :: rest)) from rfl, ecut1] at hlq
      refine ⟨⟨_, rfl⟩, _, rfl, _, rfl, _, rfl, r_slL (hlp.same s2) fun q2 H3 s3 hq2 hlq2 => ?_⟩
      rw [show cutD ((form :: rest).map fun z => D.a (.str z)) = cutD (strsD (form :: rest)) from rfl, ecut2] at hlq2
      obtain ⟨jv, hjv, rjv⟩ := hlq2
      have e5 : strsD (rest.drop (n + kn)) = ((rest.drop (n + kn)).map V.str).map D.a := by unfold strsD; rw [List.map_map] <;> rfl
      rw [e5, Reps.atoms] at rjv
      subst rjv
      refine ⟨_, q2, rest.drop (n + kn), rfl, rfl, .inl (SqL.of hjv), jl, ?_⟩
      refine r_tup (ds := [.a (.str form), .a (.ref q), .a (.str (Txt.join " " (rest.drop (n + kn))))]) (Reps.cons rfl (Reps.cons rfl (Reps.cons rfl Reps.nil))) (small (by simp)) fun v4 H4 s4 h4 => ?_
      exact k q v4 H4 (s1.trans (s2.trans (s3.trans s4))) (by
        cases e2 : H q with
        | none => rfl
        | some o => rw [s1 _ _ e2] at hq; cases hq) (hlq.same (s3.trans s4)) h4
end
end L2.Ww
set_option Elab.async false
set_option linter.all false
set_option maxRecDepth 100000
set_option maxHeartbeats 4000000
/-! The desk: made, asked. -/
namespace L2.Ww
open PySem PySem.Spec PyProof.Rows
/-! ### dicts by texts -/
def SDct (H : Hp) (p : Addr) (F : Str → Option D) (n : Nat) : Prop := ∃ kvs, H p = some (.dK kvs) ∧ kvs.length ≤ n ∧ ∀ x, match F x with | none => valV kvs (Sum.inr x) = none | some d => ∃ v, valV kvs (Sum.inr x) = some v ∧ Rep H d v
theorem SDct.up {H H' : Hp} {p : Addr} {F : Str → Option D} {n : Nat} (h : SDct H p F n) (e : H' p = H p) (t : TupLe H H') : SDct H' p F n := by
  obtain ⟨kvs, e1, hl, r⟩ := h
  refine ⟨kvs, by rw [e]; exact e1, hl, fun x => ?_⟩
  have rx := r x
  cases e2 : F x with
  | none => rw [e2] at rx; exact rx
  | some d =>
    rw [e2] at rx
    obtain ⟨v, h1, h2⟩ := rx
    exact ⟨v, h1, h2.up t⟩
theorem SDct.same {H H' : Hp} {p : Addr} {F : Str → Option D} {n : Nat} (s : Same H H') (h : SDct H p F n) : SDct H' p F n := by
  obtain ⟨kvs, e1, _⟩ := id h
  exact h.up ((s _ _ e1).trans e1.symm) (TupLe.of_same s)
theorem SDct.gotS {H : Hp} {p : Addr} {F : Str → Option D} {n : Nat} (h : SDct H p F n) {x : Str} {d : D} (e : F x = some d) : ∃ v, DGet H p (.str x) (some v) ∧ Rep H d v := by
  obtain ⟨kvs, e1, _, r⟩ := h
  have rx := r x
  rw [e] at rx
  obtain ⟨v, h1, h2⟩ := rx
  exact ⟨v, .inl ⟨kvs, Sum.inr x, .inl e1, rfl, h1.symm⟩, h2⟩
theorem SDct.gotN {H : Hp} {p : Addr} {F : Str → Option D} {n : Nat} (h : SDct H p F n) {x : Str} (e : F x = none) : DGet H p (.str x) none := by
  obtain ⟨kvs, e1, _, r⟩ := h
  have rx := r x
  rw [e] at rx
  exact .inl ⟨kvs, Sum.inr x, .inl e1, rfl, rx.symm⟩
def setF {β : Type} (F : Str → Option β) (x : Str) (d : β) : Str → Option β := fun y => if y = x then some d else F y
theorem SDct.put {H : Hp} {p : Addr} {F : Str → Option D} {n : Nat} (h : SDct H p F n) {x : Str} {d : D} {v : V} (hv : Rep H d v) (hl : n < sizeLine) :
    ∃ H', DPut H p (.str x) v H' ∧ (∀ H0 : Hp, H0 p = none → Same H0 H → Same H0 H') ∧ TupLe H H' ∧ (∀ b, b ≠ p → H' b = H b) ∧ SDct H' p (setF F x d) (n + 1) := by
  obtain ⟨kvs, e, hn, r⟩ := h
  refine ⟨_, DPut.k (k := Sum.inr x) e (by omega), fun H0 h0 s => Same.upd s h0, TupLe.upd_dK e, fun b hb => upd_ne hb, _, upd_same, Nat.le_trans (length_putK _ _ _) (by omega), fun y => ?_⟩
  unfold setF
  rw [valV_put]
  by_cases c : y = x
  · subst c
    rw [if_pos rfl, if_pos rfl]
    exact ⟨v, rfl, hv.up (TupLe.upd_dK e)⟩
  · rw [if_neg c, if_neg (fun z => c (by injection z))]
    have ry := r y
    cases e2 : F y with
    | none => rw [e2] at ry; exact ry
    | some d' =>
      rw [e2] at ry
      obtain ⟨u, h1, h2⟩ := ry
      exact ⟨u, h1, h2.up (TupLe.upd_dK e)⟩
theorem SDct.nil {H : Hp} {p : Addr} (h : H p = none) : SDct (upd H p (.dK [])) p (fun _ => none) 0 := ⟨[], upd_same, Nat.le_refl _, fun _ => rfl⟩
/-! ### the desk -/
def deskF (k : V) (ls : Str) (md : Addr) : List (Str × V) := [("kind", k), ("letters", .str ls), ("machines", .ref md)]
def DeskIs (K : PySem.W.Frag) (H : Hp) (d : Addr) (ls : Str) (md : Addr) : Prop := ∃ dx k, H d = some (.ins (He.ga K "Desk") dx (deskF k ls md)) ∧ CostsAt K H k
theorem DeskIs.same {K : PySem.W.Frag} {H H' : Hp} {d : Addr} {ls : Str} {md : Addr} (s : Same H H') (h : DeskIs K H d ls md) : DeskIs K H' d ls md := by
  obtain ⟨dx, k, e, c⟩ := h
  exact ⟨dx, k, s _ _ e, c.same s⟩
inductive MRes where
  | ok (M : Mach)
  | no (c : Str)
inductive Made (ls : Str) : Str → List Mach → Str → MRes → Prop
  | say {w : Str} : LetOk ls → WordOk ls w → Made ls "say" [] ("word " ++ wordT w) (.ok (mSingle ls w))
  | read {M : Mach} : M.WF → LetOk M.ls → MWOk M → M.ls = ls → Made ls "read" [] (machS M) (.ok M)
  | scale {x : Wt} {A : Mach} : WOk x → A.WF → Made ls "scale" [A] (wS x) (.ok (mScale x A))
  | add {A B : Mach} {t : Str} : A.WF → B.WF → A.ls = B.ls → A.st.length + B.st.length ≤ 20 → Made ls "add" [A, B] t (.ok (mAdd A B))
  | addN {A B : Mach} {t : Str} : A.WF → B.WF → A.ls = B.ls → 20 < A.st.length + B.st.length → Made ls "add" [A, B] t (.no "TooGreat")
  | join {A B : Mach} {t : Str} : A.WF → B.WF → A.ls = B.ls → A.st.length + B.st.length ≤ 20 → Made ls "join" [A, B] t (.ok (mJoin A B))
  | joinN {A B : Mach} {t : Str} : A.WF → B.WF → A.ls = B.ls → 20 < A.st.length + B.st.length → Made ls "join" [A, B] t (.no "TooGreat")
  | turn {A : Mach} {t : Str} : A.WF → Made ls "turn" [A] t (.ok (mTurn A))
  | close {A : Mach} {t : Str} : A.WF → wdot A.st A.en = none → A.st.length + 1 ≤ 20 → Made ls "close" [A] t (.ok (mClose A))
  | closeN {A : Mach} {t : Str} : A.WF → wdot A.st A.en = none → 20 < A.st.length + 1 → Made ls "close" [A] t (.no "TooGreat")
  | closeE {A : Mach} {t : Str} : A.WF → wdot A.st A.en ≠ none → Made ls "close" [A] t (.no "NoClosure")
def resS : BF.R → Str
  | .none => "none"
  | .falls => "falls"
  | .least w => intS w
def spMade (K : PySem.W.Frag) : Sp := fun vs H Q E => ∃ d ls md form p ms text r, vs = [.ref d, .str form, .ref p, .str text] ∧ DeskIs K H d ls md ∧ LstAt H p (ms.map dMach) ∧ Made ls form ms text r ∧
  (∀ M, r = .ok M → Gives H (dMach M) Q) ∧ ∀ c, r = .no c → ∀ H', Same H H' → E (.ref (He.ga K c)) none H'
def spAsked (K : PySem.W.Frag) : Sp := fun vs H Q _ => ∃ d ls md p M r t, vs = [.ref d, .str "cheapest", .ref p, .str t] ∧ DeskIs K H d ls md ∧ LstAt H p [dMach M] ∧ M.WF ∧ M.ls.cps.toList.Nodup ∧ BF.ValS (AccM M) r ∧ (∀ x, r = .least x → x.natAbs.log2 < 1920) ∧
  ∀ H', Same H H' → Q (.str (resS r)) H'
theorem isi_costs {w : World} {K : PySem.W.Frag} {mg : Str → Option Value} (T : Txt w K mg) {H : Hp} {Q : VK} {a : Addr} {dx : Addr} {fs : List (Str × V)} (e : H a = some (.ins (He.ga K "Costs") dx fs)) (k : Q (.bl true) H) :
    qIsi K [.ref a, .ref (He.ga K "Costs")] H Q := by
  unfold qIsi
  exact ⟨_, _, _, _, true, rfl, .own _, .base (.ins e T.c_Costs T.ic_Costs T.ec_NoName.hn T.ec_NoName.ht T.m0_Costs.obj), T.i_Costs_Costs, k⟩
theorem str_ne {a b : Str} (h : a ≠ b) : decide (V.str a = V.str b) = false := decide_eq_false fun e => h (by injection e)
theorem str_eq {a : Str} : decide (V.str a = V.str a) = true := decide_eq_true rfl
section
variable {P : Program} {w : World} {K : PySem.W.Frag} {mg : Str → Option Value} {base : Heap}
abbrev s_Desk_asked : Stmt := inClass (top 117) 3
theorem sc_Desk_asked : FnScope ["self", "form", "some", "text", "found"] ["self", "form", "some", "text"] (defScope s_Desk_asked) := ⟨rfl, rfl, rfl, by decide +kernel, rfl, by decide +kernel, by decide +kernel⟩
theorem ok_Desk_asked (T : Txt w K mg) : Met P w K mg base CX0 4 (He.ga K "Desk") "asked" (spAsked K) := by
  refine met_ok T.c_Desk T.d_Desk_asked (fun _ _ _ _ _ _ us hl => match us, hl with | [_, _, _, _], _ => rfl) sc_Desk_asked (fun vs H Q E h => ?_) (fun cdv A outer s f H vs Q E hr h => ?_)
  · obtain ⟨_, _, _, _, _, _, _, rfl, _⟩ := h; rfl
  · obtain ⟨d, ls, md, p, M, r, t, rfl, hd, hp, wM, ndl, hv, hb, k⟩ := h
    refine ⟨_, PSs.nox (pss_cons (ps_if (pt_cmpR op_eq (pv 1) pe_str (nomark _)) (pss_one ps_never) pss_nil)
      (pss_cons (ps_if (pt_cmpR op_eq (pv 1) pe_str (nomark _)) (pss_one ps_never) pss_nil)
      (pss_cons (ps_if (pt_cmpR op_eq (pv 1) pe_str (nomark _)) (pss_one ps_never) pss_nil)
      (pss_cons (ps_if (pt_cmpR op_eq (pv 1) pe_str (nomark _)) (pss_one ps_never) pss_nil)
      (pss_cons (ps_if (pt_not (pt_val (pe_callB (call_isiQ K) (by rfl) T.f_isinstance (by decide +kernel) (pa_cons (pe_fld (pv 0) rfl) (pa_cons (pe_glob (v := .ref (He.ga K "Costs")) rfl T.g_Costs rfl) pa_nil))))) (pss_one ps_never) pss_nil)
      (pss_cons (ps_set (i := 4) sc_Desk_asked.nd rfl (Or.inl rfl) (pe_c0 (ok_cheapest T) hr (by decide) rfl (pa_cons (pe_ix (ix_listQ K) (pv 2) pe_int (fun _ _ => rfl)) pa_nil)))
      (pss_cons (ps_if (pt_cmpR op_eq (pe_ix (ix_tupQ K) (pv 4) pe_int (fun _ _ => rfl)) pe_str (nomark _)) (pss_one (ps_ret (pe_mc (ok_Costs_shown T) hr (by decide) (pe_fld (pv 0) rfl) (pa_cons (pe_ix (ix_tupQ K) (pv 4) pe_int (fun _ _ => rfl)) pa_nil)))) pss_nil)
      (pss_one (ps_ret (pe_ix (ix_tupQ K) (pv 4) pe_int (fun _ _ => rfl))))))))))), ?_⟩
    obtain ⟨dx, kd, hdi, hk⟩ := id hd
    refine ⟨_, rfl, rfl, _, rfl, iteF ⟨_, rfl, rfl, _, rfl, iteF ⟨_, rfl, rfl, _, rfl, iteF ⟨_, rfl, rfl, _, rfl, iteF ?_⟩⟩⟩⟩
    obtain ⟨ka, kdx, rfl, hka⟩ := id hk
    refine ⟨_, rfl, d, _, dx, _, _, rfl, hdi, T.c_Desk, T.n_kind, rfl, isi_costs T hka ⟨_, rfl, iteF ?_⟩⟩
    refine ⟨_, rfl, r_ixL 0 hp rfl fun v hv0 => ?_⟩
    refine ⟨v, M, rfl, hv0, wM, ndl, fun hN => ?_, fun hFl => ?_, fun x hLe => ?_⟩
    · obtain rfl := BF.ValS.uniq hv hN
      intro v1 H1 s1 h1
      refine ⟨_, rfl, r_ixT 0 h1 rfl fun u hu => ?_⟩
      cases hu
      refine ⟨rfl, _, rfl, iteF ?_⟩
      refine ⟨_, rfl, r_ixT 0 h1 rfl fun u hu => ?_⟩
      cases hu
      exact k H1 s1
    · obtain rfl := BF.ValS.uniq hv hFl
      intro d1 d2 d3 v1 H1 s1 h1
      refine ⟨_, rfl, r_ixT 0 h1 rfl fun u hu => ?_⟩
      cases hu
      refine ⟨rfl, _, rfl, iteF ?_⟩
      refine ⟨_, rfl, r_ixT 0 h1 rfl fun u hu => ?_⟩
      cases hu
      exact k H1 s1
    · obtain rfl := BF.ValS.uniq hv hLe
      intro d1 d2 d3 v1 H1 s1 h1
      refine ⟨_, rfl, r_ixT 0 h1 rfl fun u hu => ?_⟩
      cases hu
      refine ⟨rfl, _, rfl, iteT ?_⟩
      refine ⟨_, rfl, d, _, dx, _, _, rfl, s1 _ _ hdi, T.c_Desk, T.n_kind, rfl, ka, kdx, _, rfl, s1 _ _ hka, rfl, _, rfl, r_ixT 1 h1 rfl fun u hu => ?_⟩
      cases hu
      exact ⟨_, some x, rfl, fun y e => by cases e; exact hb x rfl, k H1 s1⟩
abbrev s_Desk_made : Stmt := inClass (top 117) 2
theorem sc_Desk_made : FnScope ["self", "form", "others", "text", "machine"] ["self", "form", "others", "text"] (defScope s_Desk_made) := ⟨rfl, rfl, rfl, by decide +kernel, rfl, by decide +kernel, by decide +kernel⟩
theorem ok_Desk_made (T : Txt w K mg) : Met P w K mg base (L2.CX P w) 6 (He.ga K "Desk") "made" (spMade K) := by
  refine met_ok T.c_Desk T.d_Desk_made (fun _ _ _ _ _ _ us hl => match us, hl with | [_, _, _, _], _ => rfl) sc_Desk_made (fun vs H Q E h => ?_) (fun cdv A outer s f H vs Q E hr h => ?_)
  · obtain ⟨_, _, _, _, _, _, _, _, rfl, _⟩ := h; rfl
  · obtain ⟨d, ls, md, form, p, ms, text, r, rfl, hd, hp, hm, kq, ke⟩ := h
    refine ⟨_, (pss_cons (ps_if (pt_cmpR op_eq (pv 1) pe_str (nomark _)) (pss_one (ps_ret (pe_c0 (ok_built T) hr (by decide) rfl (pa_cons (pe_fld (pv 0) rfl) (pa_cons (pe_fld (pv 0) rfl) (pa_cons (pe_c0 (ok_read_saying T) hr (by decide) rfl (pa_cons (pe_fld (pv 0) rfl) (pa_cons (pe_fld (pv 0) rfl) (pa_cons (pv 3) pa_nil)))) pa_nil)))))) pss_nil)
      (pss_cons (ps_if (pt_cmpR op_eq (pv 1) pe_str (nomark _)) (pss_cons (ps_set (i := 4) sc_Desk_made.nd rfl (Or.inl rfl) (pe_c0 (ok_read_machine T) hr (by decide) rfl (pa_cons (pe_fld (pv 0) rfl) (pa_cons (pv 3) pa_nil))))
      (pss_cons (ps_if (pt_cmpR op_ne (pe_ix (ix_tupQ K) (pv 4) pe_int (fun _ _ => rfl)) (pe_fld (pv 0) rfl) (nomark _)) (pss_one ps_never) pss_nil)
      (pss_one (ps_ret (pv 4))))) pss_nil)
      (pss_cons (ps_if (pt_cmpR op_eq (pv 1) pe_str (nomark _)) (pss_one (ps_ret (pe_c0 (ok_scaled T) hr (by decide) rfl (pa_cons (pe_fld (pv 0) rfl) (pa_cons (pe_mc (ok_Costs_read T) hr (by decide) (pe_fld (pv 0) rfl) (pa_cons (pv 3) pa_nil)) (pa_cons (pe_ix (ix_listQ K) (pv 2) pe_int (fun _ _ => rfl)) pa_nil)))))) pss_nil)
      (pss_cons (ps_if (pt_cmpR op_eq (pv 1) pe_str (nomark _)) (pss_one (ps_ret (pe_cX (ok_added T) (takes_of rfl rfl rfl rfl) hr (by decide) rfl (pa_cons (pe_fld (pv 0) rfl) (pa_cons (pe_ix (ix_listQ K) (pv 2) pe_int (fun _ _ => rfl)) (pa_cons (pe_ix (ix_listQ K) (pv 2) pe_int (fun _ _ => rfl)) pa_nil)))))) pss_nil)
      (pss_cons (ps_if (pt_cmpR op_eq (pv 1) pe_str (nomark _)) (pss_one (ps_ret (pe_cX (ok_joined T) (takes_of rfl rfl rfl rfl) hr (by decide) rfl (pa_cons (pe_fld (pv 0) rfl) (pa_cons (pe_ix (ix_listQ K) (pv 2) pe_int (fun _ _ => rfl)) (pa_cons (pe_ix (ix_listQ K) (pv 2) pe_int (fun _ _ => rfl)) pa_nil)))))) pss_nil)
      (pss_cons (ps_if (pt_cmpR op_eq (pv 1) pe_str (nomark _)) (pss_one ps_never) pss_nil)
      (pss_cons (ps_if (pt_cmpR op_eq (pv 1) pe_str (nomark _)) (pss_one (ps_ret (pe_c0 (ok_turned T) hr (by decide) rfl (pa_cons (pe_fld (pv 0) rfl) (pa_cons (pe_ix (ix_listQ K) (pv 2) pe_int (fun _ _ => rfl)) pa_nil))))) pss_nil)
      (pss_cons (ps_if (pt_cmpR op_eq (pv 1) pe_str (nomark _)) (pss_one (ps_ret (pe_cX (ok_closed T) (takes_of rfl rfl rfl rfl) hr (by decide) rfl (pa_cons (pe_fld (pv 0) rfl) (pa_cons (pe_ix (ix_listQ K) (pv 2) pe_int (fun _ _ => rfl)) pa_nil))))) pss_nil)
      (pss_cons ps_never
      (pss_one ps_never)))))))))), ?_⟩
    obtain ⟨dx, kd, hdi, hk⟩ := id hd
    have sr := Same.refl H
    cases hm with
    | say hl hw =>
      refine ⟨_, rfl, rfl, _, rfl, iteT ?_⟩
      refine ⟨_, rfl, d, _, dx, _, _, rfl, hdi, T.c_Desk, T.n_kind, rfl, _, rfl, d, _, dx, _, _, rfl, hdi, T.c_Desk, T.n_letters, rfl, ?_⟩
      refine ⟨_, rfl, d, _, dx, _, _, rfl, hdi, T.c_Desk, T.n_kind, rfl, _, rfl, d, _, dx, _, _, rfl, hdi, T.c_Desk, T.n_letters, rfl, _, rfl, ?_⟩
      refine ⟨kd, ls, _, rfl, hl, hw, fun v H1 s1 h1 => ?_⟩
      exact ⟨kd, ls, _, v, rfl, hk.same s1, hl, hw, h1, fun v2 H2 s2 h2 => kq _ rfl v2 H2 (s1.trans s2) h2⟩
    | read wM hl hW el =>
      rename_i M
      subst el
      refine ⟨_, rfl, rfl, _, rfl, iteF ⟨_, rfl, rfl, _, rfl, iteT ?_⟩⟩
      refine ⟨_, rfl, d, _, dx, _, _, rfl, hdi, T.c_Desk, T.n_kind, rfl, _, rfl, kd, M, rfl, hk, wM, hl, hW, fun v H1 s1 h1 => ?_⟩
      refine ⟨_, rfl, r_ixT 0 h1 rfl fun u hu => ?_⟩
      cases hu
      refine ⟨_, rfl, d, _, dx, _, _, rfl, s1 _ _ hdi, T.c_Desk, T.n_letters, rfl, rfl, _, rfl, ?_⟩
      rw [str_eq]
      exact iteF ⟨_, rfl, kq _ rfl v H1 s1 h1⟩
    | scale hx wA =>
      rename_i x A'
      refine ⟨_, rfl, rfl, _, rfl, iteF ⟨_, rfl, rfl, _, rfl, iteF ⟨_, rfl, rfl, _, rfl, iteT ?_⟩⟩⟩
      refine ⟨_, rfl, d, _, dx, _, _, rfl, hdi, T.c_Desk, T.n_kind, rfl, ?_⟩
      obtain ⟨ka, kdx, rfl, hka⟩ := id hk
      refine ⟨_, rfl, d, _, dx, _, _, rfl, hdi, T.c_Desk, T.n_kind, rfl, ka, kdx, _, rfl, hka, rfl, _, rfl, _, x, rfl, hx, ?_⟩
      refine ⟨_, rfl, r_ixL 0 hp rfl fun v hv => ?_⟩
      exact ⟨_, x, v, A', rfl, hk, hv, wA.few, kq _ rfl⟩
    | add wA wB el hle =>
      rename_i A' B'
      refine ⟨_, rfl, rfl, _, rfl, iteF ⟨_, rfl, rfl, _, rfl, iteF ⟨_, rfl, rfl, _, rfl, iteF ⟨_, rfl, rfl, _, rfl, iteT ?_⟩⟩⟩⟩
      refine ⟨_, rfl, d, _, dx, _, _, rfl, hdi, T.c_Desk, T.n_kind, rfl, _, rfl, r_ixL 0 hp rfl fun v hv => ⟨_, rfl, r_ixL 1 hp rfl fun u hu => ?_⟩⟩
      exact ⟨kd, v, u, A', B', rfl, hk, hv, hu, wA, wB, el, fun _ => kq _ rfl, fun h => by omega⟩
    | addN wA wB el hgt =>
      rename_i A' B'
      refine ⟨_, rfl, rfl, _, rfl, iteF ⟨_, rfl, rfl, _, rfl, iteF ⟨_, rfl, rfl, _, rfl, iteF ⟨_, rfl, rfl, _, rfl, iteT ?_⟩⟩⟩⟩
      refine ⟨_, rfl, d, _, dx, _, _, rfl, hdi, T.c_Desk, T.n_kind, rfl, _, rfl, r_ixL 0 hp rfl fun v hv => ⟨_, rfl, r_ixL 1 hp rfl fun u hu => ?_⟩⟩
      exact ⟨kd, v, u, A', B', rfl, hk, hv, hu, wA, wB, el, fun h => by omega, fun _ => ke _ rfl⟩
    | join wA wB el hle =>
      rename_i A' B'
      refine ⟨_, rfl, rfl, _, rfl, iteF ⟨_, rfl, rfl, _, rfl, iteF ⟨_, rfl, rfl, _, rfl, iteF ⟨_, rfl, rfl, _, rfl, iteF ⟨_, rfl, rfl, _, rfl, iteT ?_⟩⟩⟩⟩⟩
      refine ⟨_, rfl, d, _, dx, _, _, rfl, hdi, T.c_Desk, T.n_kind, rfl, _, rfl, r_ixL 0 hp rfl fun v hv => ⟨_, rfl, r_ixL 1 hp rfl fun u hu => ?_⟩⟩
      exact ⟨kd, v, u, A', B', rfl, hk, hv, hu, wA, wB, el, fun _ => kq _ rfl, fun h => by omega⟩
    | joinN wA wB el hgt =>
      rename_i A' B'
      refine ⟨_, rfl, rfl, _, rfl, iteF ⟨_, rfl, rfl, _, rfl, iteF ⟨_, rfl, rfl, _, rfl, iteF ⟨_, rfl, rfl, _, rfl, iteF ⟨_, rfl, rfl, _, rfl, iteT ?_⟩⟩⟩⟩⟩
      refine ⟨_, rfl, d, _, dx, _, _, rfl, hdi, T.c_Desk, T.n_kind, rfl, _, rfl, r_ixL 0 hp rfl fun v hv => ⟨_, rfl, r_ixL 1 hp rfl fun u hu => ?_⟩⟩
      exact ⟨kd, v, u, A', B', rfl, hk, hv, hu, wA, wB, el, fun h => by omega, fun _ => ke _ rfl⟩
    | turn wA =>
      rename_i A'
      refine ⟨_, rfl, rfl, _, rfl, iteF ⟨_, rfl, rfl, _, rfl, iteF ⟨_, rfl, rfl, _, rfl, iteF ⟨_, rfl, rfl, _, rfl, iteF ⟨_, rfl, rfl, _, rfl, iteF ⟨_, rfl, rfl, _, rfl, iteF ⟨_, rfl, rfl, _, rfl, iteT ?_⟩⟩⟩⟩⟩⟩⟩
      refine ⟨_, rfl, d, _, dx, _, _, rfl, hdi, T.c_Desk, T.n_kind, rfl, _, rfl, r_ixL 0 hp rfl fun v hv => ?_⟩
      exact ⟨kd, v, A', rfl, hv, wA, kq _ rfl⟩
    | close wA h0 hle =>
      rename_i A'
      refine ⟨_, rfl, rfl, _, rfl, iteF ⟨_, rfl, rfl, _, rfl, iteF ⟨_, rfl, rfl, _, rfl, iteF ⟨_, rfl, rfl, _, rfl, iteF ⟨_, rfl, rfl, _, rfl, iteF ⟨_, rfl, rfl, _, rfl, iteF ⟨_, rfl, rfl, _, rfl, iteF ⟨_, rfl, rfl, _, rfl, iteT ?_⟩⟩⟩⟩⟩⟩⟩⟩
      refine ⟨_, rfl, d, _, dx, _, _, rfl, hdi, T.c_Desk, T.n_kind, rfl, _, rfl, r_ixL 0 hp rfl fun v hv => ?_⟩
      exact ⟨kd, v, A', rfl, hk, hv, wA, fun h => absurd h0 h, fun _ h => by omega, fun _ _ => kq _ rfl⟩
    | closeN wA h0 hgt =>
      rename_i A'
      refine ⟨_, rfl, rfl, _, rfl, iteF ⟨_, rfl, rfl, _, rfl, iteF ⟨_, rfl, rfl, _, rfl, iteF ⟨_, rfl, rfl, _, rfl, iteF ⟨_, rfl, rfl, _, rfl, iteF ⟨_, rfl, rfl, _, rfl, iteF ⟨_, rfl, rfl, _, rfl, iteF ⟨_, rfl, rfl, _, rfl, iteT ?_⟩⟩⟩⟩⟩⟩⟩⟩
      refine ⟨_, rfl, d, _, dx, _, _, rfl, hdi, T.c_Desk, T.n_kind, rfl, _, rfl, r_ixL 0 hp rfl fun v hv => ?_⟩
      exact ⟨kd, v, A', rfl, hk, hv, wA, fun h => absurd h0 h, fun _ _ => ke _ rfl, fun _ h => by omega⟩
    | closeE wA h0 =>
      rename_i A'
      refine ⟨_, rfl, rfl, _, rfl, iteF ⟨_, rfl, rfl, _, rfl, iteF ⟨_, rfl, rfl, _, rfl, iteF ⟨_, rfl, rfl, _, rfl, iteF ⟨_, rfl, rfl, _, rfl, iteF ⟨_, rfl, rfl, _, rfl, iteF ⟨_, rfl, rfl, _, rfl, iteF ⟨_, rfl, rfl, _, rfl, iteT ?_⟩⟩⟩⟩⟩⟩⟩⟩
      refine ⟨_, rfl, d, _, dx, _, _, rfl, hdi, T.c_Desk, T.n_kind, rfl, _, rfl, r_ixL 0 hp rfl fun v hv => ?_⟩
      exact ⟨kd, v, A', rfl, hk, hv, wA, fun _ => ke _ rfl, fun h => absurd h h0, fun h => absurd h h0⟩
end
end L2.Ww
set_option Elab.async false
set_option linter.all false
set_option maxRecDepth 100000
set_option maxHeartbeats 4000000
/-! The desk: made new, say. -/
namespace L2.Ww
open PySem PySem.Spec PyProof.Rows
structure MkC (P : Program) (w : World) (K : PySem.W.Frag) (mg : Str → Option Value) (base : Heap) (k : Nat) (C : Addr) (sp : Sp) : Prop where
  ex : ∃ (f : Addr) (fd : FuncData) (ps : List Str), Mk K C f ∧ FnOk P w K mg base CX0 k f fd ps sp ∧ Binds K fd ps []
theorem pe_mkD {X : Cx} {k j : Nat} {C : Addr} {sp : Sp} {x : Str} {e : Expr} {es : List Expr} {t : TA} {p pos : Pos} (c : MkC X.prog X.w X.K X.mg X.base k C sp) (hr : Room j X.A) (hk : k + 1 ≤ j) (hg : Gl X x) (hm : X.mg x = some (.ref C)) (ha : PA X (e :: es) t)
    (hdb : (x == ("__debug__" : Str)) = false := by decide) (he : starEach (e :: es) X.env = (false, eval e X.env) :: starEach es X.env := by rfl) (hpl : (backTo pos (starEach es X.env)).any (·.1) = false := by rfl) :
    PE X (.Call (.Name x p) (e :: es) [] pos) (tMake C sp [] E0 t) := by
  obtain ⟨f, fd, ps, M, F, b⟩ := c.ex
  exact pe_make M F (hr.mono hk) hg hm b .nil pass0 ha hdb he hpl
def spInit (K : PySem.W.Frag) : Sp := fun vs H Q _ => ∃ x dx k ls, vs = [.ref x, k, .str ls] ∧ H x = some (.ins (He.ga K "Desk") dx []) ∧ CostsAt K H k ∧
  ∀ md H', (∀ b o, b ≠ x → H b = some o → H' b = some o) → H' x = some (.ins (He.ga K "Desk") dx (deskF k ls md)) → H md = none → SDct H' md (fun _ => none) 0 → Q .non H'
inductive SRes where
  | put (new : Str) (M : Mach)
  | no (c : Str)
  | told (r : BF.R)
def SRes.n : SRes → Nat
  | .told _ => 0
  | _ => 1
inductive Said (ls : Str) (G : Str → Option Mach) : Str → List Str → Str → SRes → Prop
  | put {form new text : Str} {olds : List Str} {ms : List Mach} {M : Mach} : olds.map G = ms.map some → Made ls form ms text (.ok M) → Said ls G form (new :: olds) text (.put new M)
  | no {form new text c : Str} {olds : List Str} {ms : List Mach} : olds.map G = ms.map some → Made ls form ms text (.no c) → Said ls G form (new :: olds) text (.no c)
  | lack {form new text : Str} {olds : List Str} : (∃ o ∈ olds, G o = none) → Said ls G form (new :: olds) text (.no "NoName")
  | told {o text : Str} {M : Mach} {r : BF.R} : G o = some M → M.WF → M.ls.cps.toList.Nodup → BF.ValS (AccM M) r → (∀ x, r = .least x → x.natAbs.log2 < 1920) → Said ls G "cheapest" [o] text (.told r)
theorem Said.lacks {ls : Str} {G : Str → Option Mach} {form text : Str} {names : List Str} {res : SRes} (h : Said ls G form names text res) {j : Nat} {nm : Str} (hj : names[j]? = some nm) (hn : res.n ≤ j) (hG : G nm = none) : res = .no "NoName" := by
  have known : ∀ {olds : List Str} {ms : List Mach}, olds.map G = ms.map some → nm ∈ olds → False := fun {olds ms} e hm => by
    have : G nm ∈ olds.map G := List.mem_map.mpr ⟨nm, hm, rfl⟩
    rw [e, hG] at this
    obtain ⟨_, _, e2⟩ := List.mem_map.mp this
    cases e2
  have tailm : ∀ {new : Str} {olds : List Str}, (new :: olds)[j]? = some nm → 1 ≤ j → nm ∈ olds := fun {new olds} h1 h2 => by
    cases j with
    | zero => omega
    | succ j => exact List.mem_of_getElem? (i := j) (by simpa using h1)
  cases h with
  | put e _ => exact (known e (tailm hj hn)).elim
  | no e _ => exact (known e (tailm hj hn)).elim
  | lack _ => rfl
  | told e _ _ _ _ =>
    cases j with
    | zero => cases hj; rw [hG] at e; cases e
    | succ j => simp at hj
def spSay (K : PySem.W.Frag) : Sp := fun vs H Q E => ∃ d ls md G cnt row form n k s b rest res, vs = [.ref d, .str row] ∧ DeskIs K H d ls md ∧ SDct H md (fun x => (G x).map dMach) cnt ∧ cnt ≤ 100 ∧ row.length ≤ 200000 ∧
  Txt.split row " " = form :: rest ∧ FormAt K form n k s b ∧ n + k ≤ 10 ∧ (b = true → n + k < rest.length) ∧ (b = false → rest.length = n + k + s) ∧ (∀ z ∈ rest.take (n + k), NameOk z) ∧ n = res.n ∧
  Said ls G form (rest.take (n + k)) (Txt.join " " (rest.drop (n + k))) res ∧
  (∀ new M, res = .put new M → ∀ H', (∀ b o, b ≠ md → H b = some o → H' b = some o) → SDct H' md (fun x => (setF G new M x).map dMach) (cnt + 1) → Q (.str "ok") H') ∧
  (∀ c, res = .no c → ∀ H', Same H H' → E (.ref (He.ga K c)) none H') ∧ ∀ r, res = .told r → ∀ H', Same H H' → Q (.str (resS r)) H'
theorem setF_map {G : Str → Option Mach} {new : Str} {M : Mach} : setF (fun x => (G x).map dMach) new (dMach M) = fun x => (setF G new M x).map dMach := by
  funext x
  unfold setF
  split <;> rfl
section
variable {P : Program} {w : World} {K : PySem.W.Frag} {mg : Str → Option Value} {base : Heap}
abbrev s_Desk_init : Stmt := inClass (top 117) 0
theorem sc_Desk_init : FnScope ["self", "kind", "letters"] ["self", "kind", "letters"] (defScope s_Desk_init) := ⟨rfl, rfl, rfl, by decide +kernel, rfl, by decide +kernel, by decide +kernel⟩
theorem mk_Desk (T : Txt w K mg) : MkC P w K mg base 1 (He.ga K "Desk") (spInit K) := by
  obtain ⟨fd, F⟩ := T.d_Desk_init
  refine ⟨_, fd, ["self", "kind", "letters"], T.k_Desk, F.ok sc_Desk_init (fun vs H Q E h => ?_) (fun cdv A outer s H vs Q E hr h => ?_), F.bindsN (fun _ _ _ _ _ _ us hl => match us, hl with | [_, _, _], _ => rfl)⟩
  · obtain ⟨_, _, _, _, rfl, _⟩ := h; rfl
  · obtain ⟨x, dx, kd, ls, rfl, hx, hk, k⟩ := h
    refine ⟨_, PSs.nox (pss_cons (ps_fld (pv 0) (pv 1) rfl)
      (pss_cons (ps_fld (pv 0) (pv 2) rfl)
      (pss_one (ps_fld (pv 0) pe_dnewK rfl)))), ?_⟩
    refine ⟨_, rfl, _, rfl, x, _, dx, _, rfl, hx, T.c_Desk, T.n_kind, by decide, ?_⟩
    refine ⟨_, rfl, _, rfl, x, _, dx, _, rfl, upd_same, T.c_Desk, T.n_letters, (by show 1 < 1000; decide), ?_⟩
    intro md hmd
    have hxm : x ≠ md := fun e => by rw [e, upd_same] at hmd; cases hmd
    refine ⟨_, rfl, x, _, dx, _, rfl, by rw [upd_ne hxm]; exact upd_same, T.c_Desk, T.n_machines, (by show 2 < 1000; decide), ?_⟩
    refine k md _ (fun b o hb e => ?_) upd_same ?_ ?_
    · have hbm : b ≠ md := fun e2 => by
        rw [e2] at e hb
        rw [upd_ne hb, upd_ne hb, e] at hmd
        cases hmd
      rw [upd_ne hb, upd_ne hbm, upd_ne hb, upd_ne hb]
      exact e
    · rw [upd_ne (fun e => hxm e.symm), upd_ne (fun e => hxm e.symm)] at hmd
      exact hmd
    · refine ⟨[], ?_, Nat.le_refl _, fun _ => rfl⟩
      rw [upd_ne (fun e => hxm e.symm)]
      exact upd_same
abbrev s_Desk_say : Stmt := inClass (top 117) 1
theorem sc_Desk_say : FnScope ["self", "row", "form", "names", "text", "k", "name", "others"] ["self", "row"] (defScope s_Desk_say) := ⟨rfl, rfl, rfl, by decide +kernel, rfl, by decide +kernel, by decide +kernel⟩
theorem ok_Desk_say (T : Txt w K mg) : Met P w K mg base (L2.CX P w) 7 (He.ga K "Desk") "say" (spSay K) := by
  refine met_ok T.c_Desk T.d_Desk_say (fun _ _ _ _ _ _ us hl => match us, hl with | [_, _], _ => rfl) sc_Desk_say (fun vs H Q E h => ?_) (fun cdv A outer s f H vs Q E hr h => ?_)
  · obtain ⟨_, _, _, _, _, _, _, _, _, _, _, _, _, rfl, _⟩ := h; rfl
  · obtain ⟨d, ls, md, G, cnt, row, form, n, kn, sn, b, rest, res, rfl, hd, hG, hcnt, hrl, hspl, hF, hnk, hb1, hb2, hnm, hn, hsaid, kput, kno, ktold⟩ := h
    refine ⟨_, (pss_cons (ps_asg (pe_c0 (ok_taken_apart T) hr (by decide) rfl (pa_cons (pv 1) pa_nil)) (pg_tup (n := 3) rfl (pgs_cons (pg_name (i := 2) sc_Desk_say.nd rfl (Or.inl rfl)) (pgs_cons (pg_name (i := 3) sc_Desk_say.nd rfl (Or.inl rfl)) (pgs_cons (pg_name (i := 4) sc_Desk_say.nd rfl (Or.inl rfl)) pgs_nil)))))
      (pss_cons (ps_for (passes_of rfl) rfl (pi_enum rfl T.f_enumerate (pa_cons (pv 3) pa_nil)) (pg_tup (n := 2) rfl (pgs_cons (pg_name (i := 5) sc_Desk_say.nd rfl (Or.inl rfl)) (pgs_cons (pg_name (i := 6) sc_Desk_say.nd rfl (Or.inl rfl)) pgs_nil)))
      (pss_one (ps_if (PW.pt (pw_or (pt_not (pt_val (pe_c0 (ok_is_call T) hr (by decide) rfl (pa_cons (pv 6) pa_nil)))) (pw_or1 (PW.pt (pw_and (pt_cmpR op_ge (pv 5) (pe_ix (ix_tupQ K) (pe_ix (ix_kdictQ K w) (pe_glob (v := .ref (He.ga K "FORMS")) rfl T.g_FORMS rfl) (pv 2) (fun _ _ => rfl)) pe_int (fun _ _ => rfl)) (nomark _)) (pw_and1 (pt_cmp (pc_dnotin (hu_of hr) (pv 6) (pe_fld (pv 0) rfl))))))))) (pss_one (ps_raise rfl (takes_of rfl rfl rfl rfl) (pmk_own PySem.F.excBase_ValueError T.x_NoName T.g_NoName T.kp_NoName (raises_own T.b_NoName T.t_NoName) rfl))) pss_nil)))
      (pss_cons (ps_if (pt_cmpR op_eq (pe_ix (ix_tupQ K) (pe_ix (ix_kdictQ K w) (pe_glob (v := .ref (He.ga K "FORMS")) rfl T.g_FORMS rfl) (pv 2) (fun _ _ => rfl)) pe_int (fun _ _ => rfl)) pe_int (nomark _)) (pss_one (ps_ret (pe_mc (ok_Desk_asked T) hr (by decide) (pv 0) (pa_cons (pv 2) (pa_cons (pe_lc (own := [("name", 6)]) rfl sc_Desk_say.nd (pi_list (pv 3)) (blkOk_by (own := [("name", 6)]) (N := ["self", "row", "form", "names", "text", "k", "name", "others"]) (sc := defScope s_Desk_say) (by decide +kernel)) (fun _ _ _ _ _ => (pg_name (i := 6) sc_Desk_say.nd rfl (Or.inl rfl))) (fun _ _ _ _ _ => pts_nil) (fun _ _ _ _ _ => (pe_dget (hu_of hr) (pe_fldK K (pv 0) rfl) (pv 6) (fun _ _ => rfl)))) (pa_cons (pv 4) pa_nil)))))) pss_nil)
      (pss_cons (ps_setLc (i := 7) rfl sc_Desk_say.nd rfl rfl (sw_true rfl rfl rfl (by decide +kernel)) (own := [("name", 6)]) (pi_list (pe_slice (sl_listQ K) (pv 3) (po_some pe_int) po_none)) (blkOk_by (own := [("name", 6)]) (N := ["self", "row", "form", "names", "text", "k", "name", "others"]) (sc := defScope s_Desk_say) (by decide +kernel)) (fun _ _ _ _ _ => (pg_name (i := 6) sc_Desk_say.nd rfl (Or.inl rfl))) (fun _ _ _ _ _ => pts_nil) (fun _ _ _ _ _ => (pe_dget (hu_of hr) (pe_fldK K (pv 0) rfl) (pv 6) (fun _ _ => rfl))))
      (pss_cons (ps_dput (hu_of hr) (pe_fld (pv 0) rfl) (pe_ix (ix_listQ K) (pv 3) pe_int (fun _ _ => rfl)) (pe_m0X (ok_Desk_made T) (takes_of rfl rfl rfl rfl) hr (by decide) (pv 0) (pa_cons (pv 2) (pa_cons (pv 7) (pa_cons (pv 4) pa_nil)))) rfl)
      (pss_one (ps_ret pe_str))))))), ?_⟩
    obtain ⟨dx, kd, hdi, hk⟩ := id hd
    refine ⟨_, rfl, row, form, n, kn, sn, b, rest, rfl, hrl, hspl, hF, hnk, hb1, hb2, fun p v H1 s1 hp hlp hv => ?_⟩
    obtain ⟨T0, vs0, rfl, hT, r0⟩ := hv
    obtain ⟨v1, r1, e1, h1, r0⟩ := r0
    obtain ⟨v2, r2, e2, h2, r0⟩ := r0
    obtain ⟨v3, r3, e3, h3, r0⟩ := r0
    cases h1
    cases h2
    cases h3
    cases r0
    subst e3 e2 e1
    refine ⟨T0, _, rfl, SqT.of hT, rfl, _, _, rfl, _, _, rfl, _, _, rfl, rfl, ?_⟩
    generalize hnames : rest.take (n + kn) = names at hlp hnm hsaid
    generalize Txt.join " " (rest.drop (n + kn)) = text at hsaid hT
    have hnl : names.length ≤ 10 := by rw [← hnames, List.length_take]; omega
    obtain ⟨pv, hpv, rpv⟩ := id hlp
    have e5 : strsD names = (names.map V.str).map D.a := by unfold strsD; rw [List.map_map] <;> rfl
    rw [e5, Reps.atoms] at rpv
    subst rpv
    have hG1 : ∀ {H' : Hp}, Same H H' → SDct H' md (fun x => (G x).map dMach) cnt := fun s => hG.same s
    refine ⟨_, rfl, p, _, rfl, SqL.of hpv, for_it (walk_enum (xs := names.map V.str)) (fun i σ H4 => ∃ y5 y6, σ = [some (.ref d), some (.str row), some (.str form), some (.ref p), some (.str text), y5, y6, none] ∧ Same H1 H4 ∧ ∀ j nm, j < i → n ≤ j → names[j]? = some nm → G nm ≠ none)
      ⟨none, none, rfl, Same.refl _, fun j nm hj => by omega⟩ (fun i σ H4 _ ⟨_, _, _, s4, _⟩ => SqL.of (s4 _ _ hpv)) ?_ ?_⟩
    · rintro i z σ H4 H5 hi ⟨y5, y6, rfl, s4, hno⟩ ⟨T1, u, v, rfl, hT1, rfl, hu1, hv1⟩
      cases hu1
      have hv2 : (names.map V.str)[i]? = some v := hv1
      rw [List.getElem?_map, Option.map_eq_some_iff] at hv2
      obtain ⟨nm, hnm1, rfl⟩ := hv2
      have s5 : Same H1 (upd H4 T1 (.tup [.int (i : Int), .str nm])) := s4.trans (Same.upd' hT1)
      refine ⟨T1, _, rfl, SqT.of upd_same, rfl, _, _, rfl, _, _, rfl, rfl, ?_⟩
      generalize upd H4 T1 (.tup [.int (i : Int), .str nm]) = H5 at s5
      refine ⟨_, rfl, nm, rfl, hnm nm (List.mem_of_getElem? hnm1), fun H6 s6 => ⟨_, rfl, iteF ?_⟩⟩
      have s16 := s5.trans s6
      refine ⟨_, rfl, _, rfl, r_ixF T hF fun fa hfa => r_ixSq 0 (hfa H6) rfl ⟨_, _, rfl, rfl, _, rfl, ?_⟩⟩
      have ext : (∀ j nm', j < i + 1 → n ≤ j → names[j]? = some nm' → G nm' ≠ none) → ∃ y5 y6, [some (V.ref d), some (.str row), some (.str form), some (.ref p), some (.str text), some (.int (i : Int)), some (.str nm), none] = [some (.ref d), some (.str row), some (.str form), some (.ref p), some (.str text), y5, y6, none] ∧ Same H1 H6 ∧ ∀ j nm, j < i + 1 → n ≤ j → names[j]? = some nm → G nm ≠ none := fun h => ⟨_, _, rfl, s16, h⟩
      refine ite2 (fun hc => ?_) (fun hc => ?_)
      · have hc2 : n ≤ i := by have := of_decide_eq_true hc; omega
        refine ⟨_, rfl, _, rfl, d, _, dx, _, _, rfl, (s1.trans s16) _ _ hdi, T.c_Desk, T.n_machines, rfl, ?_⟩
        cases e1 : G nm with
        | none =>
          refine ⟨md, _, rfl, (hG1 (s1.trans s16)).gotN (by show (G nm).map dMach = none; rw [e1]; rfl), _, rfl, iteT ?_⟩
          exact kno "NoName" (hsaid.lacks hnm1 (by rw [← hn]; exact hc2) e1) H6 (s1.trans s16)
        | some M =>
          obtain ⟨mv, gm, _⟩ := (hG1 (s1.trans s16)).gotS (x := nm) (d := dMach M) (by show (G nm).map dMach = _; rw [e1]; rfl)
          refine ⟨md, _, rfl, gm, _, rfl, iteF (ext fun j nm' hj hnj hjn => ?_)⟩
          by_cases e : j = i
          · subst e
            rw [hnm1] at hjn
            cases hjn
            rw [e1]; exact fun z => nomatch z
          · exact hno j nm' (by omega) hnj hjn
      · have hc2 : i < n := by
          have : ¬ ((n : Int) ≤ (i : Int)) := fun z => hc (decide_eq_true z)
          omega
        exact iteF (ext fun j nm' hj hnj hjn => by omega)
    · rintro σ H4 ⟨y5, y6, rfl, s4, hall⟩
      rw [List.length_map] at hall
      have s14 := s1.trans s4
      have hlp4 := hlp.same s4
      refine ⟨_, rfl, r_ixF T hF fun fa hfa => r_ixSq 0 (hfa H4) rfl ⟨rfl, _, rfl, ?_⟩⟩
      cases hsaid with
      | told hGo wM ndl hval hbd =>
        rename_i o M r
        have hn0 : n = 0 := hn
        subst hn0
        refine iteT ?_
        refine ⟨_, rfl, d, dx, _, rfl, s14 _ _ hdi, rfl, _, rfl, ?_⟩
        refine ⟨_, rfl, p, rfl, ⟨_, SqL.of (s4 _ _ hpv)⟩, fun Dd hD => ?_⟩
        refine lc_gen (H0 := H4) (walk_list (xs := [V.str o])) hD (small (by simp)) (fun H5 s5 => SqL.of (s5 _ _ (s4 _ _ hpv))) same_YAt (fun i => some (dMach M)) ?_ ?_
        · rintro i z H5 H6 hi s6 ⟨rfl, hz⟩ s5 Kf Kt hf ht
          have hi0 : i = 0 := by simpa using hi
          subst hi0
          cases hz
          obtain ⟨mv, gm, rm⟩ := (hG1 (s14.trans s6)).gotS (x := o) (d := dMach M) (by show (G o).map dMach = _; rw [hGo]; rfl)
          exact ⟨rfl, _, rfl, d, _, dx, _, _, rfl, (s14.trans s6) _ _ hdi, T.c_Desk, T.n_machines, rfl, _, rfl, md, mv, rfl, gm, ht (dMach M) rfl _ _ (Same.refl _) rm⟩
        · intro Hf sf hlst
          have e6 : (List.range ([V.str o] : List V).length).filterMap (fun _ => some (dMach M)) = [dMach M] := rfl
          rw [e6] at hlst
          refine ⟨_, rfl, d, ls, md, Dd, M, r, text, rfl, hd.same (s14.trans sf), hlst, wM, ndl, hval, hbd, fun H7 s7 => ?_⟩
          exact ktold r rfl H7 (s14.trans (sf.trans s7))
      | lack hl =>
        obtain ⟨o, ho, hGo⟩ := hl
        rename_i new olds
        obtain ⟨j, hj, hj2⟩ := List.mem_iff_getElem.mp ho
        have hn1 : n = 1 := hn
        exact absurd hGo (hall (j + 1) o (by rw [List.length_cons]; omega) (by omega) (by rw [List.getElem?_cons_succ, List.getElem?_eq_getElem hj, hj2]))
      | put he hm =>
        rename_i new olds ms M
        have hn1 : n = 1 := hn
        subst hn1
        refine iteF ?_
        refine ⟨_, rfl, _, rfl, r_slL (hi := none) (lo := some 1) hlp4 fun q H5 s5 hq hlq => ?_⟩
        have ecut : cutD (strsD (new :: olds)) (some 1) none = (olds.map V.str).map D.a := by
          rw [strs_sub]
          have := cutD_suf (new :: olds) 1 (by rw [List.length_cons]; omega)
          rw [show cutD (new :: olds) (some 1) none = (new :: olds).drop 1 from this]
          show strsD olds = _
          unfold strsD
          rw [List.map_map] <;> rfl
        rw [ecut] at hlq
        obtain ⟨qv, hqv, rqv⟩ := hlq
        rw [Reps.atoms] at rqv
        subst rqv
        have s15 := s14.trans s5
        have hol : olds.length = ms.length := by
          have := congrArg List.length he
          rw [List.length_map, List.length_map] at this
          exact this
        refine ⟨q, rfl, ⟨_, SqL.of hqv⟩, fun Dd hD => ?_⟩
        refine lc_gen (H0 := H5) (walk_list (xs := olds.map V.str)) hD (small (by rw [List.length_map]; rw [List.length_cons] at hnl; omega)) (fun H6 s6 => SqL.of (s6 _ _ hqv)) same_YAt (fun i => (ms[i]?).map dMach) ?_ ?_
        · rintro i z H6 H7 hi s7 ⟨rfl, hz⟩ s6 Kf Kt hf ht
          rw [List.getElem?_map, Option.map_eq_some_iff] at hz
          obtain ⟨o, ho, rfl⟩ := hz
          have hGm : (olds.map G)[i]? = (ms.map some)[i]? := by rw [he]
          rw [List.getElem?_map, ho, List.getElem?_map] at hGm
          obtain ⟨Mi, hMi, hGo⟩ : ∃ Mi, ms[i]? = some Mi ∧ G o = some Mi := by
            cases e3 : ms[i]? with
            | none => rw [e3] at hGm; cases hGm
            | some Mi =>
              rw [e3] at hGm
              exact ⟨Mi, rfl, Option.some.inj hGm⟩
          obtain ⟨mv, gm, rm⟩ := (hG1 (s15.trans s7)).gotS (x := o) (d := dMach Mi) (by show (G o).map dMach = _; rw [hGo]; rfl)
          exact ⟨rfl, _, rfl, d, _, dx, _, _, rfl, (s15.trans s7) _ _ hdi, T.c_Desk, T.n_machines, rfl, _, rfl, md, mv, rfl, gm, ht (dMach Mi) (by rw [hMi] <;> rfl) _ _ (Same.refl _) rm⟩
        · intro Hf sf hlst
          rw [List.length_map, hol, fm_map] at hlst
          have s1f := s15.trans sf
          refine ⟨_, rfl, d, dx, _, rfl, s1f _ _ hdi, rfl, _, rfl, _, rfl, _, rfl, ?_⟩
          refine ⟨d, ls, md, form, Dd, ms, text, .ok M, rfl, hd.same s1f, hlst, hm, fun M' e7 vM H7 s7 hvM => ?_, fun c e7 => by cases e7⟩
          cases e7
          have s17 := s1f.trans s7
          refine ⟨_, rfl, d, _, dx, _, _, rfl, s17 _ _ hdi, T.c_Desk, T.n_machines, rfl, ?_⟩
          refine ⟨_, rfl, r_ixL 0 (hlp.same (s4.trans (s5.trans (sf.trans s7)))) rfl fun v hv => ?_⟩
          cases hv
          obtain ⟨H8, dp, k8, t8, o8, d8⟩ := (hG1 s17).put (x := new) hvM (Nat.lt_of_le_of_lt hcnt (by decide))
          refine ⟨md, H8, rfl, dp, ?_⟩
          rw [setF_map] at d8
          exact kput new M rfl H8 (fun b o hb e => by rw [o8 b hb]; exact s17 _ _ e) d8
      | no he hm =>
        rename_i new c olds ms
        have hn1 : n = 1 := hn
        subst hn1
        refine iteF ?_
        refine ⟨_, rfl, _, rfl, r_slL (hi := none) (lo := some 1) hlp4 fun q H5 s5 hq hlq => ?_⟩
        have ecut : cutD (strsD (new :: olds)) (some 1) none = (olds.map V.str).map D.a := by
          rw [strs_sub]
          have := cutD_suf (new :: olds) 1 (by rw [List.length_cons]; omega)
          rw [show cutD (new :: olds) (some 1) none = (new :: olds).drop 1 from this]
          show strsD olds = _
          unfold strsD
          rw [List.map_map] <;> rfl
        rw [ecut] at hlq
        obtain ⟨qv, hqv, rqv⟩ := hlq
        rw [Reps.atoms] at rqv
        subst rqv
        have s15 := s14.trans s5
        have hol : olds.length = ms.length := by
          have := congrArg List.length he
          rw [List.length_map, List.length_map] at this
          exact this
        refine ⟨q, rfl, ⟨_, SqL.of hqv⟩, fun Dd hD => ?_⟩
        refine lc_gen (H0 := H5) (walk_list (xs := olds.map V.str)) hD (small (by rw [List.length_map]; rw [List.length_cons] at hnl; omega)) (fun H6 s6 => SqL.of (s6 _ _ hqv)) same_YAt (fun i => (ms[i]?).map dMach) ?_ ?_
        · rintro i z H6 H7 hi s7 ⟨rfl, hz⟩ s6 Kf Kt hf ht
          rw [List.getElem?_map, Option.map_eq_some_iff] at hz
          obtain ⟨o, ho, rfl⟩ := hz
          have hGm : (olds.map G)[i]? = (ms.map some)[i]? := by rw [he]
          rw [List.getElem?_map, ho, List.getElem?_map] at hGm
          obtain ⟨Mi, hMi, hGo⟩ : ∃ Mi, ms[i]? = some Mi ∧ G o = some Mi := by
            cases e3 : ms[i]? with
            | none => rw [e3] at hGm; cases hGm
            | some Mi =>
              rw [e3] at hGm
              exact ⟨Mi, rfl, Option.some.inj hGm⟩
          obtain ⟨mv, gm, rm⟩ := (hG1 (s15.trans s7)).gotS (x := o) (d := dMach Mi) (by show (G o).map dMach = _; rw [hGo]; rfl)
          exact ⟨rfl, _, rfl, d, _, dx, _, _, rfl, (s15.trans s7) _ _ hdi, T.c_Desk, T.n_machines, rfl, _, rfl, md, mv, rfl, gm, ht (dMach Mi) (by rw [hMi] <;> rfl) _ _ (Same.refl _) rm⟩
        · intro Hf sf hlst
          rw [List.length_map, hol, fm_map] at hlst
          have s1f := s15.trans sf
          refine ⟨_, rfl, d, dx, _, rfl, s1f _ _ hdi, rfl, _, rfl, _, rfl, _, rfl, ?_⟩
          refine ⟨d, ls, md, form, Dd, ms, text, .no c, rfl, hd.same s1f, hlst, hm, (fun M' e7 => by cases e7), fun c' e7 H7 s7 => ?_⟩
          cases e7
          exact kno c rfl H7 (s1f.trans s7)
end
end L2.Ww
set_option Elab.async false
set_option linter.all false
set_option maxRecDepth 100000
set_option maxHeartbeats 4000000
/-! The law: the state of its draws. -/
namespace L2.Ww
open PySem PySem.Spec PyProof.Rows
/-- the state: one int or two -/
def StAt (H : Hp) (sp : Addr) : Prop := ∃ xs : List Int, (xs.length = 1 ∨ xs.length = 2) ∧ H sp = some (.lst (xs.map V.int))
/-- all but the state stands -/
def FrS (sp : Addr) (H H' : Hp) : Prop := (∀ b o, b ≠ sp → H b = some o → H' b = some o) ∧ StAt H' sp
theorem FrS.refl {sp : Addr} {H : Hp} (h : StAt H sp) : FrS sp H H := ⟨fun _ _ _ e => e, h⟩
theorem FrS.trans {sp : Addr} {H H1 H2 : Hp} (a : FrS sp H H1) (b : FrS sp H1 H2) : FrS sp H H2 := ⟨fun c o hc e => b.1 c o hc (a.1 c o hc e), b.2⟩
theorem StAt.same {sp : Addr} {H H' : Hp} (s : Same H H') (h : StAt H sp) : StAt H' sp := by
  obtain ⟨xs, hl, e⟩ := h
  exact ⟨xs, hl, s _ _ e⟩
theorem FrS.of {sp : Addr} {H H' : Hp} (h : StAt H sp) (s : Same H H') : FrS sp H H' := ⟨fun c o _ e => s c o e, h.same s⟩
theorem FrS.tup {sp : Addr} {H H' : Hp} (h : StAt H sp) (f : FrS sp H H') : TupLe H H' := fun p vs e => f.1 p _ (fun e2 => by
  obtain ⟨xs, _, e3⟩ := h
  rw [e2, e3] at e; cases e) e
theorem FrS.lst {sp p : Addr} {H H' : Hp} {ds : List D} (h : StAt H sp) (f : FrS sp H H') (hp : p ≠ sp) (l : LstAt H p ds) : LstAt H' p ds := by
  obtain ⟨vs, e, r⟩ := l
  exact ⟨vs, f.1 p _ hp e, r.up (f.tup h)⟩
theorem StAt.ne {sp p : Addr} {H : Hp} (h : StAt H sp) (e : H p = none) : p ≠ sp := fun e2 => by
  obtain ⟨xs, _, e3⟩ := h
  rw [e2, e3] at e; cases e
def spState : Sp := fun vs H Q _ => ∃ p ns K, vs = [.ref p] ∧ SqL K H p ((ns : List Int).map V.int) ∧ ns.length ≤ 63 ∧ ∀ sp H', Same H H' → H sp = none → StAt H' sp → Q (.ref sp) H'
def spNext : Sp := fun vs H Q _ => ∃ sp, ∃ m : Nat, vs = [.ref sp, .int (m : Int)] ∧ StAt H sp ∧ 0 < m ∧ m < 1073741824 ∧ ∀ H' (x : Nat), FrS sp H H' → x < m → Q (.int (x : Int)) H'
def spLRooms : Sp := fun vs H Q _ => ∃ sp, vs = [.ref sp, .int 4, .int 8] ∧ StAt H sp ∧ ∀ H' (x : Nat), FrS sp H H' → x < 8 → Q (.int (x : Int)) H'
def FarOk (x : Int) : Prop := 0 < x ∧ x ≤ 10 ^ 27 + 1
def spFar : Sp := fun vs H Q _ => ∃ sp, vs = [.ref sp] ∧ StAt H sp ∧ ∀ H' x, FrS sp H H' → FarOk x → Q (.int x) H'
/-- a drawn weight -/
def WDr (x : Wt) : Prop := ∀ y, x = some y → y.natAbs ≤ 8 * (10 ^ 27 + 1)
theorem WDr.ok {x : Wt} (h : WDr x) : WOk x := fun y e => Nat.lt_of_le_of_lt (h y e) (by decide)
def spCosts : Sp := fun vs H Q _ => ∃ sp far, ∃ m : Nat, vs = [.ref sp, .int far, .int (m : Int)] ∧ StAt H sp ∧ FarOk far ∧ m ≤ 20 ∧ ∀ H' r v, FrS sp H H' → r.length = m → (∀ x ∈ r, WDr x) → Rep H' (dRow r) v → Q v H'
theorem small_mul {far : Int} (h : FarOk far) {x : Int} (h1 : -4 ≤ x) (h2 : x ≤ 8) : (far * x).natAbs ≤ 8 * (10 ^ 27 + 1) := by
  rw [Int.natAbs_mul]
  have h3 : far.natAbs ≤ 10 ^ 27 + 1 := by have := h.1; have := h.2; omega
  have h4 : x.natAbs ≤ 8 := by omega
  rw [Nat.mul_comm 8]
  exact Nat.mul_le_mul h3 h4
section
variable {P : Program} {w : World} {K : PySem.W.Frag} {mg : Str → Option Value} {base : Heap}
abbrev s__law_next : Stmt := top 120
theorem sc__law_next : FnScope ["_law_state_here", "_law_many", "_law_found"] ["_law_state_here", "_law_many"] (defScope s__law_next) := ⟨rfl, rfl, rfl, by decide +kernel, rfl, by decide +kernel, by decide +kernel⟩
theorem ok__law_next (T : Txt w K mg) : Cal P w K mg base CX0 1 "_law_next" spNext := by
  refine cal_ok T.d__law_next (fun _ _ _ _ _ _ us hl => match us, hl with | [_, _], _ => rfl) sc__law_next (fun vs H Q E h => ?_) (fun cdv A outer s f H vs Q E hr h => ?_)
  · obtain ⟨_, _, rfl, _⟩ := h; rfl
  · obtain ⟨sp, m, rfl, hs, hm0, hm, k⟩ := h
    refine ⟨_, PSs.nox (pss_cons (ps_if (pt_cmpR op_eq (pe_callB (call_lenQ K) (by rfl) T.f_len PySem.boot_len (pa_cons (pv 0) pa_nil)) pe_int (nomark _)) (pss_cons (ps_set (i := 2) sc__law_next.nd rfl (Or.inl rfl) (pe_op op_mod (pe_ix (ix_listQ K) (pv 0) pe_int (fun _ _ => rfl)) (pv 1)))
      (pss_cons (ps_asg (pe_op op_fdiv (pe_ix (ix_listQ K) (pv 0) pe_int (fun _ _ => rfl)) (pv 1)) (pg_sub (pv 0) pe_int set_listQ))
      (pss_cons (ps_if (pt_cmpR op_eq (pe_ix (ix_listQ K) (pv 0) pe_int (fun _ _ => rfl)) pe_int (nomark _)) (pss_one (ps_expr (pe_bm PySem.F.plainAttrs_list PySem.F.slot_list_pop PySem.F.type_list_pop mt_popAt (pv 0) (pa_cons pe_int pa_nil)))) pss_nil)
      (pss_one (ps_ret (pv 2)))))) pss_nil)
      (pss_cons (ps_asg (pe_op op_mod (pe_op op_add (pe_op op_mul (pe_ix (ix_listQ K) (pv 0) pe_int (fun _ _ => rfl)) pe_int) pe_int) pe_int) (pg_sub (pv 0) pe_int set_listQ))
      (pss_one (ps_ret (pe_op op_mod (pe_op op_fdiv (pe_ix (ix_listQ K) (pv 0) pe_int (fun _ _ => rfl)) pe_int) (pv 1)))))), ?_⟩
    obtain ⟨xs, hxl, hxs⟩ := id hs
    have hl : LstAt H sp ((xs.map V.int).map D.a) := ⟨_, hxs, Reps.atoms.mpr rfl⟩
    have up : ∀ {ys : List Int} {H' : Hp}, (ys.length = 1 ∨ ys.length = 2) → H' sp = some (.lst (ys.map V.int)) → (∀ b, b ≠ sp → H' b = H b) → FrS sp H H' := fun {ys H'} h1 h2 h3 => ⟨fun b o hb e => by rw [h3 b hb]; exact e, ys, h1, h2⟩
    have hm' : (0 : Int) < (m : Int) := by omega
    refine ⟨_, rfl, r_lenL hl ⟨rfl, _, rfl, ?_⟩⟩
    rw [List.length_map, List.length_map]
    rcases hxl with h1 | h2
    · obtain ⟨x, rfl⟩ : ∃ x, xs = [x] := by
        cases xs with
        | nil => cases h1
        | cons x r => cases r with
          | nil => exact ⟨x, rfl⟩
          | cons y r => simp at h1
      refine iteF ?_
      refine ⟨_, rfl, r_ixL 0 hl rfl fun v hv => ?_⟩
      cases hv
      refine ⟨_, _, rfl, rfl, .inr ⟨by decide, by decide⟩, _, _, rfl, rfl, _, _, rfl, rfl, by show (0 : Int) < 2305843009213693951; decide, ?_⟩
      refine ⟨_, rfl, r_setL (d := .a (.int ((x * 1181783497276652981 + 12345678910987) % 2305843009213693951))) 0 hl rfl (by simp) fun H1 k1 t1 o1 hl1 => ?_⟩
      refine ⟨_, rfl, r_ixL 0 hl1 rfl fun v hv => ?_⟩
      cases hv
      refine ⟨_, _, rfl, rfl, ⟨by decide, by decide⟩, _, rfl, _, _, rfl, rfl, hm', ?_⟩
      obtain ⟨vs1, q1, q2⟩ := hl1
      have e1 : vs1 = [V.int ((x * 1181783497276652981 + 12345678910987) % 2305843009213693951)] := by
        obtain ⟨v, r, e, e2, e3⟩ := q2
        rw [e, show v = _ from e2, show r = [] from e3]
      rw [e1] at q1
      have fr := up (ys := [_]) (.inl rfl) q1 o1
      have hnn := Int.emod_nonneg ((x * 1181783497276652981 + 12345678910987) % 2305843009213693951 / 65537) (show (m : Int) ≠ 0 by omega)
      have hlt := Int.emod_lt_of_pos ((x * 1181783497276652981 + 12345678910987) % 2305843009213693951 / 65537) hm'
      have := k H1 (((x * 1181783497276652981 + 12345678910987) % 2305843009213693951 / 65537) % (m : Int)).toNat fr (by omega)
      rw [Int.toNat_of_nonneg hnn] at this
      exact this
    · obtain ⟨x, y, rfl⟩ : ∃ x y, xs = [x, y] := by
        cases xs with
        | nil => cases h2
        | cons x r => cases r with
          | nil => cases h2
          | cons y r => cases r with
            | nil => exact ⟨x, y, rfl⟩
            | cons z r => simp at h2
      refine iteT ?_
      refine ⟨_, rfl, r_ixL 0 hl rfl fun v hv => ?_⟩
      cases hv
      refine ⟨_, rfl, _, _, rfl, rfl, hm', ?_⟩
      refine ⟨_, rfl, r_ixL 0 hl rfl fun v hv => ?_⟩
      cases hv
      refine ⟨_, rfl, _, _, rfl, rfl, ⟨hm', by omega⟩, ?_⟩
      refine ⟨_, rfl, r_setL (d := .a (.int (x / (m : Int)))) 0 hl rfl (by simp) fun H1 k1 t1 o1 hl1 => ?_⟩
      have hnn := Int.emod_nonneg x (show (m : Int) ≠ 0 by omega)
      have hlt := Int.emod_lt_of_pos x hm'
      have ret : ∀ H', FrS sp H H' → Q (.int (x % (m : Int))) H' := fun H' fr => by
        have := k H' (x % (m : Int)).toNat fr (by omega)
        rw [Int.toNat_of_nonneg hnn] at this
        exact this
      obtain ⟨vs1, q1, q2⟩ := id hl1
      have e1 : vs1 = [V.int (x / (m : Int)), V.int y] := by
        obtain ⟨v, r, e, e2, e3⟩ := q2
        obtain ⟨v', r', e', e2', e3'⟩ := e3
        rw [e, e', show v = _ from e2, show v' = _ from e2', show r' = [] from e3']
      rw [e1] at q1
      have fr := up (ys := [x / (m : Int), y]) (.inr rfl) q1 o1
      refine ⟨_, rfl, r_ixL 0 hl1 rfl fun v hv => ?_⟩
      cases hv
      refine ⟨rfl, _, rfl, ?_⟩
      refine ite2 (fun hc => ?_) (fun hc => ?_)
      · refine ⟨_, rfl, tyL hl1, sp, _, 0, 0, _, rfl, rfl, q1, by decide, by decide, by rfl, rfl, ?_⟩
        refine ⟨_, rfl, ret _ ?_⟩
        exact ⟨fun b o hb e => by rw [upd_ne hb, o1 b hb]; exact e, [y], .inl rfl, upd_same⟩
      · exact ⟨_, rfl, ret H1 fr⟩
abbrev s__law_state : Stmt := top 119
theorem sc__law_state : FnScope ["_law_script", "_law_seed", "_law_cell"] ["_law_script"] (defScope s__law_state) := ⟨rfl, rfl, rfl, by decide +kernel, rfl, by decide +kernel, by decide +kernel⟩
theorem ok__law_state (T : Txt w K mg) : Cal P w K mg base CX0 1 "_law_state" (fun vs H Q E => ∃ p ns, vs = [.ref p] ∧ SqL K H p ((ns : List Int).map V.int) ∧ ns.length ≤ 63 ∧ ∀ sp H', Same H H' → H sp = none → StAt H' sp → Q (.ref sp) H') := by
  refine cal_ok T.d__law_state (fun _ _ _ _ _ _ us hl => match us, hl with | [_], _ => rfl) sc__law_state (fun vs H Q E h => ?_) (fun cdv A outer s f H vs Q E hr h => ?_)
  · obtain ⟨_, _, rfl, _⟩ := h; rfl
  · obtain ⟨p, ns, rfl, hs, hl, k⟩ := h
    refine ⟨_, PSs.nox (pss_cons (ps_set (i := 1) sc__law_state.nd rfl (Or.inl rfl) pe_int)
      (pss_cons (ps_for PassesOwn.never rfl (pi_list (pe_slice (sl_listQ K) (pv 0) po_none (po_some pe_int))) (pg_name (i := 2) sc__law_state.nd rfl (Or.inl rfl))
      (pss_one (ps_set (i := 1) sc__law_state.nd rfl (Or.inl rfl) (pe_op op_mod (pe_op op_add (pe_op op_add (pe_op op_mul (pv 1) pe_int) (pe_op op_mod (pv 2) (pe_op op_pow pe_int pe_int))) pe_int) pe_int))))
      (pss_cons (ps_if (PW.pt (pw_and (pt_cmpR op_gt (pe_callB (call_lenQ K) (by rfl) T.f_len PySem.boot_len (pa_cons (pv 0) pa_nil)) pe_int (nomark _)) (pw_and (pt_cmpR op_gt (pe_ix (ix_listQ K) (pv 0) pe_int (fun _ _ => rfl)) pe_int (nomark _)) (pw_and1 (pt_cmpR op_eq (pe_op op_mod (pe_ix (ix_listQ K) (pv 0) pe_int (fun _ _ => rfl)) pe_int) pe_int (nomark _)))))) (pss_one (ps_ret (pe_lstQ (pa_cons (pe_op op_fdiv (pe_ix (ix_listQ K) (pv 0) pe_int (fun _ _ => rfl)) pe_int) (pa_cons (pv 1) pa_nil))))) pss_nil)
      (pss_one (ps_ret (pe_lstQ (pa_cons (pv 1) pa_nil))))))), ?_⟩
    have sq : ∀ {H' : Hp}, Same H H' → SqL K H' p (ns.map V.int) := fun {H'} s => by
      rcases hs with (h | ⟨o, h⟩) | h
      · exact .inl (.inl (s _ _ h))
      · exact .inl (.inr ⟨o, s _ _ h⟩)
      · exact .inr h
    refine ⟨_, rfl, _, rfl, ?_⟩
    unfold qSlL
    refine ⟨p, _, rfl, hs, fun q hq => ?_⟩
    have s1 : Same H (upd H q (.lst (cutV (ns.map V.int) none (some 200)))) := Same.upd' hq
    have hqe : (upd H q (.lst (cutV (ns.map V.int) none (some 200)))) q = some (.lst (cutV (ns.map V.int) none (some 200))) := upd_same
    have hcut : ∃ ms : List Int, cutV (ns.map V.int) none (some 200) = ms.map V.int := by
      unfold cutV
      rw [← List.map_drop, ← List.map_take]
      exact ⟨_, rfl⟩
    obtain ⟨ms, hms⟩ := hcut
    rw [hms] at hqe s1 ⊢
    generalize upd H q (.lst (ms.map V.int)) = H1 at s1 hqe ⊢
    refine ⟨q, rfl, ⟨_, SqL.of hqe⟩, for_it (walk_list (xs := ms.map V.int)) (fun i σ H2 => ∃ y z, σ = [some (.ref p), some (.int y), z] ∧ H2 = H1) ⟨_, none, rfl, rfl⟩ (fun i σ H2 _ ⟨_, _, _, e⟩ => by rw [e]; exact SqL.of hqe) ?_ ?_⟩
    · rintro i v σ H2 H3 hi ⟨y, z, rfl, rfl⟩ ⟨rfl, hv⟩
      rw [List.getElem?_map, Option.map_eq_some_iff] at hv
      obtain ⟨c, hc, rfl⟩ := hv
      refine ⟨_, rfl, _, _, rfl, rfl, .inr ⟨by decide, by decide⟩, ?_⟩
      refine ⟨_, rfl, _, _, rfl, rfl, ⟨by decide, by decide, by decide⟩, _, _, rfl, rfl, by show (0 : Int) < (10 : Int) ^ 30; decide, ?_⟩
      exact ⟨_, _, rfl, rfl, _, _, rfl, rfl, _, _, rfl, rfl, by show (0 : Int) < 2305843009213693951; decide, _, _, rfl, rfl⟩
    · rintro σ H2 ⟨y, z, rfl, rfl⟩
      have fin1 : tRet (tNewL (tCons (tVar 1) tNil)) { nx := fun x H' => Q V.non H', rt := Q } [some (.ref p), some (.int y), z] H2 := by
        refine ⟨_, rfl, r_lst (ds := [.a (.int y)]) (Reps.cons rfl Reps.nil) (small (by simp)) fun l H3 s3 hl3 hll => ?_⟩
        refine k l H3 (s1.trans s3) (same_none s1 hl3) ⟨[y], .inl rfl, ?_⟩
        obtain ⟨vs, q1, q2⟩ := hll
        obtain ⟨v, r, e, e2, e3⟩ := q2
        rw [e, show v = _ from e2, show r = [] from e3] at q1
        exact q1
      have hlen : qLen K [.ref p] H2 = fun Q' => ∃ p' ys, [V.ref p] = [.ref p'] ∧ (SqL K H2 p' ys ∨ SqT K H2 p' ys) ∧ Q' (.int ys.length) H2 := by unfold qLen; rfl
      refine ⟨_, rfl, by
        unfold qLen
        refine ⟨p, _, rfl, .inl (sq s1), ?_⟩
        refine ⟨_, _, rfl, rfl, _, rfl, ?_⟩
        cases ns with
        | nil => exact iteF (iteF fin1)
        | cons n0 ns =>
          have hat : atI ((n0 :: ns).map V.int) 0 = some (V.int n0) := atI_nat (j := 0) rfl
          have hgt : ((0 : Int) < (((n0 :: ns).map V.int).length : Int)) := by rw [List.length_map, List.length_cons]; omega
          rw [decide_eq_true hgt]
          refine iteT ⟨_, rfl, ?_⟩
          unfold qIxL
          refine ⟨p, _, 0, .int n0, rfl, rfl, sq s1, hat, ?_⟩
          refine ⟨_, _, rfl, rfl, _, rfl, ?_⟩
          refine ite2 (fun hc => ?_) (fun hc => iteF fin1)
          refine ⟨_, rfl, p, _, 0, .int n0, rfl, rfl, sq s1, hat, _, _, rfl, rfl, by show (0 : Int) < 2; decide, rfl, _, rfl, ?_⟩
          refine ite2 (fun hc2 => ?_) (fun hc2 => fin1)
          refine ⟨_, rfl, p, _, 0, .int n0, rfl, rfl, sq s1, hat, _, _, rfl, rfl, ⟨by decide, by decide⟩, _, rfl, ?_⟩
          refine r_lst (ds := [.a (.int (n0 / 2)), .a (.int y)]) (Reps.cons rfl (Reps.cons rfl Reps.nil)) (small (by simp)) fun l H3 s3 hl3 hll => ?_
          refine k l H3 (s1.trans s3) (same_none s1 hl3) ⟨[n0 / 2, y], .inr rfl, ?_⟩
          obtain ⟨vs, q1, q2⟩ := hll
          obtain ⟨v, r, e, e2, e3⟩ := q2
          obtain ⟨v', r', e', e2', e3'⟩ := e3
          rw [e, e', show v = _ from e2, show v' = _ from e2', show r' = [] from e3'] at q1
          exact q1⟩
end
end L2.Ww
set_option Elab.async false
set_option linter.all false
set_option maxRecDepth 100000
set_option maxHeartbeats 4000000
/-! The law: drawn machines. -/
namespace L2.Ww
open PySem PySem.Spec PyProof.Rows
theorem FrS.write {sp p : Addr} {H0 H H' : Hp} (h0 : StAt H0 sp) (f : FrS sp H0 H) (hp : H0 p = none) (o : ∀ b, b ≠ p → H' b = H b) : FrS sp H0 H' := by
  have hne : sp ≠ p := fun e => h0.ne hp e.symm
  refine ⟨fun b x hb e => ?_, ?_⟩
  · rw [o b (fun e2 => by rw [e2, hp] at e; cases e)]
    exact f.1 b x hb e
  · obtain ⟨xs, hl, e⟩ := f.2
    exact ⟨xs, hl, by rw [o sp hne]; exact e⟩
theorem LstAt.keep {H H' : Hp} {p : Addr} {ds : List D} (h : LstAt H p ds) (e : H' p = H p) (t : TupLe H H') : LstAt H' p ds := by
  obtain ⟨vs, e1, r⟩ := h
  exact ⟨vs, by rw [e]; exact e1, r.up t⟩
theorem FrS.none {sp p : Addr} {H H' : Hp} (h : StAt H sp) (f : FrS sp H H') (e : H' p = none) : H p = none := by
  cases e2 : H p with
  | none => rfl
  | some o =>
    have hne : p ≠ sp := fun e3 => by
      obtain ⟨xs, _, e4⟩ := f.2
      rw [← e3, e] at e4; cases e4
    rw [f.1 p o hne e2] at e; cases e
structure DrM (ls : Str) (m : Nat) (M : Mach) : Prop where
  wf : M.WF
  ls : M.ls = ls
  n : M.st.length = m
  st : ∀ x ∈ M.st, WDr x
  tabs : ∀ t ∈ M.tabs, ∀ r ∈ t, ∀ x ∈ r, WDr x
  en : ∀ x ∈ M.en, WDr x
theorem DrM.ok {ls : Str} {m : Nat} {M : Mach} (h : DrM ls m M) : MWOk M := ⟨fun x hx => (h.st x hx).ok, fun t ht r hr x hx => (h.tabs t ht r hr x hx).ok, fun x hx => (h.en x hx).ok⟩
def spAnyMachine : Sp := fun vs H Q _ => ∃ sp ls, ∃ m thin : Nat, vs = [.ref sp, .str ls, .int (m : Int), .int (thin : Int)] ∧ StAt H sp ∧ LetOk ls ∧ m ≤ 8 ∧ 0 < thin ∧ thin ≤ 5 ∧
  ∀ H' M v, FrS sp H H' → DrM ls m M → Rep H' (dMach M) v → Q v H'
def TabOk (m : Nat) (t : List (List Wt)) : Prop := t.length = m ∧ ∀ r ∈ t, r.length = m ∧ ∀ x ∈ r, WDr x
def RowOk (m : Nat) (r : List Wt) : Prop := r.length = m ∧ ∀ x ∈ r, WDr x
theorem all_snoc {α : Type} {p : α → Prop} {l : List α} {x : α} (h : ∀ y ∈ l, p y) (hx : p x) : ∀ y ∈ l ++ [x], p y := fun y hy => by
  rcases List.mem_append.mp hy with hy | hy
  · exact h y hy
  · rw [List.mem_singleton.mp hy]; exact hx
section
variable {P : Program} {w : World} {K : PySem.W.Frag} {mg : Str → Option Value} {base : Heap}
abbrev s__law_rooms : Stmt := top 121
theorem sc__law_rooms : FnScope ["_law_state_here", "_law_few", "_law_most"] ["_law_state_here", "_law_few", "_law_most"] (defScope s__law_rooms) := ⟨rfl, rfl, rfl, by decide +kernel, rfl, by decide +kernel, by decide +kernel⟩
theorem ok__law_rooms (T : Txt w K mg) : Cal P w K mg base CX0 2 "_law_rooms" spLRooms := by
  refine cal_ok T.d__law_rooms (fun _ _ _ _ _ _ us hl => match us, hl with | [_, _, _], _ => rfl) sc__law_rooms (fun vs H Q E h => ?_) (fun cdv A outer s f H vs Q E hr h => ?_)
  · obtain ⟨_, rfl, _⟩ := h; rfl
  · obtain ⟨sp, rfl, hs, k⟩ := h
    refine ⟨_, PSs.nox (pss_cons (ps_if (pt_cmpR op_eq (pe_c0 (ok__law_next T) hr (by decide) rfl (pa_cons (pv 0) (pa_cons pe_int pa_nil))) pe_int (nomark _)) (pss_one (ps_ret (pe_c0 (ok__law_next T) hr (by decide) rfl (pa_cons (pv 0) (pa_cons (pv 2) pa_nil))))) pss_nil)
      (pss_one (ps_ret (pe_c0 (ok__law_next T) hr (by decide) rfl (pa_cons (pv 0) (pa_cons (pv 1) pa_nil)))))), ?_⟩
    refine ⟨_, rfl, sp, 8, rfl, hs, by decide, by decide, fun H1 x f1 hx => ⟨rfl, _, rfl, ?_⟩⟩
    refine ite2 (fun _ => ?_) (fun _ => ?_)
    · exact ⟨_, rfl, _, rfl, sp, 8, rfl, f1.2, by decide, by decide, fun H2 y f2 hy => k H2 y (f1.trans f2) hy⟩
    · exact ⟨_, rfl, _, rfl, sp, 4, rfl, f1.2, by decide, by decide, fun H2 y f2 hy => k H2 y (f1.trans f2) (by omega)⟩
abbrev s__law_far : Stmt := top 125
theorem sc__law_far : FnScope ["_law_state_here"] ["_law_state_here"] (defScope s__law_far) := ⟨rfl, rfl, rfl, by decide +kernel, rfl, by decide +kernel, by decide +kernel⟩
theorem ok__law_far (T : Txt w K mg) : Cal P w K mg base CX0 2 "_law_far" spFar := by
  refine cal_ok T.d__law_far (fun _ _ _ _ _ _ us hl => match us, hl with | [_], _ => rfl) sc__law_far (fun vs H Q E h => ?_) (fun cdv A outer s f H vs Q E hr h => ?_)
  · obtain ⟨_, rfl, _⟩ := h; rfl
  · obtain ⟨sp, rfl, hs, k⟩ := h
    refine ⟨_, PSs.nox (pss_one (ps_ret (pe_ix (ix_listQ K) (pe_lstQ (pa_cons pe_int (pa_cons pe_int (pa_cons (pe_op op_add (pe_op op_pow pe_int pe_int) pe_int) (pa_cons (pe_op op_add (pe_op op_pow pe_int pe_int) pe_int) pa_nil))))) (pe_c0 (ok__law_next T) hr (by decide) rfl (pa_cons (pv 0) (pa_cons pe_int pa_nil))) (fun _ _ => rfl)))), ?_⟩
    refine ⟨_, _, rfl, rfl, ⟨by decide, by decide, by decide⟩, _, _, rfl, rfl, _, _, rfl, rfl, ⟨by decide, by decide, by decide⟩, _, _, rfl, rfl, ?_⟩
    refine r_lst (ds := [.a (.int 1), .a (.int 1), .a (.int ((10 : Int) ^ 9 + 7)), .a (.int ((10 : Int) ^ 27 + 1))]) (Reps.cons rfl (Reps.cons rfl (Reps.cons rfl (Reps.cons rfl Reps.nil)))) (small (by simp)) fun p H1 s1 hp hl => ?_
    refine ⟨_, rfl, sp, 4, rfl, hs.same s1, by decide, by decide, fun H2 x f2 hx => ?_⟩
    have hne := (hs.same s1)
    have hpn : p ≠ sp := hs.ne hp
    have hl2 := f2.lst hne hpn hl
    have fr := (FrS.of hs s1).trans f2
    have hx4 : x = 0 ∨ x = 1 ∨ x = 2 ∨ x = 3 := by omega
    rcases hx4 with rfl | rfl | rfl | rfl
    · exact r_ixL 0 hl2 rfl fun v hv => by cases hv; exact k H2 _ fr ⟨by decide, by decide⟩
    · exact r_ixL 1 hl2 rfl fun v hv => by cases hv; exact k H2 _ fr ⟨by decide, by decide⟩
    · exact r_ixL 2 hl2 rfl fun v hv => by cases hv; exact k H2 _ fr ⟨by decide, by decide⟩
    · exact r_ixL 3 hl2 rfl fun v hv => by cases hv; exact k H2 _ fr ⟨by decide, by decide⟩
abbrev s__law_costs : Stmt := top 124
theorem sc__law_costs : FnScope ["_law_state_here", "_law_far_here", "_law_many", "_law_row_here", "_law_k", "_law_cost"] ["_law_state_here", "_law_far_here", "_law_many"] (defScope s__law_costs) := ⟨rfl, rfl, rfl, by decide +kernel, rfl, by decide +kernel, by decide +kernel⟩
theorem ok__law_costs (T : Txt w K mg) : Cal P w K mg base CX0 2 "_law_costs" spCosts := by
  refine cal_ok T.d__law_costs (fun _ _ _ _ _ _ us hl => match us, hl with | [_, _, _], _ => rfl) sc__law_costs (fun vs H Q E h => ?_) (fun cdv A outer s f H vs Q E hr h => ?_)
  · obtain ⟨_, _, _, rfl, _⟩ := h; rfl
  · obtain ⟨sp, far, m, rfl, hs, hf, hm, k⟩ := h
    refine ⟨_, PSs.nox (pss_cons (ps_set (i := 3) sc__law_costs.nd rfl (Or.inl rfl) (pe_lstQ pa_nil))
      (pss_cons (ps_for PassesOwn.never rfl (pi_range1 rfl T.f_range (pa_cons (pv 2) pa_nil)) (pg_name (i := 4) sc__law_costs.nd rfl (Or.inl rfl))
      (pss_cons (ps_set (i := 5) sc__law_costs.nd rfl (Or.inl rfl) pe_non)
      (pss_cons (ps_if (pt_cmpR op_gt (pe_c0 (ok__law_next T) hr (by decide) rfl (pa_cons (pv 0) (pa_cons pe_int pa_nil))) pe_int (nomark _)) (pss_one (ps_set (i := 5) sc__law_costs.nd rfl (Or.inl rfl) (pe_op op_mul (pv 1) (pe_op op_sub (pe_c0 (ok__law_next T) hr (by decide) rfl (pa_cons (pv 0) (pa_cons pe_int pa_nil))) pe_int)))) pss_nil)
      (pss_one (ps_expr (pe_bm PySem.F.plainAttrs_list PySem.F.slot_list_append PySem.F.type_list_append mt_appQ (pv 3) (pa_cons (pv 5) pa_nil)))))))
      (pss_one (ps_ret (pe_callTy (call_tupQ K) (by rfl) T.f_tuple (by decide +kernel) (pa_cons (pv 3) pa_nil)))))), ?_⟩
    refine r_lst (ds := []) Reps.nil (small (by simp)) fun p H1 s1 hp hl => ?_
    have hpn : p ≠ sp := hs.ne hp
    refine ⟨_, rfl, m, rfl, by omega, by omega, for_it (walk_range0 (n := (m : Int).toNat)) (fun i σ H2 => ∃ y4 y5, ∃ r : List Wt, σ = [some (.ref sp), some (.int far), some (.int (m : Int)), some (.ref p), y4, y5] ∧ FrS sp H H2 ∧ r.length = i ∧ (∀ x ∈ r, WDr x) ∧ LstAt H2 p (r.map dW))
      ⟨none, none, [], rfl, FrS.of hs s1, rfl, fun x hx => (nomatch hx), hl⟩ (fun _ _ _ _ _ => trivial) ?_ ?_⟩
    · rintro i x σ H2 H3 hi ⟨y4, y5, r, rfl, f2, hrl, hrw, hl2⟩ ⟨rfl, rfl⟩
      refine ⟨_, rfl, sp, 3, rfl, f2.2, by decide, by decide, fun H3 y f3 hy => ⟨_, _, rfl, rfl, _, rfl, ?_⟩⟩
      have f13 := f2.trans f3
      have hl3 := f3.lst f2.2 hpn hl2
      have app : ∀ (x : Wt) (H4 : Hp), FrS sp H H4 → WDr x → LstAt H4 p (r.map dW) → ∀ {σ' : St} (y5 : Option V), σ' = [some (.ref sp), some (.int far), some (.int (m : Int)), some (.ref p), some (.int (i : Int)), some (vW x)] →
          qApp (.ref p) [vW x] H4 fun _ H5 => ∃ y4 y5, ∃ r : List Wt, σ' = [some (.ref sp), some (.int far), some (.int (m : Int)), some (.ref p), y4, y5] ∧ FrS sp H H5 ∧ r.length = i + 1 ∧ (∀ x ∈ r, WDr x) ∧ LstAt H5 p (r.map dW) := by
        intro x H4 f4 hx hl4 σ' y5 e
        refine r_app (d := dW x) hl4 rfl ?_ fun H5 k5 t5 o5 hl5 => ?_
        · rw [List.length_map, hrl]; exact Nat.lt_of_le_of_lt (show i ≤ 20 by omega) (by decide)
        · exact ⟨_, _, r ++ [x], e, f4.write hs hp o5, by rw [List.length_append, hrl]; rfl, all_snoc hrw hx, by rw [List.map_append]; exact hl5⟩
      refine ite2 (fun hc => ?_) (fun hc => ?_)
      · refine ⟨_, rfl, _, rfl, sp, 12, rfl, f13.2, by decide, by decide, fun H4 z f4 hz => ?_⟩
        refine ⟨_, _, rfl, rfl, _, _, rfl, rfl, .inr ⟨by omega, by omega⟩, ?_⟩
        have hl4 := f4.lst f13.2 hpn hl3
        refine ⟨_, rfl, tyL hl4, _, rfl, ?_⟩
        exact app (some (far * ((z : Int) - 4))) H4 (f13.trans f4) (fun y e => by cases e; exact small_mul hf (by omega) (by omega)) hl4 none rfl
      · refine ⟨_, rfl, tyL hl3, _, rfl, ?_⟩
        exact app none H3 f13 (fun y e => by cases e) hl3 none rfl
    · rintro σ H2 ⟨y4, y5, r, rfl, f2, hrl, hrw, hl2⟩
      refine ⟨_, rfl, r_tupL hl2 fun v H3 s3 h3 => ?_⟩
      exact k H3 r v (f2.trans (FrS.of f2.2 s3)) (by omega) hrw h3
abbrev s__law_any_machine : Stmt := top 126
theorem sc__law_any_machine : FnScope ["_law_state_here", "_law_letters_here", "_law_many", "_law_thin", "_law_far_here", "_law_tables", "_law_letter", "_law_table", "_law_j", "_law_row_here", "_law_k"] ["_law_state_here", "_law_letters_here", "_law_many", "_law_thin"] (defScope s__law_any_machine) := ⟨rfl, rfl, rfl, by decide +kernel, rfl, by decide +kernel, by decide +kernel⟩
theorem ok__law_any_machine (T : Txt w K mg) : Cal P w K mg base CX0 3 "_law_any_machine" spAnyMachine := by
  refine cal_ok T.d__law_any_machine (fun _ _ _ _ _ _ us hl => match us, hl with | [_, _, _, _], _ => rfl) sc__law_any_machine (fun vs H Q E h => ?_) (fun cdv A outer s f H vs Q E hr h => ?_)
  · obtain ⟨_, _, _, _, rfl, _⟩ := h; rfl
  · obtain ⟨sp, ls, m, thin, rfl, hs, hL, hm, ht0, ht5, k⟩ := h
    refine ⟨_, PSs.nox (pss_cons (ps_set (i := 4) sc__law_any_machine.nd rfl (Or.inl rfl) (pe_c0 (ok__law_far T) hr (by decide) rfl (pa_cons (pv 0) pa_nil)))
      (pss_cons (ps_set (i := 5) sc__law_any_machine.nd rfl (Or.inl rfl) (pe_lstQ pa_nil))
      (pss_cons (ps_for PassesOwn.never rfl (pi_str (pv 1)) (pg_name (i := 6) sc__law_any_machine.nd rfl (Or.inl rfl))
      (pss_cons (ps_set (i := 7) sc__law_any_machine.nd rfl (Or.inl rfl) (pe_lstQ pa_nil))
      (pss_cons (ps_for PassesOwn.never rfl (pi_range1 rfl T.f_range (pa_cons (pv 2) pa_nil)) (pg_name (i := 8) sc__law_any_machine.nd rfl (Or.inl rfl))
      (pss_cons (ps_set (i := 9) sc__law_any_machine.nd rfl (Or.inl rfl) (pe_op op_rep (pe_lstQ (pa_cons pe_non pa_nil)) (pv 2)))
      (pss_cons (ps_for PassesOwn.never rfl (pi_range1 rfl T.f_range (pa_cons (pv 2) pa_nil)) (pg_name (i := 10) sc__law_any_machine.nd rfl (Or.inl rfl))
      (pss_one (ps_if (pt_cmpR op_eq (pe_c0 (ok__law_next T) hr (by decide) rfl (pa_cons (pv 0) (pa_cons (pv 3) pa_nil))) pe_int (nomark _)) (pss_one (ps_asg (pe_op op_mul (pv 4) (pe_op op_sub (pe_c0 (ok__law_next T) hr (by decide) rfl (pa_cons (pv 0) (pa_cons pe_int pa_nil))) pe_int)) (pg_sub (pv 9) (pv 10) set_listQ))) pss_nil)))
      (pss_one (ps_expr (pe_bm PySem.F.plainAttrs_list PySem.F.slot_list_append PySem.F.type_list_append mt_appQ (pv 7) (pa_cons (pe_callTy (call_tupQ K) (by rfl) T.f_tuple (by decide +kernel) (pa_cons (pv 9) pa_nil)) pa_nil)))))))
      (pss_one (ps_expr (pe_bm PySem.F.plainAttrs_list PySem.F.slot_list_append PySem.F.type_list_append mt_appQ (pv 5) (pa_cons (pe_callTy (call_tupQ K) (by rfl) T.f_tuple (by decide +kernel) (pa_cons (pv 7) pa_nil)) pa_nil)))))))
      (pss_one (ps_ret (pe_tupQ (pa_cons (pv 1) (pa_cons (pe_c0 (ok__law_costs T) hr (by decide) rfl (pa_cons (pv 0) (pa_cons (pv 4) (pa_cons (pv 2) pa_nil)))) (pa_cons (pe_callTy (call_tupQ K) (by rfl) T.f_tuple (by decide +kernel) (pa_cons (pv 5) pa_nil)) (pa_cons (pe_c0 (ok__law_costs T) hr (by decide) rfl (pa_cons (pv 0) (pa_cons (pv 4) (pa_cons (pv 2) pa_nil)))) pa_nil)))))))))), ?_⟩
    refine ⟨_, rfl, sp, rfl, hs, fun H0 far f0 hf => ?_⟩
    have hs0 := f0.2
    refine r_lst (ds := []) Reps.nil (small (by simp)) fun tp H1 s1 htp hl1 => ?_
    have htn : tp ≠ sp := hs0.ne htp
    have hsz : ls.cps.size = ls.length := rfl
    have hl3 := hL.le3
    refine ⟨_, rfl, _, rfl, for_it (walk_str (z := ls)) (fun i σ H2 => ∃ y6 y7 y8 y9 y10, ∃ ts : List (List (List Wt)), σ = [some (.ref sp), some (.str ls), some (.int (m : Int)), some (.int (thin : Int)), some (.int far), some (.ref tp), y6, y7, y8, y9, y10] ∧ FrS sp H0 H2 ∧ ts.length = i ∧ (∀ t ∈ ts, TabOk m t) ∧ LstAt H2 tp (ts.map dTab))
      ⟨none, none, none, none, none, [], rfl, FrS.of hs0 s1, rfl, fun t ht => (nomatch ht), hl1⟩ (fun _ _ _ _ _ => trivial) ?_ ?_⟩
    · rintro i x σ H2 H3 hi ⟨y6, y7, y8, y9, y10, ts, rfl, f2, htl, hto, hl2⟩ ⟨rfl, c, hc, rfl⟩
      refine r_lst (ds := []) Reps.nil (small (by simp)) fun ap H3 s3 hap hl3' => ?_
      have hap0 : H0 ap = none := f2.none hs0 hap
      have han : ap ≠ sp := f2.2.ne hap
      have hta : tp ≠ ap := fun e => by
        obtain ⟨vs, e2, _⟩ := hl2
        rw [e, hap] at e2; cases e2
      have f3 : FrS sp H0 H3 := f2.trans (FrS.of f2.2 s3)
      refine ⟨_, rfl, m, rfl, by omega, by omega, for_it (walk_range0 (n := (m : Int).toNat)) (fun j σ H4 => ∃ y8 y9 y10, ∃ tab : List (List Wt), σ = [some (.ref sp), some (.str ls), some (.int (m : Int)), some (.int (thin : Int)), some (.int far), some (.ref tp), some (.str ⟨#[c]⟩), some (.ref ap), y8, y9, y10] ∧ FrS sp H0 H4 ∧ tab.length = j ∧ (∀ r ∈ tab, RowOk m r) ∧ LstAt H4 ap (tab.map dRow) ∧ LstAt H4 tp (ts.map dTab))
        ⟨_, _, _, [], rfl, f3, rfl, fun r hr => (nomatch hr), hl3', hl2.same s3⟩ (fun _ _ _ _ _ => trivial) ?_ ?_⟩
      · rintro j x σ Hx H4 hj ⟨y8, y9, y10, tab, rfl, f4, htbl, htb, hla4, hlt4⟩ ⟨rfl, rfl⟩
        refine r_lst (ds := [.a .non]) (Reps.cons rfl Reps.nil) (small (by simp)) fun p0 H5 s5 hp0 hl0 => ?_
        obtain ⟨vs0, q1, q2⟩ := hl0
        have ev : vs0 = [V.non] := by
          obtain ⟨v, r, e, e2, e3⟩ := q2
          rw [e, show v = _ from e2, show r = [] from e3]
        rw [ev] at q1
        refine ⟨_, rfl, p0, (m : Int), _, rfl, rfl, q1, by omega, by omega, by rw [show ((m : Int)).toNat = m by omega]; exact small (by simp; omega), fun rp hrp => ?_⟩
        have hflat : (List.replicate ((m : Int)).toNat [V.non]).flatten = (List.replicate m (none : Wt)).map vW := by
          rw [show ((m : Int)).toNat = m by omega, List.map_replicate]
          have : ∀ n : Nat, (List.replicate n [V.non]).flatten = List.replicate n (vW none) := fun n => by
            induction n with
            | zero => rfl
            | succ n ih => rw [List.replicate_succ, List.flatten_cons, ih, List.replicate_succ] <;> rfl
          exact this m
        rw [hflat]
        have s6 : Same H4 (upd H5 rp (.lst ((List.replicate m (none : Wt)).map vW))) := s5.trans (Same.upd' hrp)
        have hlr : LstAt (upd H5 rp (.lst ((List.replicate m (none : Wt)).map vW))) rp ((List.replicate m (none : Wt)).map dW) := ⟨_, upd_same, by
          have e : (List.replicate m (none : Wt)).map dW = ((List.replicate m (none : Wt)).map vW).map D.a := by rw [List.map_map] <;> rfl
          rw [e]
          exact Reps.atoms.mpr rfl⟩
        generalize upd H5 rp (.lst ((List.replicate m (none : Wt)).map vW)) = H6 at s6 hlr
        have hrp4 : H4 rp = none := same_none s5 hrp
        have hrp0 : H0 rp = none := f4.none hs0 hrp4
        have hrn : rp ≠ sp := f4.2.ne hrp4
        have hra : ap ≠ rp := fun e => by
          obtain ⟨vs, e2, _⟩ := hla4
          rw [e, hrp4] at e2; cases e2
        have hrt : tp ≠ rp := fun e => by
          obtain ⟨vs, e2, _⟩ := hlt4
          rw [e, hrp4] at e2; cases e2
        have f6 : FrS sp H0 H6 := f4.trans (FrS.of f4.2 s6)
        refine ⟨_, rfl, m, rfl, by omega, by omega, for_it (walk_range0 (n := (m : Int).toNat)) (fun q σ H7 => ∃ y10, ∃ row : List Wt, σ = [some (.ref sp), some (.str ls), some (.int (m : Int)), some (.int (thin : Int)), some (.int far), some (.ref tp), some (.str ⟨#[c]⟩), some (.ref ap), some (.int (j : Int)), some (.ref rp), y10] ∧ FrS sp H0 H7 ∧ RowOk m row ∧ LstAt H7 rp (row.map dW) ∧ LstAt H7 ap (tab.map dRow) ∧ LstAt H7 tp (ts.map dTab))
          ⟨_, List.replicate m none, rfl, f6, ⟨List.length_replicate, fun x hx y e => by rw [(List.mem_replicate.mp hx).2] at e; cases e⟩, hlr, hla4.same s6, hlt4.same s6⟩ (fun _ _ _ _ _ => trivial) ?_ ?_⟩
        · rintro q x σ H7 H8 hq ⟨y10, row, rfl, f7, hro, hlr7, hla7, hlt7⟩ ⟨rfl, rfl⟩
          refine ⟨_, rfl, _, rfl, sp, thin, rfl, f7.2, ht0, by omega, fun H8 x8 f8 hx8 => ⟨rfl, _, rfl, ?_⟩⟩
          have f08 := f7.trans f8
          have hlr8 := f8.lst f7.2 hrn hlr7
          have hla8 := f8.lst f7.2 han hla7
          have hlt8 := f8.lst f7.2 htn hlt7
          refine ite2 (fun _ => ?_) (fun _ => ⟨_, row, rfl, f08, hro, hlr8, hla8, hlt8⟩)
          refine ⟨_, rfl, _, rfl, sp, 12, rfl, f08.2, by decide, by decide, fun H9 z f9 hz => ?_⟩
          have f09 := f08.trans f9
          have hlr9 := f9.lst f08.2 hrn hlr8
          have hla9 := f9.lst f08.2 han hla8
          have hlt9 := f9.lst f08.2 htn hlt8
          refine ⟨_, _, rfl, rfl, _, _, rfl, rfl, .inr ⟨by omega, by omega⟩, ?_⟩
          have hqm : q < m := by omega
          refine ⟨_, rfl, _, rfl, r_setL (d := dW (some (far * ((z : Int) - 3)))) q hlr9 rfl (by rw [List.length_map, hro.1]; exact hqm) fun H10 k10 t10 o10 hl10 => ?_⟩
          refine ⟨_, row.set q (some (far * ((z : Int) - 3))), rfl, f09.write hs0 hrp0 o10, ⟨by rw [List.length_set]; exact hro.1, fun x hx => ?_⟩, by rw [List.map_set]; exact hl10, hla9.keep (o10 ap hra) t10, hlt9.keep (o10 tp hrt) t10⟩
          rcases List.mem_or_eq_of_mem_set hx with hx | hx
          · exact hro.2 x hx
          · rw [hx]
            intro y e
            cases e
            exact small_mul hf (by omega) (by omega)
        · rintro σ H7 ⟨y10, row, rfl, f7, hro, hlr7, hla7, hlt7⟩
          refine ⟨_, rfl, tyL hla7, _, rfl, r_tupL hlr7 fun v8 H8 s8 h8 => ?_⟩
          refine r_app (d := dRow row) (hla7.same s8) h8 ?_ fun H9 k9 t9 o9 hl9 => ?_
          · rw [List.length_map, htbl]; exact Nat.lt_of_le_of_lt (show j ≤ 8 by omega) (by decide)
          have f8 := f7.trans (FrS.of f7.2 s8)
          exact ⟨_, _, _, tab ++ [row], rfl, f8.write hs0 hap0 o9, by rw [List.length_append, htbl]; rfl, all_snoc htb hro, by rw [List.map_append]; exact hl9, (hlt7.same s8).keep (o9 tp hta) t9⟩
      · rintro σ H4 ⟨y8, y9, y10, tab, rfl, f4, htbl, htb, hla4, hlt4⟩
        refine ⟨_, rfl, tyL hlt4, _, rfl, r_tupL hla4 fun v5 H5 s5 h5 => ?_⟩
        refine r_app (d := dTab tab) (hlt4.same s5) h5 ?_ fun H6 k6 t6 o6 hl6 => ?_
        · rw [List.length_map, htl]; exact Nat.lt_of_le_of_lt (show i ≤ 3 by omega) (by decide)
        have f5 := f4.trans (FrS.of f4.2 s5)
        exact ⟨_, _, _, _, _, ts ++ [tab], rfl, f5.write hs0 htp o6, by rw [List.length_append, htl]; rfl, all_snoc hto ⟨by omega, htb⟩, by rw [List.map_append]; exact hl6⟩
    · rintro σ H2 ⟨y6, y7, y8, y9, y10, ts, rfl, f2, htl, hto, hl2⟩
      refine ⟨_, rfl, _, rfl, _, rfl, _, rfl, sp, far, m, rfl, f2.2, hf, by omega, fun H3 r3 v3 f3 hr3 hw3 h3 => ?_⟩
      have hl3' := f3.lst f2.2 htn hl2
      refine ⟨_, rfl, r_tupL hl3' fun v4 H4 s4 h4 => ?_⟩
      have f4 := FrS.of f3.2 s4
      refine ⟨_, rfl, _, rfl, _, rfl, sp, far, m, rfl, f4.2, hf, by omega, fun H5 r5 v5 f5 hr5 hw5 h5 => ?_⟩
      refine r_tup (ds := [.a (.str ls), dRow r3, .t (ts.map dTab), dRow r5]) (Reps.cons rfl (Reps.cons ((h3.same s4).up (f5.tup f4.2)) (Reps.cons (h4.up (f5.tup f4.2)) (Reps.cons h5 Reps.nil)))) (small (by simp)) fun v6 H6 s6 h6 => ?_
      refine k H6 ⟨ls, r3, ts, r5⟩ v6 (f0.trans (f2.trans (f3.trans (f4.trans (f5.trans (FrS.of f5.2 s6)))))) ⟨⟨by rw [← hsz]; exact htl, fun t ht => by rw [(hto t ht).1]; exact hr3.symm, fun t ht r hr => by rw [((hto t ht).2 r hr).1]; exact hr3.symm, by show r5.length = r3.length; omega, by show r3.length ≤ 20; omega, hl3⟩, rfl, hr3, hw3, fun t ht r hr => ((hto t ht).2 r hr).2, hw5⟩ h6
end
end L2.Ww
set_option Elab.async false
set_option linter.all false
set_option maxRecDepth 100000
set_option maxHeartbeats 4000000
/-! The law's reckoning: steps, reach, use. -/
namespace L2.Ww
open PySem PySem.Spec PyProof.Rows
def spLStep : Sp := fun vs H Q _ => ∃ a M, ∃ j k : Nat, vs = [a, .int (j : Int), .int (k : Int)] ∧ Rep H (dMach M) a ∧ M.WF ∧ j < M.st.length ∧ k < M.st.length ∧ ∀ (o : Wt) H', BF.MinOf (Ed M j k) o → Same H H' → Q (vW o) H'
def stepNs (M : Mach) (j k : Nat) : List Int := M.tabs.filterMap fun t => entry t j k
theorem stepNs_mem {M : Mach} {j k : Nat} {c : Int} : c ∈ stepNs M j k ↔ Ed M j k c := by
  unfold stepNs Ed
  rw [List.mem_filterMap]
  constructor
  · rintro ⟨t, ht, e⟩
    obtain ⟨i, hi, e2⟩ := List.mem_iff_getElem.mp ht
    exact ⟨i, t, by rw [List.getElem?_eq_getElem hi, e2], e⟩
  · rintro ⟨i, t, ht, e⟩
    exact ⟨t, List.mem_of_getElem? ht, e⟩
theorem dp_intsI (K : PySem.W.Frag) (H : Hp) (us : List Int) : DpAll K H (us.map V.int) (us.map PyData.int) := by
  induction us with
  | nil => exact .nil
  | cons u us ih => exact .cons (.int _) ih
theorem shp_intsI (us : List Int) : PySem.SeqAt.shaped (.list (us.map PyData.int)) = true := by
  have h : PyData.canLayAll0 (us.map PyData.int) = true ∧ PyData.depthAll (us.map PyData.int) = 0 := by
    induction us with
    | nil => exact ⟨rfl, rfl⟩
    | cons u us ih =>
      refine ⟨ih.1, ?_⟩
      show max 0 (PyData.depthAll _) = 0
      rw [ih.2] <;> rfl
  unfold PySem.SeqAt.shaped
  rw [Bool.and_eq_true]
  refine ⟨h.1, decide_eq_true ?_⟩
  show PyData.depthAll _ + 1 ≤ 64
  rw [h.2]
  decide
theorem eqv_nilI (us : List Int) : PyData.eqv (.list (us.map PyData.int)) (.list []) = decide (us = []) := by
  cases us with
  | nil => rfl
  | cons u us => rfl
/-- the pairs of rooms with a step, turned if back -/
def prs (M : Mach) (back : Bool) : List (Nat × Nat) := if back = true then (stepsOf M (List.range M.st.length)).map bwdP else (stepsOf M (List.range M.st.length)).map fwdP
theorem mem_prs {M : Mach} (wM : M.WF) {back : Bool} {x y : Nat} : (x, y) ∈ prs M back ↔ ∃ c, if back = true then Ed M y x c else Ed M x y c := by
  unfold prs
  cases back with
  | true =>
    simp only [if_true]
    constructor
    · intro h
      obtain ⟨s, hs, e⟩ := List.mem_map.mp h
      cases e
      obtain ⟨_, _, h3⟩ := (mem_steps wM).mp ⟨s.2.2.2, hs⟩
      exact ⟨_, h3⟩
    · rintro ⟨c, h⟩
      have lt := h.lt wM
      obtain ⟨l, hl⟩ := (mem_steps wM).mpr ⟨List.mem_range.mpr lt.1, List.mem_range.mpr lt.2, h⟩
      exact List.mem_map.mpr ⟨_, hl, rfl⟩
  | false =>
    simp only [Bool.false_eq_true, if_false]
    constructor
    · intro h
      obtain ⟨s, hs, e⟩ := List.mem_map.mp h
      cases e
      obtain ⟨_, _, h3⟩ := (mem_steps wM).mp ⟨s.2.2.2, hs⟩
      exact ⟨_, h3⟩
    · rintro ⟨c, h⟩
      have lt := h.lt wM
      obtain ⟨l, hl⟩ := (mem_steps wM).mpr ⟨List.mem_range.mpr lt.1, List.mem_range.mpr lt.2, h⟩
      exact List.mem_map.mpr ⟨_, hl, rfl⟩
def spComeTo : Sp := fun vs H Q _ => ∃ a p back M us, vs = [a, .ref p, .bl back] ∧ Rep H (dMach M) a ∧ M.WF ∧ LstAt H p (dNs us) ∧ us.Nodup ∧ (∀ v ∈ us, v < M.st.length) ∧
  ∀ q H' ws, Same H H' → H q = none → LstAt H' q (dNs ws) → (∀ v, v ∈ ws ↔ Rch us (prs M back) v) → Q (.ref q) H'
def spOfUse : Sp := fun vs H Q _ => ∃ a M, vs = [a] ∧ Rep H (dMach M) a ∧ M.WF ∧ ∀ us, IsUse M us → GivesL H (dNs us) Q
section
variable {P : Program} {w : World} {K : PySem.W.Frag} {mg : Str → Option Value} {base : Heap}
abbrev s__law_step : Stmt := top 127
theorem sc__law_step : FnScope ["_law_machine", "_law_j", "_law_k", "_law_some", "_law_table"] ["_law_machine", "_law_j", "_law_k"] (defScope s__law_step) := ⟨rfl, rfl, rfl, by decide +kernel, rfl, by decide +kernel, by decide +kernel⟩
theorem ok__law_step (T : Txt w K mg) : Cal P w K mg base CX0 1 "_law_step" spLStep := by
  refine cal_ok T.d__law_step (fun _ _ _ _ _ _ us hl => match us, hl with | [_, _, _], _ => rfl) sc__law_step (fun vs H Q E h => ?_) (fun cdv A outer s f H vs Q E hr h => ?_)
  · obtain ⟨_, _, _, _, rfl, _⟩ := h; rfl
  · obtain ⟨a, M, j, k, rfl, ha, wM, hj, hk, kq⟩ := h
    refine ⟨_, PSs.nox (pss_cons (ps_setLc (i := 3) rfl sc__law_step.nd rfl rfl (sw_true rfl rfl rfl (by decide +kernel)) (own := [("_law_table", 4)]) (pi_tup (pe_ix (ix_tupQ K) (pv 0) pe_int (fun _ _ => rfl))) (blkOk_by (own := [("_law_table", 4)]) (N := ["_law_machine", "_law_j", "_law_k", "_law_some", "_law_table"]) (sc := defScope s__law_step) (by decide +kernel)) (fun _ _ _ _ _ => (pg_name (i := 4) sc__law_step.nd rfl (Or.inl rfl))) (fun _ _ _ _ _ => (pts_one (pt_cmpR op_notN (pe_ix (ix_tupQ K) (pe_ix (ix_tupQ K) (pv 4) (pv 1) (fun _ _ => rfl)) (pv 2) (fun _ _ => rfl)) pe_non (nomark _)))) (fun _ _ _ _ _ => (pe_ix (ix_tupQ K) (pe_ix (ix_tupQ K) (pv 4) (pv 1) (fun _ _ => rfl)) (pv 2) (fun _ _ => rfl))))
      (pss_cons (ps_if (pt_cmpR (op_eqD hr.units) (pv 3) (pe_lstQ pa_nil) (nomark _)) (pss_one (ps_ret pe_non)) pss_nil)
      (pss_one (ps_ret (pe_callB (cr_min rfl) (by rfl) T.f_min (by decide +kernel) (pa_cons (pv 3) pa_nil)))))), ?_⟩
    refine ⟨_, rfl, r_ixT 2 ha rfl fun tv htv => ?_⟩
    obtain ⟨tp, ts, rfl, htp, rts⟩ := id htv
    have htl : ts.length = M.tabs.length := by rw [rts.len, List.length_map]
    have ht3 : M.tabs.length ≤ 3 := by rw [wM.lt]; exact wM.let3
    refine ⟨tp, rfl, ⟨_, SqT.of htp⟩, fun Dd hD => ?_⟩
    refine lc_gen (H0 := H) (walk_tup (xs := ts)) hD (small (by omega)) (fun H1 s1 => sqT_same s1 (SqT.of htp)) same_YAt (fun i => (M.tabs[i]?).bind fun t => (entry t j k).map fun c => D.a (.int c)) ?_ ?_
    · rintro i v H1 H2 hi s2 ⟨rfl, hv⟩ s1 Kf Kt hf ht
      obtain ⟨d, hd, rd⟩ := rts.getV hv
      rw [List.getElem?_map, Option.map_eq_some_iff] at hd
      obtain ⟨t, ht1, rfl⟩ := hd
      have m1 := List.mem_of_getElem? ht1
      have n1 := wM.rows t m1
      have hrow : t[j]? = some t[j] := List.getElem?_eq_getElem (by omega)
      have lr := wM.cols t m1 t[j] (List.getElem_mem _)
      have hcell : t[j][k]? = some (t[j][k]'(by omega)) := List.getElem?_eq_getElem (by omega)
      have hent : entry t j k = t[j][k]'(by omega) := by
        unfold entry
        rw [hrow, Option.bind_some, hcell] <;> rfl
      have rd2 : Rep H2 (dTab t) v := rd.same s2
      refine ⟨rfl, _, rfl, _, rfl, r_ixT j rd2 (by rw [List.getElem?_map, hrow] <;> rfl) fun rw_ hrw => ?_⟩
      refine ⟨_, rfl, r_ixT k hrw (by rw [List.getElem?_map, hcell] <;> rfl) fun cv hcv => ?_⟩
      cases rep_W hcv
      refine ⟨rfl, _, rfl, ?_⟩
      cases hc : t[j][k]'(by omega) with
      | none =>
        refine iteF (hf ?_ _ (Same.refl _))
        rw [ht1, Option.bind_some, hent, hc]; rfl
      | some c =>
        refine iteT ⟨_, rfl, _, rfl, r_ixT j rd2 (by rw [List.getElem?_map, hrow] <;> rfl) fun rw2 hrw2 => ?_⟩
        refine ⟨_, rfl, r_ixT k hrw2 (by rw [List.getElem?_map, hcell] <;> rfl) fun cv hcv => ?_⟩
        cases rep_W hcv
        rw [hc]
        refine ht (.a (.int c)) ?_ _ _ (Same.refl _) rfl
        rw [ht1, Option.bind_some, hent, hc]; rfl
    · intro H1 s1 hl1
      rw [htl, fm_range] at hl1
      have e1 : (M.tabs.filterMap fun t => (entry t j k).map fun c => D.a (.int c)) = ((stepNs M j k).map V.int).map D.a := by
        unfold stepNs
        rw [List.map_map, List.map_filterMap]
        rfl
      rw [e1] at hl1
      obtain ⟨nv, hnv, rnv⟩ := hl1
      rw [Reps.atoms] at rnv
      subst rnv
      refine ⟨_, rfl, r_lst (ds := []) Reps.nil (small (by simp)) fun e0 H2 s2 he0 hle0 => ?_⟩
      have he1 : H2 e0 = some (.lst []) := by
        obtain ⟨vs, q1, q2⟩ := hle0
        rw [show vs = [] from q2] at q1
        exact q1
      refine ⟨_, _, .lst (SqL.of (s2 _ _ hnv)) (dp_intsI K H2 _), .lst (SqL.of he1) .nil, shp_intsI _, rfl, _, rfl, ?_⟩
      rw [eqv_nilI]
      by_cases hne : stepNs M j k = []
      · rw [decide_eq_true hne]
        refine iteT (kq none H2 ⟨fun _ c hc => ?_, fun w e => by cases e⟩ (s1.trans s2))
        have := stepNs_mem.mpr hc
        rw [hne] at this; cases this
      · rw [decide_eq_false hne]
        refine iteF ⟨_, rfl, Dd, _, rfl, SqL.of (s2 _ _ hnv), List.length_pos_iff.mpr hne, fun m hm hmin => ?_⟩
        exact kq (some m) H2 ⟨(fun e => by cases e), fun w e => by cases e; exact ⟨stepNs_mem.mp hm, fun c hc => hmin c (stepNs_mem.mpr hc)⟩⟩ (s1.trans s2)
abbrev s__law_come_to : Stmt := top 128
theorem sc__law_come_to : FnScope ["_law_machine", "_law_begun", "_law_back", "_law_some", "_law_at", "_law_k", "_law_pair"] ["_law_machine", "_law_begun", "_law_back"] (defScope s__law_come_to) := ⟨rfl, rfl, rfl, by decide +kernel, rfl, by decide +kernel, by decide +kernel⟩
theorem ok__law_come_to (T : Txt w K mg) : Cal P w K mg base CX0 2 "_law_come_to" spComeTo := by
  refine cal_ok T.d__law_come_to (fun _ _ _ _ _ _ us hl => match us, hl with | [_, _, _], _ => rfl) sc__law_come_to (fun vs H Q E h => ?_) (fun cdv A outer s f H vs Q E hr h => ?_)
  · obtain ⟨_, _, _, _, _, rfl, _⟩ := h; rfl
  · obtain ⟨a, b, back, M, us, rfl, ha, wM, hb, nd, lt, k⟩ := h
    refine ⟨_, PSs.nox (pss_cons (ps_set (i := 3) sc__law_come_to.nd rfl (Or.inl rfl) (pe_callTy (call_lstQ K) (by rfl) T.f_list (by decide +kernel) (pa_cons (pv 1) pa_nil)))
      (pss_cons (ps_set (i := 4) sc__law_come_to.nd rfl (Or.inl rfl) pe_int)
      (pss_cons (ps_while PassesOwn.never (pt_cmpR op_lt (pv 4) (pe_callB (call_lenQ K) (by rfl) T.f_len PySem.boot_len (pa_cons (pv 3) pa_nil)) (nomark _))
      (pss_cons (ps_for PassesOwn.never rfl (pi_range1 rfl T.f_range (pa_cons (pe_callB (call_lenQ K) (by rfl) T.f_len PySem.boot_len (pa_cons (pe_ix (ix_tupQ K) (pv 0) pe_int (fun _ _ => rfl)) pa_nil)) pa_nil)) (pg_name (i := 5) sc__law_come_to.nd rfl (Or.inl rfl))
      (pss_cons (ps_set (i := 6) sc__law_come_to.nd rfl (Or.inl rfl) (pe_tupQ (pa_cons (pe_ix (ix_listQ K) (pv 3) (pv 4) (fun _ _ => rfl)) (pa_cons (pv 5) pa_nil))))
      (pss_cons (ps_if (pt_val (pv 2)) (pss_one (ps_set (i := 6) sc__law_come_to.nd rfl (Or.inl rfl) (pe_tupQ (pa_cons (pv 5) (pa_cons (pe_ix (ix_listQ K) (pv 3) (pv 4) (fun _ _ => rfl)) pa_nil))))) pss_nil)
      (pss_one (ps_if (PW.pt (pw_and (pt_cmpR (op_notIn_seqQ K) (pv 5) (pv 3) (by rfl)) (pw_and1 (pt_cmpR op_notN (pe_c0 (ok__law_step T) hr (by decide) rfl (pa_cons (pv 0) (pa_cons (pe_ix (ix_tupQ K) (pv 6) pe_int (fun _ _ => rfl)) (pa_cons (pe_ix (ix_tupQ K) (pv 6) pe_int (fun _ _ => rfl)) pa_nil)))) pe_non (nomark _))))) (pss_one (ps_expr (pe_bm PySem.F.plainAttrs_list PySem.F.slot_list_append PySem.F.type_list_append mt_appQ (pv 3) (pa_cons (pv 5) pa_nil)))) pss_nil)))))
      (pss_one (ps_aug (i := 4) sc__law_come_to.nd rfl (Or.inl rfl) pe_int ip_add))))
      (pss_one (ps_ret (pv 3)))))), ?_⟩
    have hn20 := wM.few
    generalize hps : prs M back = ps at k
    have memps : ∀ {x y : Nat}, (x, y) ∈ ps ↔ ∃ c, if back = true then Ed M y x c else Ed M x y c := by rw [← hps]; exact mem_prs wM
    have psn : ∀ {x y : Nat}, (x, y) ∈ ps → x < M.st.length ∧ y < M.st.length := fun {x y} h => by
      obtain ⟨c, h⟩ := memps.mp h
      cases back with
      | true => exact ⟨(Ed.lt wM h).2, (Ed.lt wM h).1⟩
      | false => exact Ed.lt wM h
    have rchn : ∀ v, Rch us ps v → v < M.st.length := fun v r => by
      cases r with
      | base h => exact lt v h
      | step _ h => exact (psn h).2
    refine ⟨_, rfl, r_lstL hb fun q H1 s1 hq hl => ?_⟩
    refine while_by (fun σ H2 => ∃ i f y5 y6, σ = [some a, some (.ref b), some (.bl back), some (.ref q), some (.int ((i : Nat) : Int)), y5, y6] ∧ Same H H2 ∧ LstAt H2 q (dNs f) ∧ i ≤ f.length ∧ Fnd us ps i f) (fun σ _ => 21 - natAt σ 4)
      ⟨0, us, none, none, rfl, s1, hl, Nat.zero_le _, ⟨nd, fun v hv => by have := lt v hv; omega, fun v hv => .base hv, fun v hv => hv, fun k x y h => by omega⟩⟩ ?_ ?_
    · rintro σ H2 ⟨i, f, y5, y6, rfl, s2, hf, hil, fd⟩
      have hfl := nd_len fd.nd fd.lt
      refine ⟨_, rfl, _, rfl, r_lenL hf ?_⟩
      refine ⟨_, _, rfl, rfl, _, rfl, ?_⟩
      rw [dNs, List.length_map]
      refine ite2 (fun hc => ?_) (fun hc => ?_)
      · have hi : i < f.length := by have := of_decide_eq_true hc; omega
        have hfi : f[i]? = some f[i] := List.getElem?_eq_getElem hi
        have hri := fd.rch _ (List.getElem_mem hi)
        have hxn := rchn _ hri
        refine ⟨_, rfl, r_ixT 1 (ha.same s2) rfl fun sv hsv => r_lenT hsv ?_⟩
        rw [List.length_map]
        refine ⟨M.st.length, rfl, by omega, by omega, for_it (walk_range0 (n := (M.st.length : Int).toNat)) (fun m σ H4 => ∃ y5 y6 g, σ = [some a, some (.ref b), some (.bl back), some (.ref q), some (.int ((i : Nat) : Int)), y5, y6] ∧ Same H H4 ∧ LstAt H4 q (dNs g) ∧ f <+: g ∧ g.Nodup ∧ (∀ v ∈ g, Rch us ps v) ∧ ∀ y, y < m → (f[i], y) ∈ ps → y ∈ g)
          ⟨_, _, f, rfl, s2, hf, List.prefix_refl _, fd.nd, fd.rch, fun y hy => by omega⟩ (fun _ _ _ _ _ => trivial) ?_ ?_⟩
        · rintro m x σ Hx H4 hm ⟨y5, y6, g, rfl, s4, hg, hpre, gnd, grch, gcl⟩ ⟨rfl, rfl⟩
          have hmn : m < M.st.length := by omega
          have hgi : g[i]? = some f[i] := by rw [pre_get hpre hi]; exact hfi
          have hgl := nd_len gnd fun v hv => by have := rchn v (grch v hv); omega
          have keep : ∀ {y6 : Option V} {H5 : Hp}, Same H H5 → LstAt H5 q (dNs g) → ((f[i], m) ∈ ps → m ∈ g) → ∃ y5' y6' g', [some a, some (.ref b), some (.bl back), some (.ref q), some (.int ((i : Nat) : Int)), some (.int (m : Int)), y6] = [some a, some (.ref b), some (.bl back), some (.ref q), some (.int ((i : Nat) : Int)), y5', y6'] ∧ Same H H5 ∧ LstAt H5 q (dNs g') ∧ f <+: g' ∧ g'.Nodup ∧ (∀ v ∈ g', Rch us ps v) ∧ ∀ y, y < m + 1 → (f[i], y) ∈ ps → y ∈ g' := fun {y6 H5} s5 h5 hin => ⟨_, _, g, rfl, s5, h5, hpre, gnd, grch, fun y hy hp => by
            by_cases e : y = m
            · subst e; exact hin hp
            · exact gcl y (by omega) hp⟩
          refine ⟨_, rfl, _, rfl, r_ixL (ds := dNs g) i (d := dN f[i]) hg (by rw [dNs, List.getElem?_map, hgi] <;> rfl) fun v hv => ⟨_, rfl, ?_⟩⟩
          cases hv
          refine r_tup (ds := [dN f[i], dN m]) (Reps.cons rfl (Reps.cons rfl Reps.nil)) (small (by simp)) fun v6 H6 s6 h6 => ?_
          have s46 := s4.trans s6
          have hg6 := hg.same s6
          cases back with
          | false =>
            have hmem : (f[i], m) ∈ ps ↔ ∃ c, Ed M f[i] m c := memps
            refine ⟨_, rfl, _, rfl, iteF ?_⟩
            refine ⟨_, rfl, _, rfl, r_notIn hg6 ⟨_, rfl, ?_⟩⟩
            by_cases e4 : m ∈ g
            · rw [decide_eq_true e4]
              exact iteF (iteF (keep s46 hg6 fun _ => e4))
            · rw [decide_eq_false e4]
              refine iteT ⟨_, rfl, _, rfl, r_ixT 0 h6 rfl fun u hu => ?_⟩
              cases hu
              refine ⟨_, rfl, r_ixT 1 h6 rfl fun u hu => ?_⟩
              cases hu
              refine ⟨a, M, f[i], m, rfl, ha.same s46, wM, hxn, hmn, fun o H7 hmin s7 => ⟨rfl, _, rfl, ?_⟩⟩
              have s47 := s46.trans s7
              have hg7 := hg6.same s7
              cases o with
              | none => exact iteF (keep s47 hg7 fun hp => by obtain ⟨c, hc⟩ := hmem.mp hp; exact absurd hc (hmin.1 rfl c))
              | some c =>
                refine iteT ⟨_, rfl, tyL hg7, _, rfl, r_app (d := dN m) hg7 rfl ?_ fun H8 k8 t8 _ hl8 => ?_⟩
                · rw [dNs, List.length_map]; exact Nat.lt_of_le_of_lt hgl (by decide)
                · refine ⟨_, _, g ++ [m], rfl, k8 H hq s47, by rw [← dN_app]; exact hl8, hpre.trans (List.prefix_append _ _), ?_, ?_, ?_⟩
                  · rw [List.nodup_append]
                    exact ⟨gnd, by simp, fun x hx y hy e => e4 (by rw [List.mem_singleton.mp hy] at e; exact e ▸ hx)⟩
                  · exact all_snoc grch (.step hri (hmem.mpr ⟨c, (hmin.2 c rfl).1⟩))
                  · intro y hy hp
                    by_cases e : y = m
                    · subst e; simp
                    · exact List.mem_append.mpr (.inl (gcl y (by omega) hp))
          | true =>
            have hmem : (f[i], m) ∈ ps ↔ ∃ c, Ed M m f[i] c := memps
            refine ⟨_, rfl, _, rfl, iteT ?_⟩
            refine ⟨_, rfl, _, rfl, _, rfl, r_ixL (ds := dNs g) i (d := dN f[i]) hg6 (by rw [dNs, List.getElem?_map, hgi] <;> rfl) fun v hv => ?_⟩
            cases hv
            refine r_tup (ds := [dN m, dN f[i]]) (Reps.cons rfl (Reps.cons rfl Reps.nil)) (small (by simp)) fun v9 H9 s9 h9 => ?_
            have s49 := s46.trans s9
            have hg9 := hg6.same s9
            refine ⟨_, rfl, _, rfl, r_notIn hg9 ⟨_, rfl, ?_⟩⟩
            by_cases e4 : m ∈ g
            · rw [decide_eq_true e4]
              exact iteF (iteF (keep s49 hg9 fun _ => e4))
            · rw [decide_eq_false e4]
              refine iteT ⟨_, rfl, _, rfl, r_ixT 0 h9 rfl fun u hu => ?_⟩
              cases hu
              refine ⟨_, rfl, r_ixT 1 h9 rfl fun u hu => ?_⟩
              cases hu
              refine ⟨a, M, m, f[i], rfl, ha.same s49, wM, hmn, hxn, fun o H7 hmin s7 => ⟨rfl, _, rfl, ?_⟩⟩
              have s47 := s49.trans s7
              have hg7 := hg9.same s7
              cases o with
              | none => exact iteF (keep s47 hg7 fun hp => by obtain ⟨c, hc⟩ := hmem.mp hp; exact absurd hc (hmin.1 rfl c))
              | some c =>
                refine iteT ⟨_, rfl, tyL hg7, _, rfl, r_app (d := dN m) hg7 rfl ?_ fun H8 k8 t8 _ hl8 => ?_⟩
                · rw [dNs, List.length_map]; exact Nat.lt_of_le_of_lt hgl (by decide)
                · refine ⟨_, _, g ++ [m], rfl, k8 H hq s47, by rw [← dN_app]; exact hl8, hpre.trans (List.prefix_append _ _), ?_, ?_, ?_⟩
                  · rw [List.nodup_append]
                    exact ⟨gnd, by simp, fun x hx y hy e => e4 (by rw [List.mem_singleton.mp hy] at e; exact e ▸ hx)⟩
                  · exact all_snoc grch (.step hri (hmem.mpr ⟨c, (hmin.2 c rfl).1⟩))
                  · intro y hy hp
                    by_cases e : y = m
                    · subst e; simp
                    · exact List.mem_append.mpr (.inl (gcl y (by omega) hp))
        · rintro σ H4 ⟨y5, y6, g, rfl, s4, hg, hpre, gnd, grch, gcl⟩
          have hgl := nd_len gnd fun v hv => by have := rchn v (grch v hv); omega
          have hpl := hpre.length_le
          refine ⟨_, rfl, _, _, rfl, rfl, ?_⟩
          refine ⟨⟨i + 1, g, _, _, rfl, s4, hg, by omega, ⟨gnd, fun v hv => by have := rchn v (grch v hv); omega, grch, fun v hv => hpre.subset (fd.bas v hv), fun k x y hk hx hp => ?_⟩⟩, ?_⟩
          · rw [pre_get hpre (by omega)] at hx
            by_cases e : k = i
            · subst e
              rw [hfi] at hx
              cases hx
              exact gcl y (by have := (psn hp).2; omega) hp
            · exact hpre.subset (fd.cl k x y (by omega) hx hp)
          · show 21 - natAt [_, _, _, _, some (.int ((i : Int) + 1)), _, _] 4 < 21 - natAt [_, _, _, _, some (.int ((i : Nat) : Int)), _, _] 4
            unfold natAt
            show 21 - ((i : Int) + 1).toNat < 21 - ((i : Nat) : Int).toNat
            omega
      · have hi : f.length ≤ i := by
          have : ¬ ((i : Int) < (f.length : Int)) := fun z => hc (decide_eq_true z)
          omega
        exact ⟨_, rfl, k q H2 f s2 hq hf fun v => fd.done hi v⟩
    · intro σ H2 Q1 Q2 m h
      obtain ⟨v, e, u, e2, q2⟩ := h
      exact ⟨v, e, u, e2, qLen_mono (fun y H3 z => by
        obtain ⟨i, j, e3, e4, x, e5, t⟩ := z
        exact ⟨i, j, e3, e4, x, e5, m _ _ t⟩) q2⟩
abbrev s__law_of_use : Stmt := top 129
theorem sc__law_of_use : FnScope ["_law_machine", "_law_many", "_law_ones", "_law_others", "_law_k"] ["_law_machine"] (defScope s__law_of_use) := ⟨rfl, rfl, rfl, by decide +kernel, rfl, by decide +kernel, by decide +kernel⟩
theorem ok__law_of_use (T : Txt w K mg) : Cal P w K mg base CX0 3 "_law_of_use" spOfUse := by
  refine cal_ok T.d__law_of_use (fun _ _ _ _ _ _ us hl => match us, hl with | [_], _ => rfl) sc__law_of_use (fun vs H Q E h => ?_) (fun cdv A outer s f H vs Q E hr h => ?_)
  · obtain ⟨_, _, rfl, _⟩ := h; rfl
  · obtain ⟨a, M, rfl, ha, wM, k⟩ := h
    refine ⟨_, PSs.nox (pss_cons (ps_set (i := 1) sc__law_of_use.nd rfl (Or.inl rfl) (pe_callB (call_lenQ K) (by rfl) T.f_len PySem.boot_len (pa_cons (pe_ix (ix_tupQ K) (pv 0) pe_int (fun _ _ => rfl)) pa_nil)))
      (pss_cons (ps_set (i := 2) sc__law_of_use.nd rfl (Or.inr rfl) (pe_c0 (ok__law_come_to T) hr (by decide) rfl (pa_cons (pv 0) (pa_cons (pe_lc (own := [("_law_k", 4)]) rfl sc__law_of_use.nd (pi_range1 rfl T.f_range (pa_cons (pv 1) pa_nil)) (blkOk_by (own := [("_law_k", 4)]) (N := ["_law_machine", "_law_many", "_law_ones", "_law_others", "_law_k"]) (sc := defScope s__law_of_use) (by decide +kernel)) (fun _ _ _ _ _ => (pg_name (i := 4) sc__law_of_use.nd rfl (Or.inl rfl))) (fun _ _ _ _ _ => (pts_one (pt_cmpR op_notN (pe_ix (ix_tupQ K) (pe_ix (ix_tupQ K) (pv 0) pe_int (fun _ _ => rfl)) (pv 4) (fun _ _ => rfl)) pe_non (nomark _)))) (fun _ _ _ _ _ => (pv 4))) (pa_cons pe_bl pa_nil)))))
      (pss_cons (ps_set (i := 3) sc__law_of_use.nd rfl (Or.inr rfl) (pe_c0 (ok__law_come_to T) hr (by decide) rfl (pa_cons (pv 0) (pa_cons (pe_lc (own := [("_law_k", 4)]) rfl sc__law_of_use.nd (pi_range1 rfl T.f_range (pa_cons (pv 1) pa_nil)) (blkOk_by (own := [("_law_k", 4)]) (N := ["_law_machine", "_law_many", "_law_ones", "_law_others", "_law_k"]) (sc := defScope s__law_of_use) (by decide +kernel)) (fun _ _ _ _ _ => (pg_name (i := 4) sc__law_of_use.nd rfl (Or.inl rfl))) (fun _ _ _ _ _ => (pts_one (pt_cmpR op_notN (pe_ix (ix_tupQ K) (pe_ix (ix_tupQ K) (pv 0) pe_int (fun _ _ => rfl)) (pv 4) (fun _ _ => rfl)) pe_non (nomark _)))) (fun _ _ _ _ _ => (pv 4))) (pa_cons pe_bl pa_nil)))))
      (pss_one (ps_ret (pe_lc (own := [("_law_k", 4)]) rfl sc__law_of_use.nd (pi_range1 rfl T.f_range (pa_cons (pv 1) pa_nil)) (blkOk_by (own := [("_law_k", 4)]) (N := ["_law_machine", "_law_many", "_law_ones", "_law_others", "_law_k"]) (sc := defScope s__law_of_use) (by decide +kernel)) (fun _ _ _ _ _ => (pg_name (i := 4) sc__law_of_use.nd rfl (Or.inl rfl))) (fun _ _ _ _ _ => (pts_one (PW.pt (pw_and (pt_cmpR (op_in_seqQ K) (pv 4) (pv 2) (by rfl)) (pw_and1 (pt_cmpR (op_in_seqQ K) (pv 4) (pv 3) (by rfl))))))) (fun _ _ _ _ _ => (pv 4)))))))), ?_⟩
    generalize hn : M.st.length = n
    have hn20 : n ≤ 20 := by rw [← hn]; exact wM.few
    refine ⟨_, rfl, r_ixT 1 ha rfl fun sv hsv => r_lenT hsv ?_⟩
    rw [List.length_map, hn]
    have s02 := Same.refl H
    have fsn : ∀ x ∈ begunL M.st, x < M.st.length := fun x hx => List.mem_range.mp (List.mem_filter.mp hx).1
    have fen : ∀ x ∈ begunL M.en, x < M.st.length := fun x hx => by
      have := List.mem_range.mp (List.mem_filter.mp hx).1
      have := wM.ends
      omega
    refine ⟨_, rfl, _, rfl, n, rfl, by omega, by omega, fun Dd hD => ?_⟩
    refine lc_gen (H0 := H) (walk_range0 (n := (n : Int).toNat)) hD (small (by omega)) (fun _ _ => trivial) same_YFn (fun i => if ((M.st[i]?).getD none).isSome = true then some (dN i) else none) ?_ ?_
    · rintro i x H3 H4 hi s4 ⟨rfl, rfl⟩ s3 Kf Kt hf ht
      have hi2 : i < M.st.length := by omega
      have hmi : M.st[i]? = some M.st[i] := List.getElem?_eq_getElem hi2
      refine ⟨rfl, _, rfl, r_ixT 1 (ha.same s4) rfl fun sv hsv => ⟨_, rfl, r_ixT i hsv (by rw [List.getElem?_map, hmi] <;> rfl) fun c hc => ?_⟩⟩
      cases rep_W hc
      refine ⟨rfl, _, rfl, ?_⟩
      cases hc2 : M.st[i] with
      | none =>
        refine iteF (hf (if_neg ?_) _ (Same.refl _))
        rw [hmi, hc2]; exact Bool.noConfusion
      | some c =>
        refine iteT ⟨_, rfl, ht (dN i) (if_pos ?_) _ _ (Same.refl _) rfl⟩
        rw [hmi, hc2]; rfl
    intro H3 s3 hl3
    rw [fm_if] at hl3
    have e3 : ((List.range (n : Int).toNat).filter fun i => ((M.st[i]?).getD none).isSome) = begunL M.st := by
      unfold begunL
      rw [show (n : Int).toNat = M.st.length by omega]
    rw [e3] at hl3
    refine ⟨a, Dd, false, M, begunL M.st, rfl, ha.same s3, wM, hl3, nodup_filt _ List.nodup_range, fsn, fun on H4 ones s4 hon hl4 ho1 => ?_⟩
    have s14 := s3.trans s4
    refine ⟨_, rfl, _, rfl, n, rfl, by omega, by omega, fun De hDe => ?_⟩
    refine lc_gen (H0 := H4) (walk_range0 (n := (n : Int).toNat)) hDe (small (by omega)) (fun _ _ => trivial) same_YFn (fun i => if ((M.en[i]?).getD none).isSome = true then some (dN i) else none) ?_ ?_
    · rintro i x H5 H6 hi s6 ⟨rfl, rfl⟩ s5 Kf Kt hf ht
      have hi2 : i < M.en.length := by have := wM.ends; omega
      have hmi : M.en[i]? = some M.en[i] := List.getElem?_eq_getElem hi2
      refine ⟨rfl, _, rfl, r_ixT 3 (ha.same (s14.trans s6)) rfl fun sv hsv => ⟨_, rfl, r_ixT i hsv (by rw [List.getElem?_map, hmi] <;> rfl) fun c hc => ?_⟩⟩
      cases rep_W hc
      refine ⟨rfl, _, rfl, ?_⟩
      cases hc2 : M.en[i] with
      | none =>
        refine iteF (hf (if_neg ?_) _ (Same.refl _))
        rw [hmi, hc2]; exact Bool.noConfusion
      | some c =>
        refine iteT ⟨_, rfl, ht (dN i) (if_pos ?_) _ _ (Same.refl _) rfl⟩
        rw [hmi, hc2]; rfl
    intro H5 s5 hl5
    rw [fm_if] at hl5
    have e5 : ((List.range (n : Int).toNat).filter fun i => ((M.en[i]?).getD none).isSome) = begunL M.en := by
      unfold begunL
      rw [show (n : Int).toNat = M.en.length by have := wM.ends; omega]
    rw [e5] at hl5
    have s15 := s14.trans s5
    refine ⟨a, De, true, M, begunL M.en, rfl, ha.same s15, wM, hl5, nodup_filt _ List.nodup_range, fen, fun ot H6 others s6 hot hl6 ho2 => ?_⟩
    have s16 := s15.trans s6
    refine ⟨_, rfl, n, rfl, by omega, by omega, fun Dh hDh => ?_⟩
    refine lc_gen (H0 := H6) (walk_range0 (n := (n : Int).toNat)) hDh (small (by omega)) (fun _ _ => trivial) same_YFn (fun i => if (decide (i ∈ ones) && decide (i ∈ others)) = true then some (dN i) else none) ?_ ?_
    · rintro i x H9 H10 hi s10 ⟨rfl, rfl⟩ s9 Kf Kt hf ht
      refine ⟨rfl, _, rfl, _, rfl, r_in (hl4.same (s5.trans (s6.trans s10))) ⟨_, rfl, ?_⟩⟩
      by_cases h1 : i ∈ ones
      · rw [decide_eq_true h1]
        refine iteT ⟨_, rfl, _, rfl, r_in (hl6.same s10) ⟨_, rfl, ?_⟩⟩
        by_cases h2 : i ∈ others
        · rw [decide_eq_true h2]
          refine iteT ⟨_, rfl, ht (dN i) (if_pos ?_) _ _ (Same.refl _) rfl⟩
          rw [decide_eq_true h1, decide_eq_true h2]; rfl
        · rw [decide_eq_false h2]
          refine iteF (hf (if_neg ?_) _ (Same.refl _))
          rw [decide_eq_true h1, decide_eq_false h2]; exact Bool.noConfusion
      · rw [decide_eq_false h1]
        refine iteF (iteF (hf (if_neg ?_) _ (Same.refl _)))
        rw [decide_eq_false h1]; exact Bool.noConfusion
    intro H9 s9 hl9
    rw [fm_if] at hl9
    refine k _ ⟨List.Nodup.sublist List.filter_sublist List.nodup_range, fun v => ?_⟩ Dh H9 (s16.trans s9) (same_none s16 hDh) hl9
    rw [List.mem_filter, List.mem_range, Bool.and_eq_true, decide_eq_true_eq, decide_eq_true_eq, ho1, ho2, hn, show (n : Int).toNat = n by omega]
    unfold prs
    rw [hn]
    rfl
end
end L2.Ww
set_option Elab.async false
set_option linter.all false
set_option maxRecDepth 100000
set_option maxHeartbeats 4000000
/-! The law's rounds. -/
namespace L2.Ww
open PySem PySem.Spec PyProof.Rows
/-! ### d != e for dicts of ints -/
def hitB (ks ls : List (Key × V)) : Bool := ks.all fun p => match valV ls p.1 with | none => false | some y => eqV p.2 y
theorem hits_G {A : Around} {s : Shared} {ls : List (Key × V)} {vb : List (Key × Value)} (rb : KV ls vb) (fb : ∀ p ∈ ls, flatV p.2 = true) {ks : List (Key × V)} {va : List (Key × Value)} (ra : KV ks va) :
    (∀ p ∈ ks, flatV p.2 = true) → PySem.W.KeqHits A s vb va (hitB ks ls) := by
  unfold KV at ra
  induction ra with
  | nil => intro _; exact .nil
  | @cons p q ps qs h t ih =>
    intro hp
    obtain ⟨h1, h2⟩ := h
    have fp := hp p List.mem_cons_self
    obtain ⟨k, v⟩ := q
    have h1' : p.1 = k := h1
    have rv := rb.val p.1
    show PySem.W.KeqHits A s vb ((k, v) :: qs) ((match valV ls p.1 with | none => false | some y => eqV p.2 y) && hitB ps ls)
    cases e : valV ls p.1 with
    | none =>
      rw [e] at rv
      have hn : valueAt vb k = none := by
        rw [← h1']
        cases e2 : valueAt vb p.1 with
        | none => rfl
        | some z => rw [e2] at rv; cases rv
      exact .miss hn
    | some y =>
      rw [e] at rv
      obtain ⟨z, hz, rz⟩ := rv.some_of
      rw [h1'] at hz
      have fy : flatV y = true := by
        have hm : (p.1, y) ∈ ls ∨ True := .inr trivial
        obtain ⟨kv, hkv, e3⟩ : ∃ kv ∈ ls, kv.2 = y := by
          unfold valV at e
          cases e4 : ls.find? fun kv => decide (kv.1 = p.1) with
          | none => rw [e4] at e; cases e
          | some kv => rw [e4] at e; cases e; exact ⟨kv, List.mem_of_find?_eq_some e4, rfl⟩
        rw [← e3]; exact fb kv hkv
      exact .hit hz (eqAt_V h2 rz fp fy) (ih fun p' hm => hp p' (List.mem_cons_of_mem _ hm))
@[irreducible] def qNeP : R2 := fun x y H Q => ∃ a b ks ls, x = .ref a ∧ y = .ref b ∧ H a = some (.dK ks) ∧ H b = some (.dK ls) ∧ (∀ p ∈ ks, flatV p.2 = true) ∧ (∀ p ∈ ls, flatV p.2 = true) ∧ Q (.bl (!(ks.length == ls.length && hitB ks ls))) H
theorem op_neP {X : Cx} (hu : X.A.units < cLine) : OpR X (compareOp .NotEq) qNeP := by
  unfold qNeP
  intro pins s σ H x y v u Q I rx ry h
  obtain ⟨a, b, ks, ls, rfl, rfl, ea, eb, fa, fb, q⟩ := h
  obtain rfl : v = Value.ref a := rx
  obtain rfl : u = Value.ref b := ry
  obtain ⟨_, ya, va, ra, da⟩ := (show ObjOk X.prog X.w H s.heap a (.dK ks) from I.hok a _ ea)
  obtain ⟨_, yb, vb, rb, db⟩ := (show ObjOk X.prog X.w H s.heap b (.dK ls) from I.hok b _ eb)
  refine PySem.W.keq_ne (knd := mixKind X.prog X.w) (r := hitB ks ls) ya yb da db hu (fun _ => hits_G rb fb ra fa) (fin_bl I q ?_)
  rw [← ra.length, ← rb.length]
/-! ### tables of the least -/
structure Tb (L : List (Nat × Int)) (us : List Nat) (B : Nat → Int → Prop) : Prop where
  nd : (L.map (·.1)).Nodup
  key : ∀ p ∈ L, p.1 ∈ us
  min : ∀ v, BF.MinOf (B v) (CH.look L v)
theorem Tb.congr {L : List (Nat × Int)} {us : List Nat} {B B' : Nat → Int → Prop} (h : Tb L us B) (e : ∀ v c, B v c ↔ B' v c) : Tb L us B' := ⟨h.nd, h.key, fun v => (h.min v).congr (e v)⟩
theorem put_mem {L : List (Nat × Int)} {k : Nat} {x : Int} {p : Nat × Int} (h : p ∈ CH.put L k x) : p.1 ∈ L.map (·.1) ∨ p.1 = k := by
  have h2 : p.1 ∈ (CH.put L k x).map (·.1) := List.mem_map.mpr ⟨p, h, rfl⟩
  rw [CH.put_keys] at h2
  split at h2
  · exact .inl h2
  · rcases List.mem_append.mp h2 with h2 | h2
    · exact .inl h2
    · exact .inr (List.mem_singleton.mp h2)
theorem Tb.put {L : List (Nat × Int)} {us : List Nat} {B : Nat → Int → Prop} (h : Tb L us B) {k : Nat} {c : Int} (hk : k ∈ us) (hc : ∀ y, CH.look L k = some y → c < y) : Tb (CH.put L k c) us (fun v x => B v x ∨ (v = k ∧ x = c)) := by
  refine ⟨CH.put_nd h.nd _ _, fun p hp => ?_, fun v => ?_⟩
  · rcases put_mem hp with h1 | h1
    · obtain ⟨q, hq, e⟩ := List.mem_map.mp h1
      rw [← e]; exact h.key q hq
    · rw [h1]; exact hk
  · rw [CH.look_put]
    by_cases e : v = k
    · subst e
      rw [if_pos rfl]
      refine ⟨(fun z => by cases z), fun w z => ?_⟩
      cases z
      refine ⟨.inr ⟨rfl, rfl⟩, fun x hx => ?_⟩
      rcases hx with hx | ⟨_, rfl⟩
      · cases e2 : CH.look L v with
        | none => exact absurd hx ((h.min v).1 e2 x)
        | some y =>
          have h1 := hc y e2
          have h2 := ((h.min v).2 y e2).2 x hx
          omega
      · exact Int.le_refl _
    · rw [if_neg e]
      exact (h.min v).congr fun x => ⟨.inl, fun z => z.resolve_right fun q => e q.1⟩
theorem Tb.skip {L : List (Nat × Int)} {us : List Nat} {B : Nat → Int → Prop} (h : Tb L us B) {k : Nat} {c y : Int} (hy : CH.look L k = some y) (hc : y ≤ c) : Tb L us (fun v x => B v x ∨ (v = k ∧ x = c)) := by
  refine ⟨h.nd, h.key, fun v => ?_⟩
  by_cases e : v = k
  · subst e
    have h1 := (h.min v).2 y hy
    refine ⟨(fun z => by rw [hy] at z; cases z), fun w z => ?_⟩
    rw [hy] at z
    cases z
    refine ⟨.inl h1.1, fun x hx => ?_⟩
    rcases hx with hx | ⟨_, rfl⟩
    · exact h1.2 x hx
    · exact hc
  · exact (h.min v).congr fun x => ⟨.inl, fun z => z.resolve_right fun q => e q.1⟩
theorem Tb.few {L : List (Nat × Int)} {us : List Nat} {B : Nat → Int → Prop} (h : Tb L us B) : L.length ≤ us.length := by
  have := BF.nodup_len (us := us) h.nd fun x hx => by
    obtain ⟨p, hp, rfl⟩ := List.mem_map.mp hx
    exact h.key p hp
  rw [List.length_map] at this
  exact this
theorem min_dom {S T : Int → Prop} {o : Option Int} (h : BF.MinOf S o) (a : ∀ c, S c → T c) (b : ∀ t, T t → ∃ s, S s ∧ s ≤ t) : BF.MinOf T o :=
  ⟨fun e t ht => by obtain ⟨s, hs, _⟩ := b t ht; exact h.1 e s hs, fun w e => ⟨a w (h.2 w e).1, fun t ht => by
    obtain ⟨s, hs, hl⟩ := b t ht
    have := (h.2 w e).2 s hs
    omega⟩⟩
/-- what one round adds -/
def Rnd (M : Mach) (us : List Nat) (Lb : List (Nat × Int)) (B : Nat → Int → Prop) (v : Nat) (c : Int) : Prop := B v c ∨ ∃ j b e, j ∈ us ∧ v ∈ us ∧ CH.look Lb j = some b ∧ BF.MinOf (Ed M j v) (some e) ∧ c = b + e
theorem rnd_T {M : Mach} {us : List Nat} {Lb L : List (Nat × Int)} {k : Nat} (hb : Tb Lb us (BF.T (stF M.st) (Ed M) us k)) (h : Tb L us (Rnd M us Lb (BF.T (stF M.st) (Ed M) us k))) : Tb L us (BF.T (stF M.st) (Ed M) us (k + 1)) := by
  refine ⟨h.nd, h.key, fun v => min_dom (h.min v) (fun c hc => ?_) fun t ht => ?_⟩
  · rcases hc with ⟨m, hm, hs⟩ | ⟨j, b, e, hj, hv, hl, he, rfl⟩
    · exact ⟨m, by omega, hs⟩
    · obtain ⟨m, hm, hs⟩ := ((hb.min j).2 b hl).1
      exact ⟨m + 1, by omega, BF.S.succ.mpr ⟨j, b, e, hs, ⟨hj, hv, (he.2 e rfl).1⟩, rfl⟩⟩
  · obtain ⟨m, hm, hs⟩ := ht
    by_cases hmk : m ≤ k
    · exact ⟨t, .inl ⟨m, hmk, hs⟩, Int.le_refl _⟩
    · have em : m = k + 1 := by omega
      subst em
      obtain ⟨u, c1, d, hs1, ⟨hu, hv, hd⟩, rfl⟩ := BF.S.succ.mp hs
      cases e1 : CH.look Lb u with
      | none => exact absurd ⟨k, Nat.le_refl _, hs1⟩ ((hb.min u).1 e1 c1)
      | some b =>
        have h1 := ((hb.min u).2 b e1).2 c1 ⟨k, Nat.le_refl _, hs1⟩
        have hne : stepNs M u v ≠ [] := fun z => by
          have := stepNs_mem.mpr hd
          rw [z] at this; cases this
        obtain ⟨e, he⟩ : ∃ e, (stepNs M u v).min? = some e := by
          cases z : (stepNs M u v).min? with
          | none => exact absurd (List.min?_eq_none_iff.mp z) hne
          | some e => exact ⟨e, rfl⟩
        have hm2 := List.min?_eq_some_iff.mp he
        have hmin : BF.MinOf (Ed M u v) (some e) := ⟨(fun z => by cases z), fun w z => by cases z; exact ⟨stepNs_mem.mp hm2.1, fun c hc => hm2.2 c (stepNs_mem.mpr hc)⟩⟩
        have h2 := (hmin.2 e rfl).2 d hd
        exact ⟨b + e, .inr ⟨u, b, e, hu, hv, e1, hmin, rfl⟩, by omega⟩
def spRound : Sp := fun vs H Q _ => ∃ a p b M us Lb B, vs = [a, .ref p, .ref b] ∧ Rep H (dMach M) a ∧ M.WF ∧ LstAt H p (dNs us) ∧ (∀ u ∈ us, u < M.st.length) ∧ us.length ≤ 20 ∧ DctAt H b (pD Lb) ∧ Tb Lb us B ∧
  ∀ q H' L, Same H H' → H q = none → DctAt H' q (pD L) → Tb L us (Rnd M us Lb B) → Q (.ref q) H'
section
variable {P : Program} {w : World} {K : PySem.W.Frag} {mg : Str → Option Value} {base : Heap}
abbrev s__law_round : Stmt := top 130
theorem sc__law_round : FnScope ["_law_machine", "_law_some", "_law_best", "_law_more", "_law_j", "_law_k", "_law_cost"] ["_law_machine", "_law_some", "_law_best"] (defScope s__law_round) := ⟨rfl, rfl, rfl, by decide +kernel, rfl, by decide +kernel, by decide +kernel⟩
theorem ok__law_round (T : Txt w K mg) : Cal P w K mg base CX0 2 "_law_round" spRound := by
  refine cal_ok T.d__law_round (fun _ _ _ _ _ _ us hl => match us, hl with | [_, _, _], _ => rfl) sc__law_round (fun vs H Q E h => ?_) (fun cdv A outer s f H vs Q E hr h => ?_)
  · obtain ⟨_, _, _, _, _, _, _, rfl, _⟩ := h; rfl
  · obtain ⟨a, p, b, M, us, Lb, B, rfl, ha, wM, hp, hu, hul, hb, tb, k⟩ := h
    refine ⟨_, PSs.nox (pss_cons (ps_set (i := 3) sc__law_round.nd rfl (Or.inl rfl) (pe_callTy call_dictD (by rfl) T.f_dict (by decide +kernel) (pa_cons (pv 2) pa_nil)))
      (pss_cons (ps_for PassesOwn.never rfl (pi_list (pv 1)) (pg_name (i := 4) sc__law_round.nd rfl (Or.inl rfl))
      (pss_one (ps_for PassesOwn.never rfl (pi_list (pv 1)) (pg_name (i := 5) sc__law_round.nd rfl (Or.inl rfl))
      (pss_cons (ps_set (i := 6) sc__law_round.nd rfl (Or.inl rfl) (pe_c0 (ok__law_step T) hr (by decide) rfl (pa_cons (pv 0) (pa_cons (pv 4) (pa_cons (pv 5) pa_nil)))))
      (pss_one (ps_if (PW.pt (pw_and (pt_cmp (pc_din (hu_of hr) (pv 4) (pv 2))) (pw_and (pt_cmpR op_notN (pv 6) pe_non (nomark _)) (pw_and1 (PW.pt (pw_or (pt_cmp (pc_dnotin (hu_of hr) (pv 5) (pv 3))) (pw_or1 (pt_cmpR op_lt (pe_op op_add (pe_dget (hu_of hr) (pv 2) (pv 4) (fun _ _ => rfl)) (pv 6)) (pe_dget (hu_of hr) (pv 3) (pv 5) (fun _ _ => rfl)) (nomark _))))))))) (pss_one (ps_dput (hu_of hr) (pv 3) (pv 5) (pe_op op_add (pe_dget (hu_of hr) (pv 2) (pv 4) (fun _ _ => rfl)) (pv 6)) rfl)) pss_nil))))))
      (pss_one (ps_ret (pv 3))))), ?_⟩
    obtain ⟨kvs, hkv, ent⟩ := id hb
    refine ⟨_, rfl, b, kvs, rfl, .inl hkv, fun q hq => ?_⟩
    have s1 : Same H (upd H q (.dK kvs)) := Same.upd' hq
    have hl1 : DctAt (upd H q (.dK kvs)) q (pD Lb) := ⟨kvs, upd_same, ent.up (TupLe.of_same s1)⟩
    generalize upd H q (.dK kvs) = H1 at s1 hl1
    have hps := lst_ns hp
    refine ⟨_, rfl, p, rfl, ⟨_, SqL.of (s1 _ _ hps)⟩, for_it (walk_list (xs := us.map fun (n : Nat) => V.int (n : Int))) (fun i σ H4 => ∃ y4 y5 y6 L, σ = [some a, some (.ref p), some (.ref b), some (.ref q), y4, y5, y6] ∧ Same H H4 ∧ DctAt H4 q (pD L) ∧ Tb L us (fun v c => B v c ∨ ∃ j b e, j ∈ us.take i ∧ v ∈ us ∧ CH.look Lb j = some b ∧ BF.MinOf (Ed M j v) (some e) ∧ c = b + e))
      ⟨none, none, none, Lb, rfl, s1, hl1, tb.congr fun v c => ⟨.inl, fun z => z.resolve_right fun ⟨j, _, _, hj, _⟩ => by simp at hj⟩⟩ (fun i σ H4 _ ⟨_, _, _, _, _, s4, _⟩ => SqL.of (s4 _ _ hps)) ?_ ?_⟩
    · rintro i z σ Hx H4 hi ⟨y4, y5, y6, L, rfl, s4, hl4, tb4⟩ ⟨rfl, hz⟩
      rw [List.getElem?_map, Option.map_eq_some_iff] at hz
      obtain ⟨j, hj, rfl⟩ := hz
      have hjus := List.mem_of_getElem? hj
      have hjn := hu j hjus
      refine ⟨_, rfl, p, rfl, ⟨_, SqL.of (s4 _ _ hps)⟩, for_it (walk_list (xs := us.map fun (n : Nat) => V.int (n : Int))) (fun m σ H5 => ∃ y5 y6 L, σ = [some a, some (.ref p), some (.ref b), some (.ref q), some (.int (j : Int)), y5, y6] ∧ Same H H5 ∧ DctAt H5 q (pD L) ∧ Tb L us (fun v c => (B v c ∨ ∃ j b e, j ∈ us.take i ∧ v ∈ us ∧ CH.look Lb j = some b ∧ BF.MinOf (Ed M j v) (some e) ∧ c = b + e) ∨ ∃ b e, v ∈ us.take m ∧ CH.look Lb j = some b ∧ BF.MinOf (Ed M j v) (some e) ∧ c = b + e))
        ⟨_, _, L, rfl, s4, hl4, tb4.congr fun v c => ⟨.inl, fun z => z.resolve_right fun ⟨_, _, hv, _⟩ => by simp at hv⟩⟩ (fun m σ H5 _ ⟨_, _, _, _, s5, _⟩ => SqL.of (s5 _ _ hps)) ?_ ?_⟩
      · rintro m z σ Hy H5 hm ⟨y5, y6, L5, rfl, s5, hl5, tb5⟩ ⟨rfl, hz⟩
        rw [List.getElem?_map, Option.map_eq_some_iff] at hz
        obtain ⟨v, hv, rfl⟩ := hz
        have hvus := List.mem_of_getElem? hv
        have hvn := hu v hvus
        have take1 : us.take (m + 1) = us.take m ++ [v] := by rw [List.take_add_one, hv] <;> rfl
        refine ⟨_, rfl, _, rfl, _, rfl, a, M, j, v, rfl, ha.same s5, wM, hjn, hvn, fun o H6 hmin s6 => ?_⟩
        have s56 := s5.trans s6
        have hl6 := hl5.same s6
        have hb6 := hb.same s56
        -- nothing new
        have same : ∀ (hno : ∀ b e, CH.look Lb j = some b → BF.MinOf (Ed M j v) (some e) → False), Tb L5 us (fun x c => (B x c ∨ ∃ j b e, j ∈ us.take i ∧ x ∈ us ∧ CH.look Lb j = some b ∧ BF.MinOf (Ed M j x) (some e) ∧ c = b + e) ∨ ∃ b e, x ∈ us.take (m + 1) ∧ CH.look Lb j = some b ∧ BF.MinOf (Ed M j x) (some e) ∧ c = b + e) := fun hno => tb5.congr fun x c => by
          rw [take1]
          constructor
          · rintro (h | ⟨b, e, h1, h2⟩)
            · exact .inl h
            · exact .inr ⟨b, e, List.mem_append.mpr (.inl h1), h2⟩
          · rintro (h | ⟨b, e, h1, h2, h3, h4⟩)
            · exact .inl h
            · rcases List.mem_append.mp h1 with h1 | h1
              · exact .inr ⟨b, e, h1, h2, h3, h4⟩
              · rw [List.mem_singleton.mp h1] at h3
                exact (hno b e h2 h3).elim
        have one : ∀ {b0 e0 : Int} {L' : List (Nat × Int)}, CH.look Lb j = some b0 → BF.MinOf (Ed M j v) (some e0) → Tb L' us (fun x c => ((B x c ∨ ∃ j b e, j ∈ us.take i ∧ x ∈ us ∧ CH.look Lb j = some b ∧ BF.MinOf (Ed M j x) (some e) ∧ c = b + e) ∨ ∃ b e, x ∈ us.take m ∧ CH.look Lb j = some b ∧ BF.MinOf (Ed M j x) (some e) ∧ c = b + e) ∨ (x = v ∧ c = b0 + e0)) →
            Tb L' us (fun x c => (B x c ∨ ∃ j b e, j ∈ us.take i ∧ x ∈ us ∧ CH.look Lb j = some b ∧ BF.MinOf (Ed M j x) (some e) ∧ c = b + e) ∨ ∃ b e, x ∈ us.take (m + 1) ∧ CH.look Lb j = some b ∧ BF.MinOf (Ed M j x) (some e) ∧ c = b + e) := fun {b0 e0 L'} hb0 he0 t => t.congr fun x c => by
          rw [take1]
          constructor
          · rintro ((h | ⟨b, e, h1, h2⟩) | ⟨rfl, rfl⟩)
            · exact .inl h
            · exact .inr ⟨b, e, List.mem_append.mpr (.inl h1), h2⟩
            · exact .inr ⟨b0, e0, by simp, hb0, he0, rfl⟩
          · rintro (h | ⟨b, e, h1, h2, h3, h4⟩)
            · exact .inl (.inl h)
            · rcases List.mem_append.mp h1 with h1 | h1
              · exact .inl (.inr ⟨b, e, h1, h2, h3, h4⟩)
              · have ex := List.mem_singleton.mp h1
                subst ex
                rw [hb0] at h2
                cases h2
                have := BF.MinOf.uniq he0 h3
                cases this
                exact .inr ⟨rfl, h4⟩
        refine ⟨_, rfl, _, rfl, ?_⟩
        have dich : CH.look Lb j = none ∨ ∃ b0, CH.look Lb j = some b0 := by
          cases CH.look Lb j with
          | none => exact .inl rfl
          | some b => exact .inr ⟨b, rfl⟩
        rcases dich with e1 | ⟨b0, e1⟩
        · refine ⟨b, _, rfl, hb6.rd.gotN (by rw [look_pD, e1]; rfl), _, rfl, iteF (iteF ⟨_, _, L5, rfl, s56, hl6, same fun b e h _ => by rw [e1] at h; cases h⟩)⟩
        · obtain ⟨bv, gb, rb⟩ := hb6.rd.gotS (n := j) (d := .a (.int b0)) (by rw [look_pD, e1]; rfl)
          cases rb
          refine ⟨b, _, rfl, gb, _, rfl, iteT ⟨_, rfl, rfl, _, rfl, ?_⟩⟩
          cases o with
          | none =>
            exact iteF (iteF ⟨_, _, L5, rfl, s56, hl6, same fun b e _ h => by have := BF.MinOf.uniq hmin h; cases this⟩)
          | some e0 =>
            refine iteT ⟨_, rfl, _, rfl, ?_⟩
            have store : (∀ y, CH.look L5 v = some y → b0 + e0 < y) → ∃ H7, DPut H6 q (.int (v : Int)) (.int (b0 + e0)) H7 ∧ Same H H7 ∧ DctAt H7 q (pD (CH.put L5 v (b0 + e0))) := fun hc => by
              obtain ⟨H7, dp, k7, t7, o7, d7⟩ := hl6.put (n := v) (d := .a (.int (b0 + e0))) (v := .int (b0 + e0)) rfl (by rw [pD, List.length_map]; exact Nat.lt_of_le_of_lt (Nat.le_trans tb5.few hul) (by decide))
              refine ⟨H7, dp, k7 H hq s56, ?_⟩
              unfold pD at d7 ⊢
              have := put_map (fun x : Int => D.a (.int x)) L5 v (b0 + e0)
              rw [this] at d7
              exact d7
            cases e2 : CH.look L5 v with
            | none =>
              refine ⟨q, _, rfl, hl6.rd.gotN (by rw [look_pD, e2]; rfl), _, rfl, iteT (iteT ?_)⟩
              obtain ⟨H7, dp, s7, d7⟩ := store fun y e => by rw [e2] at e; cases e
              refine ⟨_, rfl, _, rfl, b, _, rfl, gb, _, rfl, _, _, rfl, rfl, _, rfl, _, rfl, q, H7, rfl, dp, _, _, _, rfl, s7, d7, one e1 hmin (tb5.put hvus fun y e => by rw [e2] at e; cases e)⟩
            | some y =>
              obtain ⟨yv, gy, ry⟩ := hl6.rd.gotS (n := v) (d := .a (.int y)) (by rw [look_pD, e2]; rfl)
              cases ry
              refine ⟨q, _, rfl, gy, _, rfl, iteF ?_⟩
              refine ⟨_, rfl, _, rfl, b, _, rfl, gb, _, rfl, _, _, rfl, rfl, _, rfl, _, rfl, q, _, rfl, gy, _, _, rfl, rfl, _, rfl, ?_⟩
              refine ite2 (fun hc => ?_) (fun hc => ?_)
              · have hc2 := of_decide_eq_true hc
                obtain ⟨H7, dp, s7, d7⟩ := store fun y' e => by rw [e2] at e; cases e; exact hc2
                refine ⟨_, rfl, _, rfl, b, _, rfl, gb, _, rfl, _, _, rfl, rfl, _, rfl, _, rfl, q, H7, rfl, dp, _, _, _, rfl, s7, d7, one e1 hmin (tb5.put hvus fun y' e => by rw [e2] at e; cases e; exact hc2)⟩
              · have hc2 : ¬ (b0 + e0 < y) := fun z => hc (decide_eq_true z)
                exact ⟨_, _, L5, rfl, s56, hl6, one e1 hmin (tb5.skip e2 (by omega))⟩
      · rintro σ H5 ⟨y5, y6, L5, rfl, s5, hl5, tb5⟩
        rw [List.length_map, List.take_length] at tb5
        refine ⟨_, _, _, L5, rfl, s5, hl5, tb5.congr fun v c => ?_⟩
        rw [List.take_add_one, hj]
        constructor
        · rintro ((h | ⟨j', b, e, h1, h2⟩) | ⟨b, e, h1, h2, h3, h4⟩)
          · exact .inl h
          · exact .inr ⟨j', b, e, List.mem_append.mpr (.inl h1), h2⟩
          · exact .inr ⟨j, b, e, by simp, h1, h2, h3, h4⟩
        · rintro (h | ⟨j', b, e, h1, h2, h3, h4, h5⟩)
          · exact .inl (.inl h)
          · rcases List.mem_append.mp h1 with h1 | h1
            · exact .inl (.inr ⟨j', b, e, h1, h2, h3, h4, h5⟩)
            · have ej : j' = j := by simpa using h1
              subst ej
              exact .inr ⟨b, e, h2, h3, h4, h5⟩
    · rintro σ H4 ⟨y4, y5, y6, L, rfl, s4, hl4, tb4⟩
      rw [List.length_map, List.take_length] at tb4
      exact ⟨_, rfl, k q H4 L s4 hq hl4 tb4⟩
end
end L2.Ww
set_option Elab.async false
set_option linter.all false
set_option maxRecDepth 100000
set_option maxHeartbeats 4000000
/-! The law's prices; what it reckons of a machine. -/
namespace L2.Ww
open PySem PySem.Spec PyProof.Rows
theorem hitB_eq {H : Hp} {L2 : List (Nat × Int)} {ls : List (Key × V)} (e2 : Ents H (pD L2) ls) : ∀ {L1 : List (Nat × Int)} {ks : List (Key × V)}, Ents H (pD L1) ks → hitB ks ls = L1.all fun p => match CH.look L2 p.1 with | none => false | some y => p.2 == y
  | [], ks, h => by rw [show ks = [] from h]; rfl
  | p :: L1, ks, h => by
    obtain ⟨v, r, rfl, h1, h2⟩ := h
    have ih := hitB_eq e2 (L1 := L1) h2
    have hv : v = .int p.2 := h1
    subst hv
    show ((match valV ls (Sum.inl (p.1 : Int)) with | none => false | some y => eqV (.int p.2) y) && hitB r ls) = _
    rw [ih, List.all_cons]
    congr 1
    have g := e2.get (n := p.1)
    rw [look_pD] at g
    cases e : CH.look L2 p.1 with
    | none =>
      rw [e] at g
      rw [show valV ls (Sum.inl (p.1 : Int)) = none from g]
    | some y =>
      rw [e] at g
      obtain ⟨u, hu, hr⟩ := g
      have hu2 : u = .int y := hr
      rw [hu, hu2]
      rfl
theorem flat_ents {H : Hp} : ∀ {L : List (Nat × Int)} {ks : List (Key × V)}, Ents H (pD L) ks → ∀ p ∈ ks, flatV p.2 = true
  | [], ks, h => by rw [show ks = [] from h]; intro p hp; cases hp
  | q :: L, ks, h => by
    obtain ⟨v, r, rfl, h1, h2⟩ := h
    have hv : v = .int q.2 := h1
    intro p hp
    rcases List.mem_cons.mp hp with e | hp
    · rw [e, hv]; rfl
    · exact flat_ents (L := L) h2 p hp
theorem look_key {L : List (Nat × Int)} {k : Nat} : k ∈ L.map (·.1) ↔ CH.look L k ≠ none := by
  constructor
  · intro h e
    obtain ⟨p, hp, e2⟩ := List.mem_map.mp h
    have := CH.look_none.mp e
    rw [List.any_eq_false] at this
    exact this p hp (decide_eq_true e2)
  · intro h
    cases e : CH.look L k with
    | none => exact absurd e h
    | some x => exact List.mem_map.mpr ⟨_, CH.look_mem e, rfl⟩
theorem r_neP {H : Hp} {Q : VK} {a b : Addr} {L1 L2 : List (Nat × Int)} (h1 : DctAt H a (pD L1)) (h2 : DctAt H b (pD L2)) (n1 : (L1.map (·.1)).Nodup) (n2 : (L2.map (·.1)).Nodup) (sub : ∀ v, CH.look L1 v = none → CH.look L2 v = none)
    (k1 : (∀ v, CH.look L1 v = CH.look L2 v) → Q (.bl false) H) (k2 : (∃ v, CH.look L1 v ≠ CH.look L2 v) → Q (.bl true) H) : qNeP (.ref a) (.ref b) H Q := by
  obtain ⟨ks, ha, ea⟩ := h1
  obtain ⟨ls, hb, eb⟩ := h2
  unfold qNeP
  refine ⟨a, b, ks, ls, rfl, rfl, ha, hb, flat_ents ea, flat_ents eb, ?_⟩
  rw [hitB_eq eb ea, ea.len, eb.len, pD, pD, List.length_map, List.length_map]
  by_cases c : ∀ v, CH.look L1 v = CH.look L2 v
  · have l12 : ∀ x, x ∈ L1.map (·.1) ↔ x ∈ L2.map (·.1) := fun x => by rw [look_key, look_key, c x]
    have le1 := BF.nodup_len n1 fun x hx => (l12 x).mp hx
    have le2 := BF.nodup_len n2 fun x hx => (l12 x).mpr hx
    rw [List.length_map, List.length_map] at le1 le2
    have el : (L1.length == L2.length) = true := by rw [beq_iff_eq]; omega
    have all : (L1.all fun p => match CH.look L2 p.1 with | none => false | some y => p.2 == y) = true := by
      rw [List.all_eq_true]
      intro p hp
      have := CH.look_of_mem n1 (k := p.1) (x := p.2) hp
      rw [← c p.1, this]
      exact beq_self_eq_true p.2
    rw [el, all]
    exact k1 c
  · obtain ⟨v, hv⟩ : ∃ v, CH.look L1 v ≠ CH.look L2 v := Classical.byContradiction fun z => c fun v => Classical.byContradiction fun y => z ⟨v, y⟩
    have all : (L1.all fun p => match CH.look L2 p.1 with | none => false | some y => p.2 == y) = false := by
      rw [List.all_eq_false]
      cases e1 : CH.look L1 v with
      | none => rw [e1, sub v e1] at hv; exact absurd rfl hv
      | some x =>
        refine ⟨(v, x), CH.look_mem e1, ?_⟩
        show ¬ (match CH.look L2 v with | none => false | some y => x == y) = true
        cases e2 : CH.look L2 v with
        | none => exact Bool.noConfusion
        | some y =>
          intro z
          have : x = y := eq_of_beq z
          rw [e1, e2, this] at hv
          exact hv rfl
    rw [all, Bool.and_false]
    exact k2 ⟨v, hv⟩
abbrev TM (M : Mach) (us : List Nat) (k : Nat) : Nat → Int → Prop := BF.T (stF M.st) (Ed M) us k
def spLPrices : Sp := fun vs H Q _ => ∃ a p M us, vs = [a, .ref p] ∧ Rep H (dMach M) a ∧ M.WF ∧ IsUse M us ∧ us ≠ [] ∧ LstAt H p (dNs us) ∧ (∀ H', Same H H' → BF.ValS (AccM M) .falls → Q .non H') ∧
  ∀ q H' L, Same H H' → H q = none → DctAt H' q (pD L) → Tb L us (TM M us us.length) → (∀ v c, BF.S (stF M.st) (Ed M) us (us.length + 1) v c → ∃ c', TM M us us.length v c' ∧ c' ≤ c) → Q (.ref q) H'
def spLesser : Sp := fun vs H Q _ => ∃ x y : Wt, vs = [vW x, vW y] ∧ Q (vW (wplus x y)) H
theorem wplus_lt {x y : Int} (h : y < x) : wplus (some x) (some y) = some y := by
  show some (if y < x then y else x) = some y
  rw [if_pos h]
theorem wplus_le {x y : Int} (h : ¬ y < x) : wplus (some x) (some y) = some x := by
  show some (if y < x then y else x) = some x
  rw [if_neg h]
section
variable {P : Program} {w : World} {K : PySem.W.Frag} {mg : Str → Option Value} {base : Heap}
abbrev s__law_lesser : Stmt := top 137
theorem sc__law_lesser : FnScope ["_law_x", "_law_y"] ["_law_x", "_law_y"] (defScope s__law_lesser) := ⟨rfl, rfl, rfl, by decide +kernel, rfl, by decide +kernel, by decide +kernel⟩
theorem ok__law_lesser (T : Txt w K mg) : Cal P w K mg base CX0 1 "_law_lesser" spLesser := by
  refine cal_ok T.d__law_lesser (fun _ _ _ _ _ _ us hl => match us, hl with | [_, _], _ => rfl) sc__law_lesser (fun vs H Q E h => ?_) (fun cdv A outer s f H vs Q E hr h => ?_)
  · obtain ⟨_, _, rfl, _⟩ := h; rfl
  · obtain ⟨x, y, rfl, k⟩ := h
    refine ⟨_, PSs.nox (pss_cons (ps_if (PW.pt (pw_or (pt_cmpR op_isN (pv 0) pe_non (nomark _)) (pw_or1 (PW.pt (pw_and (pt_cmpR op_notN (pv 1) pe_non (nomark _)) (pw_and1 (pt_cmpR op_lt (pv 1) (pv 0) (nomark _)))))))) (pss_one (ps_ret (pv 1))) pss_nil)
      (pss_one (ps_ret (pv 0)))), ?_⟩
    refine ⟨_, rfl, rfl, _, rfl, ?_⟩
    cases x with
    | none => exact iteT (iteT ⟨_, rfl, by cases y <;> exact k⟩)
    | some x =>
      refine iteF ⟨_, rfl, rfl, _, rfl, ?_⟩
      cases y with
      | none => exact iteF (iteF ⟨_, rfl, k⟩)
      | some y =>
        refine iteT ⟨_, rfl, _, rfl, _, _, rfl, rfl, _, rfl, ?_⟩
        refine ite2 (fun hc => ?_) (fun hc => ?_)
        · have := of_decide_eq_true hc
          rw [wplus_lt this] at k
          exact ⟨_, rfl, k⟩
        · rw [wplus_le (fun z => hc (decide_eq_true z))] at k
          exact ⟨_, rfl, k⟩
abbrev s__law_prices : Stmt := top 131
theorem sc__law_prices : FnScope ["_law_machine", "_law_some", "_law_best", "_law_k", "_law_turn"] ["_law_machine", "_law_some"] (defScope s__law_prices) := ⟨rfl, rfl, rfl, by decide +kernel, rfl, by decide +kernel, by decide +kernel⟩
theorem ok__law_prices (T : Txt w K mg) : Cal P w K mg base CX0 3 "_law_prices" spLPrices := by
  refine cal_ok T.d__law_prices (fun _ _ _ _ _ _ us hl => match us, hl with | [_, _], _ => rfl) sc__law_prices (fun vs H Q E h => ?_) (fun cdv A outer s f H vs Q E hr h => ?_)
  · obtain ⟨_, _, _, _, rfl, _⟩ := h; rfl
  · obtain ⟨a, p, M, us, rfl, ha, wM, hu, hne, hp, kF, kL⟩ := h
    refine ⟨_, PSs.nox (pss_cons (ps_set (i := 2) sc__law_prices.nd rfl (Or.inl rfl) pe_dnewK)
      (pss_cons (ps_for PassesOwn.never rfl (pi_list (pv 1)) (pg_name (i := 3) sc__law_prices.nd rfl (Or.inl rfl))
      (pss_one (ps_if (pt_cmpR op_notN (pe_ix (ix_tupQ K) (pe_ix (ix_tupQ K) (pv 0) pe_int (fun _ _ => rfl)) (pv 3) (fun _ _ => rfl)) pe_non (nomark _)) (pss_one (ps_dput (hu_of hr) (pv 2) (pv 3) (pe_ix (ix_tupQ K) (pe_ix (ix_tupQ K) (pv 0) pe_int (fun _ _ => rfl)) (pv 3) (fun _ _ => rfl)) rfl)) pss_nil)))
      (pss_cons (ps_for PassesOwn.never rfl (pi_range1 rfl T.f_range (pa_cons (pe_callB (call_lenQ K) (by rfl) T.f_len PySem.boot_len (pa_cons (pv 1) pa_nil)) pa_nil)) (pg_name (i := 4) sc__law_prices.nd rfl (Or.inl rfl))
      (pss_one (ps_set (i := 2) sc__law_prices.nd rfl (Or.inl rfl) (pe_c0 (ok__law_round T) hr (by decide) rfl (pa_cons (pv 0) (pa_cons (pv 1) (pa_cons (pv 2) pa_nil)))))))
      (pss_cons (ps_if (pt_cmpR (op_neP (Nat.lt_of_le_of_lt (Nat.le_add_right _ _) hr.units)) (pe_c0 (ok__law_round T) hr (by decide) rfl (pa_cons (pv 0) (pa_cons (pv 1) (pa_cons (pv 2) pa_nil)))) (pv 2) (nomark _)) (pss_one (ps_ret pe_non)) pss_nil)
      (pss_one (ps_ret (pv 2))))))), ?_⟩
    have hps := lst_ns hp
    have hul := hu.few wM
    have hult := hu.lt
    intro d0 hd0
    have s1 : Same H (upd H d0 (.dK [])) := Same.upd' hd0
    have hdn : DctAt (upd H d0 (.dK [])) d0 (pD []) := DctAt.nil hd0
    generalize upd H d0 (.dK []) = H1 at s1 hdn
    refine ⟨_, rfl, p, rfl, ⟨_, SqL.of (s1 _ _ hps)⟩, for_it (walk_list (xs := us.map fun (n : Nat) => V.int (n : Int))) (fun i σ H4 => ∃ y3 L, σ = [some a, some (.ref p), some (.ref d0), y3, none] ∧ Same H H4 ∧ DctAt H4 d0 (pD L) ∧ Tb L us (fun v c => v ∈ us.take i ∧ stF M.st v = some c))
      ⟨none, [], rfl, s1, hdn, List.nodup_nil, fun p hp => (nomatch hp), fun v => ⟨fun _ c hc => by simp at hc, fun w e => by cases e⟩⟩ (fun i σ H4 _ ⟨_, _, _, s4, _⟩ => SqL.of (s4 _ _ hps)) ?_ ?_⟩
    · rintro i z σ Hx H4 hi ⟨y3, L, rfl, s4, hl4, tb⟩ ⟨rfl, hz⟩
      rw [List.getElem?_map, Option.map_eq_some_iff] at hz
      obtain ⟨u, hu1, rfl⟩ := hz
      have hum := List.mem_of_getElem? hu1
      have hun := hult u hum
      have hmu : M.st[u]? = some M.st[u] := List.getElem?_eq_getElem hun
      have hst : stF M.st u = M.st[u] := by unfold stF; rw [hmu]; rfl
      have take1 : us.take (i + 1) = us.take i ++ [u] := by rw [List.take_add_one, hu1] <;> rfl
      refine ⟨_, rfl, r_ixT 1 (ha.same s4) rfl fun sv hsv => ⟨_, rfl, r_ixT u hsv (by rw [List.getElem?_map, hmu] <;> rfl) fun c hc => ?_⟩⟩
      cases rep_W hc
      refine ⟨rfl, _, rfl, ?_⟩
      cases hc2 : M.st[u] with
      | none =>
        refine iteF ⟨_, L, rfl, s4, hl4, tb.congr fun v c => ?_⟩
        rw [take1]
        constructor
        · exact fun ⟨h1, h2⟩ => ⟨List.mem_append.mpr (.inl h1), h2⟩
        · rintro ⟨h1, h2⟩
          rcases List.mem_append.mp h1 with h1 | h1
          · exact ⟨h1, h2⟩
          · rw [List.mem_singleton.mp h1, hst, hc2] at h2; cases h2
      | some c =>
        refine iteT ⟨_, rfl, r_ixT 1 (ha.same s4) rfl fun sv hsv => ⟨_, rfl, r_ixT u hsv (by rw [List.getElem?_map, hmu] <;> rfl) fun c1 hc1 => ?_⟩⟩
        cases rep_W hc1
        rw [hc2]
        obtain ⟨H7, dp, k7, t7, o7, d7⟩ := hl4.put (n := u) (d := .a (.int c)) (v := .int c) rfl (by rw [pD, List.length_map]; exact Nat.lt_of_le_of_lt (Nat.le_trans tb.few hul) (by decide))
        have d7' : DctAt H7 d0 (pD (CH.put L u c)) := by
          unfold pD at d7 ⊢
          have := put_map (fun x : Int => D.a (.int x)) L u c
          rw [this] at d7
          exact d7
        have nu : ¬ u ∈ us.take i := fun hm => by
          obtain ⟨j, hj, hj2⟩ := List.mem_iff_getElem.mp hm
          rw [List.length_take] at hj
          rw [List.getElem_take] at hj2
          have h1 : us[j]? = some u := by rw [List.getElem?_eq_getElem (by omega), hj2]
          have := nd_same hu.nd h1 hu1
          omega
        have hnew : ∀ y, CH.look L u = some y → c < y := fun y e => absurd ((tb.min u).2 y e).1.1 nu
        refine ⟨_, rfl, _, rfl, d0, H7, rfl, dp, _, _, rfl, k7 H hd0 s4, d7', (tb.put hum hnew).congr fun v x => ?_⟩
        rw [take1]
        constructor
        · rintro (⟨h1, h2⟩ | ⟨rfl, rfl⟩)
          · exact ⟨List.mem_append.mpr (.inl h1), h2⟩
          · exact ⟨by simp, by rw [hst, hc2]⟩
        · rintro ⟨h1, h2⟩
          rcases List.mem_append.mp h1 with h1 | h1
          · exact .inl ⟨h1, h2⟩
          · have ev := List.mem_singleton.mp h1
            subst ev
            rw [hst, hc2] at h2
            cases h2
            exact .inr ⟨rfl, rfl⟩
    · rintro σ H2 ⟨y3, L0, rfl, s2, hl2, tb0⟩
      rw [List.length_map, List.take_length] at tb0
      have tbT : Tb L0 us (TM M us 0) := tb0.congr fun v c => ⟨fun h => ⟨0, Nat.le_refl _, BF.S.zero.mpr h⟩, fun ⟨m, hm, hs⟩ => by
        have e : m = 0 := by omega
        subst e
        exact BF.S.zero.mp hs⟩
      refine ⟨_, rfl, r_lenL (hp.same s2) ?_⟩
      rw [dNs, List.length_map]
      refine ⟨us.length, rfl, by omega, by omega, for_it (walk_range0 (n := (us.length : Int).toNat)) (fun i σ H4 => ∃ b y3 y4 L, σ = [some a, some (.ref p), some (.ref b), y3, y4] ∧ Same H H4 ∧ H b = none ∧ DctAt H4 b (pD L) ∧ Tb L us (TM M us i))
        ⟨d0, _, none, L0, rfl, s2, hd0, hl2, tbT⟩ (fun _ _ _ _ _ => trivial) ?_ ?_⟩
      · rintro i x σ Hx H4 hi ⟨b, y3, y4, L, rfl, s4, hb0, hl4, tb4⟩ ⟨rfl, rfl⟩
        refine ⟨_, rfl, _, rfl, _, rfl, a, p, b, M, us, L, TM M us i, rfl, ha.same s4, wM, hp.same s4, hult, hul, hl4, tb4, fun q H5 L5 s5 hq hl5 tb5 => ?_⟩
        exact ⟨q, _, _, L5, rfl, s4.trans s5, same_none s4 hq, hl5, rnd_T tb4 tb5⟩
      · rintro σ H4 ⟨b, y3, y4, L, rfl, s4, hb0, hl4, tb4⟩
        rw [show (us.length : Int).toNat = us.length by omega] at tb4
        refine ⟨_, rfl, _, rfl, _, rfl, a, p, b, M, us, L, TM M us us.length, rfl, ha.same s4, wM, hp.same s4, hult, hul, hl4, tb4, fun q H5 L5 s5 hq hl5 tb5 => ?_⟩
        have tbN := rnd_T tb4 tb5
        have s45 := s4.trans s5
        have sub : ∀ v, CH.look L5 v = none → CH.look L v = none := fun v e => by
          cases e2 : CH.look L v with
          | none => rfl
          | some y =>
            obtain ⟨⟨m, hm, hs⟩, _⟩ := (tb4.min v).2 y e2
            exact absurd ⟨m, by omega, hs⟩ ((tbN.min v).1 e y)
        refine ⟨_, rfl, r_neP hl5 (hl4.same s5) tb5.nd tb4.nd sub (fun hall => ?_) (fun hex => ?_)⟩
        · refine ⟨_, rfl, iteF ⟨_, rfl, kL b H5 L s45 hb0 (hl4.same s5) tb4 fun v c hs => ?_⟩⟩
          have h1 := tbN.min v
          rw [hall v] at h1
          cases e : CH.look L v with
          | none => exact absurd ⟨us.length + 1, Nat.le_refl _, hs⟩ (h1.1 e c)
          | some y => exact ⟨y, ((tb4.min v).2 y e).1, (h1.2 y e).2 c ⟨us.length + 1, Nat.le_refl _, hs⟩⟩
        · refine ⟨_, rfl, iteT (kF H5 s45 ?_)⟩
          obtain ⟨v, hv⟩ := hex
          cases e1 : CH.look L5 v with
          | none => rw [e1, sub v e1] at hv; exact absurd rfl hv
          | some x =>
            obtain ⟨⟨m, hm, hs⟩, hmin⟩ := (tbN.min v).2 x e1
            cases e2 : CH.look L v with
            | none =>
              obtain ⟨m', c', hm', hs'⟩ := BF.reach_short m v x hs
              exact absurd ⟨m', by omega, hs'⟩ ((tb4.min v).1 e2 c')
            | some y =>
              obtain ⟨⟨m2, hm2, hs2⟩, hmin2⟩ := (tb4.min v).2 y e2
              have hxy := hmin y ⟨m2, by omega, hs2⟩
              have hne2 : x ≠ y := fun e => by rw [e1, e2, e] at hv; exact hv rfl
              refine BF.falls_of (hu.hus wM) hs fun m' c' hm' hs' => ?_
              have := hmin2 c' ⟨m', by omega, hs'⟩
              omega
end
end L2.Ww
set_option Elab.async false
set_option linter.all false
set_option maxRecDepth 100000
set_option maxHeartbeats 4000000
/-! What the law reckons of a machine. -/
namespace L2.Ww
open PySem PySem.Spec PyProof.Rows
structure Trip where
  n : Nat
  r : BF.R
  e : Wt
def rV : BF.R → V
  | .none => .str "none"
  | .falls => .str "falls"
  | .least w => .int w
def dTrip (t : Trip) : D := .t [dN t.n, .a (rV t.r), dW t.e]
/-- all weights are within B -/
structure MB (M : Mach) (B : Nat) : Prop where
  st : ∀ i a, stF M.st i = some a → a.natAbs ≤ B
  ed : ∀ i j c, Ed M i j c → c.natAbs ≤ B
  en : ∀ i b, stF M.en i = some b → b.natAbs ≤ B
theorem wk_bound {E : Nat → Nat → Int → Prop} {B : Nat} (h : ∀ i j c, E i j c → c.natAbs ≤ B) {n i j : Nat} {d : Int} (w : BF.Wk E n i j d) : d.natAbs ≤ n * B := by
  induction w with
  | nil => exact Nat.zero_le _
  | snoc _ e ih =>
    have := h _ _ _ e
    rw [Nat.succ_mul]
    omega
theorem TM_bound {M : Mach} {us : List Nat} {B : Nat} (h : MB M B) {k v : Nat} {p : Int} (ht : TM M us k v p) : p.natAbs ≤ (k + 1) * B := by
  obtain ⟨m, hm, u, a, d, _, ha, w, rfl⟩ := ht
  have h1 := h.st u a ha
  have h2 := wk_bound (fun i j c e => h.ed i j c e.2.2) w
  have h3 : m * B ≤ k * B := Nat.mul_le_mul_right _ hm
  rw [Nat.succ_mul]
  omega
def spReadIn : Sp := fun vs H Q _ => ∃ a M, vs = [a] ∧ Rep H (dMach M) a ∧ M.WF ∧ ∀ r, BF.ValS (AccM M) r → (∀ B x, MB M B → r = .least x → x.natAbs ≤ 22 * B) → Gives H (dTrip ⟨M.st.length, r, wdot M.st M.en⟩) Q
theorem wplus_none (x : Wt) : wplus x none = x := by cases x <;> rfl
theorem wtimes_none (x : Wt) : wtimes x none = none := by cases x <;> rfl
section
variable {P : Program} {w : World} {K : PySem.W.Frag} {mg : Str → Option Value} {base : Heap}
abbrev s__law_read_in : Stmt := top 138
theorem sc__law_read_in : FnScope ["_law_machine", "_law_some", "_law_empty", "_law_x", "_law_y", "_law_prices_here", "_law_ends", "_law_k"] ["_law_machine"] (defScope s__law_read_in) := ⟨rfl, rfl, rfl, by decide +kernel, rfl, by decide +kernel, by decide +kernel⟩
theorem ok__law_read_in (T : Txt w K mg) : Cal P w K mg base CX0 4 "_law_read_in" spReadIn := by
  refine cal_ok T.d__law_read_in (fun _ _ _ _ _ _ us hl => match us, hl with | [_], _ => rfl) sc__law_read_in (fun vs H Q E h => ?_) (fun cdv A outer s f H vs Q E hr h => ?_)
  · obtain ⟨_, _, rfl, _⟩ := h; rfl
  · obtain ⟨a, M, rfl, ha, wM, k⟩ := h
    refine ⟨_, PSs.nox (pss_cons (ps_set (i := 1) sc__law_read_in.nd rfl (Or.inl rfl) (pe_c0 (ok__law_of_use T) hr (by decide) rfl (pa_cons (pv 0) pa_nil)))
      (pss_cons (ps_set (i := 2) sc__law_read_in.nd rfl (Or.inl rfl) pe_non)
      (pss_cons (ps_for PassesOwn.never rfl (RZ.pi_zipA rfl T.f_zip (pa_cons (pe_ix (ix_tupQ K) (pv 0) pe_int (fun _ _ => rfl)) (pa_cons (pe_ix (ix_tupQ K) (pv 0) pe_int (fun _ _ => rfl)) pa_nil))) (pg_tup (n := 2) rfl (pgs_cons (pg_name (i := 3) sc__law_read_in.nd rfl (Or.inl rfl)) (pgs_cons (pg_name (i := 4) sc__law_read_in.nd rfl (Or.inl rfl)) pgs_nil)))
      (pss_one (ps_if (PW.pt (pw_and (pt_cmpR op_notN (pv 3) pe_non (nomark _)) (pw_and1 (pt_cmpR op_notN (pv 4) pe_non (nomark _))))) (pss_one (ps_set (i := 2) sc__law_read_in.nd rfl (Or.inl rfl) (pe_c0 (ok__law_lesser T) hr (by decide) rfl (pa_cons (pv 2) (pa_cons (pe_op op_add (pv 3) (pv 4)) pa_nil))))) pss_nil)))
      (pss_cons (ps_if (pt_cmpR (op_eqD hr.units) (pv 1) (pe_lstQ pa_nil) (nomark _)) (pss_one (ps_ret (pe_tupQ (pa_cons (pe_callB (call_lenQ K) (by rfl) T.f_len PySem.boot_len (pa_cons (pe_ix (ix_tupQ K) (pv 0) pe_int (fun _ _ => rfl)) pa_nil)) (pa_cons pe_str (pa_cons (pv 2) pa_nil)))))) pss_nil)
      (pss_cons (ps_set (i := 5) sc__law_read_in.nd rfl (Or.inr rfl) (pe_c0 (ok__law_prices T) hr (by decide) rfl (pa_cons (pv 0) (pa_cons (pv 1) pa_nil))))
      (pss_cons (ps_if (pt_cmpR op_isN (pv 5) pe_non (nomark _)) (pss_one (ps_ret (pe_tupQ (pa_cons (pe_callB (call_lenQ K) (by rfl) T.f_len PySem.boot_len (pa_cons (pe_ix (ix_tupQ K) (pv 0) pe_int (fun _ _ => rfl)) pa_nil)) (pa_cons pe_str (pa_cons (pv 2) pa_nil)))))) pss_nil)
      (pss_cons (ps_setLc (i := 6) rfl sc__law_read_in.nd rfl rfl (sw_true rfl rfl rfl (by decide +kernel)) (own := [("_law_k", 7)]) (pi_list (pv 1)) (blkOk_by (own := [("_law_k", 7)]) (N := ["_law_machine", "_law_some", "_law_empty", "_law_x", "_law_y", "_law_prices_here", "_law_ends", "_law_k"]) (sc := defScope s__law_read_in) (by decide +kernel)) (fun _ _ _ _ _ => (pg_name (i := 7) sc__law_read_in.nd rfl (Or.inl rfl))) (fun _ _ _ _ _ => (pts_one (pt_cmpR op_notN (pe_ix (ix_tupQ K) (pe_ix (ix_tupQ K) (pv 0) pe_int (fun _ _ => rfl)) (pv 7) (fun _ _ => rfl)) pe_non (nomark _)))) (fun _ _ _ _ _ => (pe_op op_add (pe_dget (hu_of hr) (pv 5) (pv 7) (fun _ _ => rfl)) (pe_ix (ix_tupQ K) (pe_ix (ix_tupQ K) (pv 0) pe_int (fun _ _ => rfl)) (pv 7) (fun _ _ => rfl)))))
      (pss_one (ps_ret (pe_tupQ (pa_cons (pe_callB (call_lenQ K) (by rfl) T.f_len PySem.boot_len (pa_cons (pe_ix (ix_tupQ K) (pv 0) pe_int (fun _ _ => rfl)) pa_nil)) (pa_cons (pe_callB (cr_min rfl) (by rfl) T.f_min (by decide +kernel) (pa_cons (pv 6) pa_nil)) (pa_cons (pv 2) pa_nil))))))))))))), ?_⟩
    have hen := wM.ends
    refine ⟨_, rfl, a, M, rfl, ha, wM, fun us hu so H1 s1 hso hls => ?_⟩
    have hus20 := hu.few wM
    have hul := hu.lt
    refine ⟨_, rfl, r_ixT 1 (ha.same s1) rfl fun sv hsv => ⟨_, rfl, r_ixT 3 (ha.same s1) rfl fun ev hev => ?_⟩⟩
    obtain ⟨p, vs, rfl, hp, rp⟩ := id hsv
    obtain ⟨q, ws, rfl, hq, rq⟩ := id hev
    have h1 : vs.length = M.st.length := by rw [rp.len, List.length_map]
    have h2 : ws.length = M.en.length := by rw [rq.len, List.length_map]
    refine ⟨p, q, vs, ws, rfl, .inr ⟨SqT.of hp, SqT.of hq, for_it (walk_zipT (xs := vs) (ys := ws) rfl) (fun i σ H2 => ∃ x y, σ = [some a, some (.ref so), some (vW (((M.st.zip M.en).take i |>.map fun p => wtimes p.1 p.2).foldl wplus none)), x, y, none, none, none] ∧ Same H1 H2)
      ⟨none, none, rfl, Same.refl H1⟩ (fun i σ H2 _ ⟨_, _, _, s2⟩ => ⟨sqT_same s2 (SqT.of hp), sqT_same s2 (SqT.of hq)⟩) ?_ ?_⟩⟩
    · rintro i x σ H2 H3 hi ⟨x0, y0, rfl, s2⟩ ⟨T0, u, v, rfl, hT, rfl, hu1, hv1⟩
      obtain ⟨du, hdu, ru⟩ := rp.getV hu1
      obtain ⟨dv, hdv, rv⟩ := rq.getV hv1
      rw [List.getElem?_map, Option.map_eq_some_iff] at hdu hdv
      obtain ⟨a0, ha0, rfl⟩ := hdu
      obtain ⟨b0, hb0, rfl⟩ := hdv
      cases rep_W ru
      cases rep_W rv
      have s3 : Same H1 (upd H2 T0 (.tup [vW a0, vW b0])) := s2.trans (Same.upd' hT)
      refine ⟨T0, _, rfl, SqT.of upd_same, rfl, _, _, rfl, _, _, rfl, rfl, ?_⟩
      generalize upd H2 T0 (.tup [vW a0, vW b0]) = H3 at s3
      have e : (M.st.zip M.en).take (i + 1) = (M.st.zip M.en).take i ++ [(a0, b0)] := by
        have h3 : (M.st.zip M.en)[i]? = some (a0, b0) := by rw [List.getElem?_zip_eq_some]; exact ⟨ha0, hb0⟩
        rw [List.take_add_one, h3] <;> rfl
      have e2 : ((M.st.zip M.en).take (i + 1) |>.map fun p => wtimes p.1 p.2).foldl wplus none = wplus (((M.st.zip M.en).take i |>.map fun p => wtimes p.1 p.2).foldl wplus none) (wtimes a0 b0) := by
        rw [e, List.map_append, List.foldl_append] <;> rfl
      rw [e2]
      generalize ((M.st.zip M.en).take i |>.map fun p => wtimes p.1 p.2).foldl wplus none = acc
      refine ⟨_, rfl, rfl, _, rfl, ?_⟩
      cases a0 with
      | none =>
        rw [show wtimes (none : Wt) b0 = none by cases b0 <;> rfl, wplus_none]
        exact iteF (iteF ⟨_, _, rfl, s3⟩)
      | some x0 =>
        refine iteT ⟨_, rfl, rfl, _, rfl, ?_⟩
        cases b0 with
        | none =>
          rw [wtimes_none, wplus_none]
          exact iteF ⟨_, _, rfl, s3⟩
        | some y0 =>
          refine iteT ⟨_, rfl, _, rfl, _, rfl, _, _, rfl, rfl, acc, some (x0 + y0), rfl, _, _, rfl, s3⟩
    · rintro σ H2 ⟨x0, y0, rfl, s2⟩
      have s12 := s1.trans s2
      have eW : (((M.st.zip M.en).take (min vs.length ws.length)).map fun p => wtimes p.1 p.2).foldl wplus none = wdot M.st M.en := by
        rw [List.take_of_length_le (by rw [List.length_zip, h1, h2]; exact Nat.le_refl _)] <;> rfl
      rw [eW]
      refine ⟨_, rfl, r_lst (ds := []) Reps.nil (small (by simp)) fun e0 H3 s3 he0 hle0 => ?_⟩
      have hso1 := lst_ns (hls.same s2)
      have he1 : H3 e0 = some (.lst []) := by
        obtain ⟨vs, q1, q2⟩ := hle0
        rw [show vs = [] from q2] at q1
        exact q1
      have s13 := s12.trans s3
      refine ⟨_, _, .lst (SqL.of (s3 _ _ hso1)) (dp_ints K H3 us), .lst (SqL.of he1) .nil, shp_ints us, rfl, _, rfl, ?_⟩
      rw [eqv_nil]
      by_cases hne : us = []
      · rw [decide_eq_true hne]
        refine iteT ⟨_, rfl, r_ixT 1 (ha.same s13) rfl fun sv2 hsv2 => r_lenT hsv2 ⟨_, rfl, ?_⟩⟩
        rw [List.length_map]
        refine r_tup (ds := [dN M.st.length, .a (.str "none"), dW (wdot M.st M.en)]) (Reps.cons rfl (Reps.cons rfl (Reps.cons rfl Reps.nil))) (small (by simp)) fun v4 H4 s4 h4 => ?_
        exact k .none (BF.none_of_nil (hu.hus wM) hne) (fun B x _ e => by cases e) v4 H4 (s13.trans s4) h4
      rw [decide_eq_false hne]
      refine iteF ?_
      have hls3 := hls.same (s2.trans s3)
      refine ⟨_, rfl, _, rfl, a, so, M, us, rfl, ha.same s13, wM, hu, hne, hls3, fun H4 s4 hfalls => ?_, fun bp H4 L s4 hbp hl4 tb hfix => ?_⟩
      · have s14 := s13.trans s4
        refine ⟨_, rfl, rfl, _, rfl, iteT ⟨_, rfl, r_ixT 1 (ha.same s14) rfl fun sv2 hsv2 => r_lenT hsv2 ⟨_, rfl, ?_⟩⟩⟩
        rw [List.length_map]
        refine r_tup (ds := [dN M.st.length, .a (.str "falls"), dW (wdot M.st M.en)]) (Reps.cons rfl (Reps.cons rfl (Reps.cons rfl Reps.nil))) (small (by simp)) fun v5 H5 s5 h5 => ?_
        exact k .falls hfalls (fun B x _ e => by cases e) v5 H5 (s14.trans s5) h5
      · have s14 := s13.trans s4
        refine ⟨_, rfl, rfl, _, rfl, iteF ?_⟩
        have price : ∀ v ∈ us, ∃ p, CH.look L v = some p := fun v hv => by
          obtain ⟨n, c, hs⟩ := BF.use_fwd (hu.hus wM) hv
          obtain ⟨m, c', hm, hs'⟩ := BF.reach_short n v c hs
          cases e : CH.look L v with
          | none => exact absurd ⟨m, by omega, hs'⟩ ((tb.min v).1 e c')
          | some p => exact ⟨p, rfl⟩
        refine ⟨_, rfl, so, rfl, ⟨_, SqL.of (lst_ns (hls3.same s4))⟩, fun Dd hD => ?_⟩
        refine lc_gen (H0 := H4) (walk_list (xs := us.map fun (n : Nat) => V.int (n : Int))) hD (small (by rw [List.length_map]; omega)) (fun H7 s7 => SqL.of (lst_ns (hls3.same (s4.trans s7)))) same_YAt
          (fun i => (us[i]?).bind fun v => (CH.look L v).bind fun p => (stF M.en v).map fun b => D.a (.int (p + b))) ?_ ?_
        · rintro i z H7 H8 hi s8 ⟨rfl, hz⟩ s7 Kf Kt hf ht
          rw [List.getElem?_map, Option.map_eq_some_iff] at hz
          obtain ⟨v, hv, rfl⟩ := hz
          have hvus := List.mem_of_getElem? hv
          obtain ⟨p, hp⟩ := price v hvus
          have hvn : v < M.en.length := by have := hul v hvus; omega
          have hme : M.en[v]? = some M.en[v] := List.getElem?_eq_getElem hvn
          have hst : stF M.en v = M.en[v] := by unfold stF; rw [hme]; rfl
          have s18 := s14.trans s8
          refine ⟨rfl, _, rfl, r_ixT 3 (ha.same s18) rfl fun sv hsv => ⟨_, rfl, r_ixT v hsv (by rw [List.getElem?_map, hme] <;> rfl) fun c hc => ?_⟩⟩
          cases rep_W hc
          refine ⟨rfl, _, rfl, ?_⟩
          cases hc2 : M.en[v] with
          | none =>
            refine iteF (hf ?_ _ (Same.refl _))
            rw [hv, Option.bind_some, hp, Option.bind_some, hst, hc2]; rfl
          | some c =>
            obtain ⟨pv, gp, rp⟩ := (hl4.same s8).rd.gotS (n := v) (d := .a (.int p)) (by rw [look_pD, hp]; rfl)
            cases rp
            refine iteT ⟨_, rfl, _, rfl, bp, _, rfl, gp, _, rfl, r_ixT 3 (ha.same s18) rfl fun sv hsv => ⟨_, rfl, r_ixT v hsv (by rw [List.getElem?_map, hme] <;> rfl) fun c1 hc1 => ?_⟩⟩
            cases rep_W hc1
            rw [hc2]
            refine ⟨_, _, rfl, rfl, ht (.a (.int (p + c))) ?_ _ _ (Same.refl _) rfl⟩
            rw [hv, Option.bind_some, hp, Option.bind_some, hst, hc2]; rfl
        intro H7 s7 hl7
        rw [List.length_map, fm_range] at hl7
        generalize hns : us.filterMap (fun v => (CH.look L v).bind fun p => (stF M.en v).map fun b => p + b) = ns
        have ens : (us.filterMap fun v => (CH.look L v).bind fun p => (stF M.en v).map fun b => D.a (.int (p + b))) = (ns.map V.int).map D.a := by
          rw [← hns, List.map_map, List.map_filterMap]
          congr 1
          funext v
          cases CH.look L v with
          | none => rfl
          | some p =>
            cases stF M.en v with
            | none => rfl
            | some b => rfl
        rw [ens] at hl7
        obtain ⟨nv, hnv, rnv⟩ := hl7
        rw [Reps.atoms] at rnv
        subst rnv
        have hmem : ∀ c, c ∈ ns ↔ ∃ v p b, v ∈ us ∧ CH.look L v = some p ∧ stF M.en v = some b ∧ c = p + b := by
          intro c
          rw [← hns, List.mem_filterMap]
          constructor
          · rintro ⟨v, hv, e⟩
            obtain ⟨p, hp, e⟩ := Option.bind_eq_some_iff.mp e
            obtain ⟨b, hb, rfl⟩ := Option.map_eq_some_iff.mp e
            exact ⟨v, p, b, hv, hp, hb, rfl⟩
          · rintro ⟨v, p, b, hv, hp, hb, rfl⟩
            exact ⟨v, hv, by rw [hp, Option.bind_some, hb]; rfl⟩
        have hnp : 0 < ns.length := by
          obtain ⟨v, b, hv, hb⟩ := use_end wM hu hne
          obtain ⟨p, hp⟩ := price v hv
          exact List.length_pos_of_mem ((hmem (p + b)).mpr ⟨v, p, b, hv, hp, hb, rfl⟩)
        have s17 := s14.trans s7
        refine ⟨_, rfl, r_ixT 1 (ha.same s17) rfl fun sv2 hsv2 => r_lenT hsv2 ⟨_, rfl, Dd, ns, rfl, SqL.of hnv, hnp, fun lo hlo hmin => ⟨_, rfl, ?_⟩⟩⟩
        rw [List.length_map]
        have hMin : BF.MinOf (fun c => ∃ v p b, v ∈ us ∧ CH.look L v = some p ∧ stF M.en v = some b ∧ c = p + b) (some lo) :=
          ⟨(fun e => by cases e), fun w e => by cases e; exact ⟨(hmem lo).mp hlo, fun c hc => hmin c ((hmem c).mpr hc)⟩⟩
        have hval : BF.ValS (AccM M) (.least lo) := BF.least_of (k := us.length) (hu.hus wM) hfix (fun v _ => tb.min v) hMin
        refine r_tup (ds := [dN M.st.length, .a (.int lo), dW (wdot M.st M.en)]) (Reps.cons rfl (Reps.cons rfl (Reps.cons rfl Reps.nil))) (small (by simp)) fun v8 H8 s8 h8 => ?_
        refine k (.least lo) hval (fun B x hB e => ?_) v8 H8 (s17.trans s8) h8
        cases e
        obtain ⟨v, p, b, hv, hp, hb, rfl⟩ := (hmem lo).mp hlo
        have b1 := TM_bound hB ((tb.min v).2 p hp).1
        have b2 := hB.en v b hb
        have b3 : (us.length + 1) * B ≤ 21 * B := Nat.mul_le_mul_right _ (by omega)
        omega
end
end L2.Ww
set_option Elab.async false
set_option linter.all false
set_option maxRecDepth 100000
set_option maxHeartbeats 4000000
/-! The law's texts. -/
namespace L2.Ww
open PySem PySem.Spec PyProof.Rows
def spLShown : Sp := fun vs H Q _ => ∃ x : Wt, vs = [vW x] ∧ WOk x ∧ Q (.str (wS x)) H
def spLLine : Sp := fun vs H Q _ => ∃ a r, vs = [a] ∧ Rep H (dRow r) a ∧ r.length ≤ 20 ∧ (∀ x ∈ r, WOk x) ∧ ∀ H', Same H H' → Q (.str (lineS r)) H'
def spLText : Sp := fun vs H Q _ => ∃ a M, vs = [a] ∧ Rep H (dMach M) a ∧ M.WF ∧ MWOk M ∧ LetOk M.ls ∧ ∀ H', Same H H' → Q (.str (machS M)) H'
def bitsOf (k : Nat) : List Bool := (List.range 11).map fun j => decide (j = k) || decide (j = 10)
def spLOf : Sp := fun vs H Q _ => ∃ k : Nat, vs = [.int (k : Int)] ∧ ∀ p v H', Same H H' → H p = none → LstAt H' p ((bitsOf k).map fun b => D.a (.bl b)) → Rep H' (.t [.a (.str "refused"), .a (.ref p)]) v → Q v H'
/-- data of weights -/
def pdW : Wt → PyData
  | none => .none
  | some x => .int x
theorem dp_ws (K : PySem.W.Frag) (H : Hp) (r : List Wt) : DpAll K H (r.map vW) (r.map pdW) := by
  induction r with
  | nil => exact .nil
  | cons x r ih =>
    cases x with
    | none => exact .cons .non ih
    | some x => exact .cons (.int x) ih
theorem ws_lay (r : List Wt) : PyData.canLayAll0 (r.map pdW) = true ∧ PyData.depthAll (r.map pdW) = 0 := by
  induction r with
  | nil => exact ⟨rfl, rfl⟩
  | cons x r ih =>
    cases x with
    | none =>
      refine ⟨ih.1, ?_⟩
      show max 0 (PyData.depthAll _) = 0
      rw [ih.2] <;> rfl
    | some x =>
      refine ⟨ih.1, ?_⟩
      show max 0 (PyData.depthAll _) = 0
      rw [ih.2] <;> rfl
theorem shp_ws (r : List Wt) : PySem.SeqAt.shaped (.tuple (r.map pdW)) = true := by
  unfold PySem.SeqAt.shaped
  rw [Bool.and_eq_true]
  refine ⟨(ws_lay r).1, decide_eq_true ?_⟩
  show PyData.depthAll _ + 1 ≤ 64
  rw [(ws_lay r).2]
  decide
theorem eqv_ws (r : List Wt) : PyData.eqv (.tuple (r.map pdW)) (.tuple []) = decide (r = []) := by
  cases r with
  | nil => rfl
  | cons x r => cases x <;> rfl
/-- a row as python data -/
theorem dp_row {K : PySem.W.Frag} {H : Hp} {a : V} {r : List Wt} (h : Rep H (dRow r) a) : Dp K H a (.tuple (r.map pdW)) := by
  obtain ⟨p, vs, rfl, hp, rp⟩ := h
  have e : r.map dW = (r.map vW).map D.a := by rw [List.map_map] <;> rfl
  rw [e, Reps.atoms] at rp
  subst rp
  exact .tup (SqT.of hp) (dp_ws K H r)
def pdT (t : List (List Wt)) : PyData := .tuple (t.map fun r => .tuple (r.map pdW))
theorem dp_tab {K : PySem.W.Frag} {H : Hp} {a : V} {t : List (List Wt)} (h : Rep H (dTab t) a) : Dp K H a (pdT t) := by
  obtain ⟨p, vs, rfl, hp, rp⟩ := h
  refine .tup (SqT.of hp) ?_
  clear hp
  induction t generalizing vs with
  | nil => rw [show vs = [] from rp]; exact .nil
  | cons r t ih =>
    obtain ⟨v, r', rfl, h1, h2⟩ := rp
    exact .cons (dp_row h1) (ih r' h2)
theorem shp_tab (t : List (List Wt)) : PySem.SeqAt.shaped (pdT t) = true := by
  have h : PyData.canLayAll0 (t.map fun r => .tuple (r.map pdW)) = true ∧ PyData.depthAll (t.map fun r => .tuple (r.map pdW)) ≤ 1 := by
    induction t with
    | nil => exact ⟨rfl, Nat.zero_le _⟩
    | cons r t ih =>
      refine ⟨?_, ?_⟩
      · show (PyData.canLayAll0 (r.map pdW) && PyData.canLayAll0 (t.map fun r => .tuple (r.map pdW))) = true
        rw [(ws_lay r).1, ih.1] <;> rfl
      · show max (PyData.depthAll (r.map pdW) + 1) (PyData.depthAll (t.map fun r => .tuple (r.map pdW))) ≤ 1
        rw [(ws_lay r).2]
        have := ih.2
        omega
  unfold PySem.SeqAt.shaped pdT
  rw [Bool.and_eq_true]
  refine ⟨h.1, decide_eq_true ?_⟩
  show PyData.depthAll _ + 1 ≤ 64
  have := h.2
  omega
theorem eqv_tab (t : List (List Wt)) : PyData.eqv (pdT t) (.tuple []) = decide (t = []) := by
  cases t with
  | nil => rfl
  | cons x r => rfl
theorem tup_nil {H : Hp} {v : V} (h : Rep H (.t []) v) : ∃ p, v = .ref p ∧ H p = some (.tup []) := by
  obtain ⟨p, vs, rfl, hp, rp⟩ := h
  rw [show vs = [] from rp] at hp
  exact ⟨p, rfl, hp⟩
theorem sum_le (zs : List Str) (B : Nat) (h : ∀ z ∈ zs, z.length ≤ B) : (zs.map (·.length)).sum ≤ zs.length * B := by
  induction zs with
  | nil => exact Nat.zero_le _
  | cons z zs ih =>
    rw [List.map_cons, List.sum_cons, List.length_cons, Nat.succ_mul]
    have h1 := h z List.mem_cons_self
    have h2 := ih fun y hy => h y (List.mem_cons_of_mem _ hy)
    omega
theorem lst_strs {H : Hp} {p : Addr} {zs : List Str} (h : LstAt H p (zs.map fun z => D.a (.str z))) : H p = some (.lst (zs.map V.str)) := by
  obtain ⟨vs, e, r⟩ := h
  have e2 : (zs.map fun z => D.a (V.str z)) = (zs.map V.str).map D.a := by rw [List.map_map] <;> rfl
  rw [e2, Reps.atoms] at r
  subst r
  exact e
section
variable {P : Program} {w : World} {K : PySem.W.Frag} {mg : Str → Option Value} {base : Heap}
abbrev s__law_shown : Stmt := top 134
theorem sc__law_shown : FnScope ["_law_x"] ["_law_x"] (defScope s__law_shown) := ⟨rfl, rfl, rfl, by decide +kernel, rfl, by decide +kernel, by decide +kernel⟩
theorem ok__law_shown (T : Txt w K mg) : Cal P w K mg base CX0 1 "_law_shown" spLShown := by
  refine cal_ok T.d__law_shown (fun _ _ _ _ _ _ us hl => match us, hl with | [_], _ => rfl) sc__law_shown (fun vs H Q E h => ?_) (fun cdv A outer s f H vs Q E hr h => ?_)
  · obtain ⟨_, rfl, _⟩ := h; rfl
  · obtain ⟨x, rfl, hx, k⟩ := h
    refine ⟨_, PSs.nox (pss_cons (ps_if (pt_cmpR op_isN (pv 0) pe_non (nomark _)) (pss_one (ps_ret pe_str)) pss_nil)
      (pss_one (ps_ret (pe_callTy call_str_int (by rfl) T.f_str (by decide +kernel) (pa_cons (pv 0) pa_nil))))), ?_⟩
    refine ⟨_, rfl, rfl, _, rfl, ?_⟩
    cases x with
    | none => exact iteT k
    | some x =>
      refine iteF ⟨_, rfl, x, rfl, ?_, k⟩
      have h := hx x rfl
      by_cases h0 : x.natAbs = 0
      · rw [h0]; decide
      · exact (Nat.log2_lt h0).mpr (Nat.lt_trans h (by decide))
abbrev s__law_line : Stmt := top 135
theorem sc__law_line : FnScope ["_law_row_here", "_law_x"] ["_law_row_here"] (defScope s__law_line) := ⟨rfl, rfl, rfl, by decide +kernel, rfl, by decide +kernel, by decide +kernel⟩
theorem ok__law_line (T : Txt w K mg) : Cal P w K mg base CX0 2 "_law_line" spLLine := by
  refine cal_ok T.d__law_line (fun _ _ _ _ _ _ us hl => match us, hl with | [_], _ => rfl) sc__law_line (fun vs H Q E h => ?_) (fun cdv A outer s f H vs Q E hr h => ?_)
  · obtain ⟨_, _, rfl, _⟩ := h; rfl
  · obtain ⟨a, r, rfl, ha, hl, hw, k⟩ := h
    refine ⟨_, PSs.nox (pss_cons (ps_if (pt_cmpR (op_eqD hr.units) (pv 0) (pe_tupQ pa_nil) (nomark _)) (pss_one (ps_ret pe_str)) pss_nil)
      (pss_one (ps_ret (pe_join pe_str (pe_lc (own := [("_law_x", 1)]) rfl sc__law_line.nd (pi_tup (pv 0)) (blkOk_by (own := [("_law_x", 1)]) (N := ["_law_row_here", "_law_x"]) (sc := defScope s__law_line) (by decide +kernel)) (fun _ _ _ _ _ => (pg_name (i := 1) sc__law_line.nd rfl (Or.inl rfl))) (fun _ _ _ _ _ => pts_nil) (fun _ _ _ _ _ => (pe_c0 (ok__law_shown T) hr (by decide) rfl (pa_cons (pv 1) pa_nil)))))))), ?_⟩
    refine ⟨_, rfl, r_tup (ds := []) Reps.nil (small (by simp)) fun v1 H1 s1 h1 => ?_⟩
    obtain ⟨q, rfl, hq⟩ := tup_nil h1
    refine ⟨_, _, dp_row (ha.same s1), .tup (SqT.of hq) .nil, shp_ws r, rfl, _, rfl, ?_⟩
    rw [eqv_ws]
    by_cases h0 : r = []
    · rw [decide_eq_true h0]
      have e : lineS r = "-" := line_dash.mpr h0
      rw [e] at k
      exact iteT (k H1 s1)
    · rw [decide_eq_false h0]
      obtain ⟨p, vs, rfl, hp, rp⟩ := ha.same s1
      have hvl : vs.length = r.length := by rw [rp.len, List.length_map]
      refine iteF ⟨⟨_, rfl⟩, _, rfl, p, rfl, ⟨_, SqT.of hp⟩, fun Dd hD => ?_⟩
      refine lc_gen (H0 := H1) (walk_tup (xs := vs)) hD (small (by omega)) (fun H2 s2 => sqT_same s2 (SqT.of hp)) same_YAt (fun i => (r[i]?).map fun x => D.a (.str (wS x))) ?_ ?_
      · rintro i z H2 H3 hi s3 ⟨rfl, hz⟩ s2 Kf Kt hf ht
        obtain ⟨d, hd, rd⟩ := rp.getV hz
        rw [List.getElem?_map, Option.map_eq_some_iff] at hd
        obtain ⟨x, hx, rfl⟩ := hd
        cases rep_W rd
        exact ⟨rfl, _, rfl, x, rfl, hw x (List.mem_of_getElem? hx), ht (.a (.str (wS x))) (by rw [hx] <;> rfl) _ _ (Same.refl _) rfl⟩
      · intro Hf sf hlst
        rw [hvl, fm_map] at hlst
        have e1 : (r.map fun x => D.a (.str (wS x))) = (r.map wS).map fun z => D.a (.str z) := by rw [List.map_map] <;> rfl
        rw [e1] at hlst
        refine ⟨_, Dd, r.map wS, rfl, rfl, .inl (SqL.of (lst_strs hlst)), ?_, ?_⟩
        · have := sum_le (r.map wS) 31 fun z hz => by
            obtain ⟨x, hx, rfl⟩ := List.mem_map.mp hz
            exact wS_len (hw x hx)
          rw [List.length_map] at this ⊢
          rw [len_sp]
          omega
        · have e : lineS r = Txt.join " " (r.map wS) := if_neg h0
          rw [e] at k
          exact k Hf (s1.trans sf)
abbrev s__law_text : Stmt := top 136
theorem sc__law_text : FnScope ["_law_machine", "_law_pieces", "_law_table", "_law_row_here"] ["_law_machine"] (defScope s__law_text) := ⟨rfl, rfl, rfl, by decide +kernel, rfl, by decide +kernel, by decide +kernel⟩
theorem ok__law_text (T : Txt w K mg) : Cal P w K mg base CX0 3 "_law_text" spLText := by
  refine cal_ok T.d__law_text (fun _ _ _ _ _ _ us hl => match us, hl with | [_], _ => rfl) sc__law_text (fun vs H Q E h => ?_) (fun cdv A outer s f H vs Q E hr h => ?_)
  · obtain ⟨_, _, rfl, _⟩ := h; rfl
  · obtain ⟨a, M, rfl, ha, wM, hW, hL, k⟩ := h
    refine ⟨_, PSs.nox (pss_cons (ps_set (i := 1) sc__law_text.nd rfl (Or.inl rfl) (pe_lstQ (pa_cons (pe_ix (ix_tupQ K) (pv 0) pe_int (fun _ _ => rfl)) (pa_cons (pe_c0 (ok__law_line T) hr (by decide) rfl (pa_cons (pe_ix (ix_tupQ K) (pv 0) pe_int (fun _ _ => rfl)) pa_nil)) pa_nil))))
      (pss_cons (ps_for PassesOwn.never rfl (pi_tup (pe_ix (ix_tupQ K) (pv 0) pe_int (fun _ _ => rfl))) (pg_name (i := 2) sc__law_text.nd rfl (Or.inl rfl))
      (pss_one (ps_if (pt_cmpR (op_eqD hr.units) (pv 2) (pe_tupQ pa_nil) (nomark _)) (pss_one (ps_expr (pe_bm PySem.F.plainAttrs_list PySem.F.slot_list_append PySem.F.type_list_append mt_appQ (pv 1) (pa_cons pe_str pa_nil)))) (pss_one (ps_expr (pe_bm PySem.F.plainAttrs_list PySem.F.slot_list_append PySem.F.type_list_append mt_appQ (pv 1) (pa_cons (pe_join pe_str (pe_lc (own := [("_law_row_here", 3)]) rfl sc__law_text.nd (pi_tup (pv 2)) (blkOk_by (own := [("_law_row_here", 3)]) (N := ["_law_machine", "_law_pieces", "_law_table", "_law_row_here"]) (sc := defScope s__law_text) (by decide +kernel)) (fun _ _ _ _ _ => (pg_name (i := 3) sc__law_text.nd rfl (Or.inl rfl))) (fun _ _ _ _ _ => pts_nil) (fun _ _ _ _ _ => (pe_c0 (ok__law_line T) hr (by decide) rfl (pa_cons (pv 3) pa_nil))))) pa_nil)))))))
      (pss_one (ps_ret (pe_join pe_str (pe_op op_catLQ (pv 1) (pe_lstQ (pa_cons (pe_c0 (ok__law_line T) hr (by decide) rfl (pa_cons (pe_ix (ix_tupQ K) (pv 0) pe_int (fun _ _ => rfl)) pa_nil)) pa_nil)))))))), ?_⟩
    have hn20 := wM.few
    have hen := wM.ends
    have htl : M.tabs.length ≤ 3 := by rw [wM.lt]; exact wM.let3
    refine ⟨_, rfl, r_ixT 0 ha rfl fun v hv => ?_⟩
    cases hv
    refine ⟨_, rfl, r_ixT 1 ha rfl fun sv hsv => ⟨sv, M.st, rfl, hsv, hn20, hW.st, fun H1 s1 => ?_⟩⟩
    refine r_lst (ds := [M.ls, lineS M.st].map fun z => D.a (.str z)) (Reps.cons rfl (Reps.cons rfl Reps.nil)) (small (by simp)) fun p H2 s2 hp hl2 => ?_
    have s12 := s1.trans s2
    have hpn : H p = none := same_none s1 hp
    refine ⟨_, rfl, r_ixS 2 ha s12 rfl fun tv htv => ?_⟩
    obtain ⟨tp, ts, rfl, htp, rts⟩ := id htv
    have htsl : ts.length = M.tabs.length := by rw [rts.len, List.length_map]
    have htab2 : ∀ t ∈ M.tabs, t.length ≤ 20 ∧ ∀ r ∈ t, r.length ≤ 20 ∧ ∀ x ∈ r, WOk x := fun t ht => ⟨by rw [wM.rows t ht]; exact hn20, fun r hr => ⟨by rw [wM.cols t ht r hr]; exact hn20, hW.tabs t ht r hr⟩⟩
    have hpl : ∀ {H' : Hp} {i : Nat}, LstAt H' p (([M.ls, lineS M.st] ++ (M.tabs.take i).map tabS).map fun z => D.a (.str z)) → (([M.ls, lineS M.st] ++ (M.tabs.take i).map tabS).map fun z => D.a (V.str z)).length < sizeLine := fun _ => by
      rw [List.length_map, List.length_append, List.length_map, List.length_take]
      exact Nat.lt_of_le_of_lt (show _ ≤ 5 by simp; omega) (by decide)
    refine ⟨tp, rfl, ⟨_, SqT.of (s12 _ _ htp)⟩, for_it (walk_tup (xs := ts)) (fun i σ H3 => ∃ y2, σ = [some a, some (.ref p), y2, none] ∧ Same H H3 ∧ LstAt H3 p (([M.ls, lineS M.st] ++ (M.tabs.take i).map tabS).map fun z => D.a (.str z)))
      ⟨none, rfl, s12, by simpa using hl2⟩ (fun i σ H3 _ ⟨_, _, s3, _⟩ => SqT.of (s3 _ _ htp)) ?_ ?_⟩
    · rintro i z σ Hx H3 hi ⟨y2, rfl, s3, hl3⟩ ⟨rfl, hz⟩
      obtain ⟨d, hd, rd0⟩ := rts.getV hz
      rw [List.getElem?_map, Option.map_eq_some_iff] at hd
      obtain ⟨t, ht1, rfl⟩ := hd
      have htm := List.mem_of_getElem? ht1
      obtain ⟨ht20, htr⟩ := htab2 t htm
      have rd3 : Rep H3 (dTab t) z := rd0.same s3
      have take1 : ([M.ls, lineS M.st] ++ (M.tabs.take (i + 1)).map tabS).map (fun z => D.a (V.str z)) = ([M.ls, lineS M.st] ++ (M.tabs.take i).map tabS).map (fun z => D.a (V.str z)) ++ [.a (.str (tabS t))] := by
        rw [List.take_add_one, ht1]
        simp
      refine ⟨_, rfl, r_tup (ds := []) Reps.nil (small (by simp)) fun v4 H4 s4 h4 => ?_⟩
      obtain ⟨q, rfl, hq⟩ := tup_nil h4
      refine ⟨_, _, dp_tab (rd3.same s4), .tup (SqT.of hq) .nil, shp_tab t, rfl, _, rfl, ?_⟩
      rw [eqv_tab]
      have s34 := s3.trans s4
      have hl4 := hl3.same s4
      by_cases h0 : t = []
      · rw [decide_eq_true h0]
        have e : tabS t = "-" := by unfold tabS; rw [if_pos h0]
        refine iteT ⟨_, rfl, tyL hl4, r_app (d := .a (.str "-")) hl4 rfl (hpl hl4) fun H5 k5 t5 o5 hl5 => ?_⟩
        refine ⟨_, rfl, k5 H hpn s34, ?_⟩
        rw [take1, e]
        exact hl5
      · rw [decide_eq_false h0]
        have e : tabS t = Txt.join ", " (t.map lineS) := by unfold tabS; rw [if_neg h0]
        obtain ⟨tq, rs, rfl, htq, rrs⟩ := rd3.same s4
        have hrl : rs.length = t.length := by rw [rrs.len, List.length_map]
        refine iteF ⟨_, rfl, tyL hl4, ⟨_, rfl⟩, _, rfl, tq, rfl, ⟨_, SqT.of htq⟩, fun Dd hD => ?_⟩
        refine lc_gen (H0 := H4) (walk_tup (xs := rs)) hD (small (by omega)) (fun H5 s5 => sqT_same s5 (SqT.of htq)) same_YAt (fun j => (t[j]?).map fun r => D.a (.str (lineS r))) ?_ ?_
        · rintro j z H5 H6 hj s6 ⟨rfl, hz⟩ s5 Kf Kt hf ht
          obtain ⟨d, hd, rd⟩ := rrs.getV hz
          rw [List.getElem?_map, Option.map_eq_some_iff] at hd
          obtain ⟨r, hr1, rfl⟩ := hd
          obtain ⟨hr20, hrw⟩ := htr r (List.mem_of_getElem? hr1)
          exact ⟨rfl, _, rfl, z, r, rfl, rd.same s6, hr20, hrw, fun H7 s7 => ht (.a (.str (lineS r))) (by rw [hr1] <;> rfl) _ _ s7 rfl⟩
        · intro Hf sf hlst
          rw [hrl, fm_map] at hlst
          have e1 : (t.map fun r => D.a (.str (lineS r))) = (t.map lineS).map fun z => D.a (.str z) := by rw [List.map_map] <;> rfl
          rw [e1] at hlst
          have hlf := hl4.same sf
          refine ⟨_, Dd, t.map lineS, rfl, rfl, .inl (SqL.of (lst_strs hlst)), ?_, ?_⟩
          · have := sum_le (t.map lineS) 640 fun z hz => by
              obtain ⟨r, hr1, rfl⟩ := List.mem_map.mp hz
              exact line_len (htr r hr1).2 (htr r hr1).1
            rw [List.length_map] at this ⊢
            rw [len_cm]
            omega
          · refine r_app (d := .a (.str (tabS t))) hlf (by rw [e]; rfl) (hpl hlf) fun H5 k5 t5 o5 hl5 => ?_
            refine ⟨_, rfl, k5 H hpn (s34.trans sf), ?_⟩
            rw [take1]
            exact hl5
    · rintro σ H3 ⟨y2, rfl, s3, hl3⟩
      rw [List.take_of_length_le (by omega)] at hl3
      refine ⟨⟨_, rfl⟩, _, rfl, _, rfl, r_ixT 3 (ha.same s3) rfl fun ev hev => ⟨ev, M.en, rfl, hev, by omega, hW.en, fun H4 s4 => ?_⟩⟩
      refine r_lst (ds := [.a (.str (lineS M.en))]) (Reps.cons rfl Reps.nil) (small (by simp)) fun q H5 s5 hq hl5 => ?_
      have hl35 := hl3.same (s4.trans s5)
      refine r_catL hl35 hl5 ?_ fun r H6 s6 hr6 hl6 => ?_
      · rw [List.length_map, List.length_append, List.length_map]
        exact Nat.le_of_lt (Nat.lt_of_le_of_lt (show _ ≤ 6 by simp; omega) (by decide))
      have e2 : (([M.ls, lineS M.st] ++ M.tabs.map tabS).map fun z => D.a (V.str z)) ++ [.a (.str (lineS M.en))] = (([M.ls, lineS M.st] ++ M.tabs.map tabS) ++ [lineS M.en]).map fun z => D.a (.str z) := by
        simp
      rw [e2] at hl6
      refine ⟨_, r, _, rfl, rfl, .inl (SqL.of (lst_strs hl6)), ?_, k H6 (s3.trans (s4.trans (s5.trans s6)))⟩
      have := sum_le (([M.ls, lineS M.st] ++ M.tabs.map tabS) ++ [lineS M.en]) 12840 fun z hz => by
        simp only [List.cons_append, List.nil_append, List.mem_cons, List.mem_append, List.mem_map, List.not_mem_nil, or_false] at hz
        rcases hz with rfl | rfl | ⟨t, ht, rfl⟩ | rfl
        · have := hL.le3; omega
        · have := line_len hW.st hn20; omega
        · exact tab_len (n := 0) (htab2 t ht).2 (htab2 t ht).1
        · have := line_len hW.en (by omega); omega
      have hlen : ((([M.ls, lineS M.st] ++ M.tabs.map tabS) ++ [lineS M.en]) : List Str).length = M.tabs.length + 3 := by simp
      rw [hlen] at this ⊢
      rw [len_bar]
      have h2 : (M.tabs.length + 3) * 12840 ≤ 6 * 12840 := Nat.mul_le_mul_right _ (by omega)
      omega
abbrev s__law_of : Stmt := top 133
theorem sc__law_of : FnScope ["_law_k", "_law_j"] ["_law_k"] (defScope s__law_of) := ⟨rfl, rfl, rfl, by decide +kernel, rfl, by decide +kernel, by decide +kernel⟩
theorem ok__law_of (T : Txt w K mg) : Cal P w K mg base CX0 1 "_law_of" spLOf := by
  refine cal_ok T.d__law_of (fun _ _ _ _ _ _ us hl => match us, hl with | [_], _ => rfl) sc__law_of (fun vs H Q E h => ?_) (fun cdv A outer s f H vs Q E hr h => ?_)
  · obtain ⟨_, rfl, _⟩ := h; rfl
  · obtain ⟨kk, rfl, k⟩ := h
    refine ⟨_, PSs.nox (pss_one (ps_ret (pe_tupQ (pa_cons pe_str (pa_cons (pe_lc (own := [("_law_j", 1)]) rfl sc__law_of.nd (pi_range1 rfl T.f_range (pa_cons pe_int pa_nil)) (blkOk_by (own := [("_law_j", 1)]) (N := ["_law_k", "_law_j"]) (sc := defScope s__law_of) (by decide +kernel)) (fun _ _ _ _ _ => (pg_name (i := 1) sc__law_of.nd rfl (Or.inl rfl))) (fun _ _ _ _ _ => pts_nil) (fun _ _ _ _ _ => (pe_or (pe_cmpR op_eq (pv 1) (pv 0) (nomark _)) (pe_one (pe_cmpR op_eq (pv 1) pe_int (nomark _)))))) pa_nil))))), ?_⟩
    refine ⟨11, rfl, by decide, by decide, fun Dd hD => ?_⟩
    refine lc_gen (H0 := H) (walk_range0 (n := (11 : Int).toNat)) hD (small (by decide)) (fun _ _ => trivial) same_YFn (fun j => some (.a (.bl (decide (j = kk) || decide (j = 10))))) ?_ ?_
    · rintro j x H1 H2 hj s2 ⟨rfl, rfl⟩ s1 Kf Kt hf ht
      refine ⟨rfl, _, rfl, _, rfl, rfl, _, rfl, ?_⟩
      have e1 : decide (V.int (j : Int) = V.int (kk : Int)) = decide (j = kk) := decide_eq_decide.mpr ⟨fun e => by injection e with e; omega, fun e => by rw [e]⟩
      have e2 : decide (V.int (j : Int) = V.int 10) = decide (j = 10) := decide_eq_decide.mpr ⟨fun e => by injection e with e; omega, fun e => by rw [e]; rfl⟩
      rw [e1]
      cases h : decide (j = kk) with
      | true =>
        exact iteT (ht (.a (.bl true)) (by rw [h]; rfl) _ _ (Same.refl _) rfl)
      | false =>
        refine iteF ⟨_, rfl, rfl, ?_⟩
        rw [e2]
        exact ht (.a (.bl (decide (j = 10)))) (by rw [h]; rfl) _ _ (Same.refl _) rfl
    · intro Hf sf hlst
      rw [fm_rng] at hlst
      have e : ((List.range (11 : Int).toNat).map fun j => D.a (.bl (decide (j = kk) || decide (j = 10)))) = (bitsOf kk).map fun b => D.a (.bl b) := by
        unfold bitsOf
        rw [List.map_map] <;> rfl
      rw [e] at hlst
      refine r_tup (ds := [.a (.str "refused"), .a (.ref Dd)]) (Reps.cons rfl (Reps.cons rfl Reps.nil)) (small (by simp)) fun v H1 s1 h1 => ?_
      exact k Dd v H1 (sf.trans s1) hD (hlst.same s1) h1
end
end L2.Ww
set_option Elab.async false
set_option linter.all false
set_option maxRecDepth 100000
set_option maxHeartbeats 4000000
/-! The law's reckoning of made machines: scaled, joined. -/
namespace L2.Ww
open PySem PySem.Spec PyProof.Rows
def joinR : BF.R → BF.R → BF.R
  | .none, _ => .none
  | _, .none => .none
  | .falls, _ => .falls
  | _, .falls => .falls
  | .least x, .least y => .least (x + y)
def scaleR (x : Wt) (r : BF.R) : BF.R := match x, r with
  | none, _ => .none
  | some x, .least w => .least (w + x)
  | some _, r => r
def tJoin (s t : Trip) : Trip := ⟨s.n + t.n, joinR s.r t.r, wtimes s.e t.e⟩
def tScale (x : Wt) (t : Trip) : Trip := ⟨t.n, scaleR x t.r, wtimes t.e x⟩
def spLJoined : Sp := fun vs H Q _ => ∃ a b s t, vs = [a, b] ∧ Rep H (dTrip s) a ∧ Rep H (dTrip t) b ∧ Gives H (dTrip (tJoin s t)) Q
def spLScaled : Sp := fun vs H Q _ => ∃ x a t, vs = [vW x, a] ∧ Rep H (dTrip t) a ∧ Gives H (dTrip (tScale x t)) Q
theorem flat_rV (r : BF.R) : flatV (rV r) = true := by cases r <;> rfl
theorem inV_rV (z : Str) (rs : List BF.R) (g : BF.R) (hg : rV g = .str z) : inV (.str z) (rs.map rV) = decide (g ∈ rs) := by
  unfold inV
  rw [List.any_map, Bool.eq_iff_iff, List.any_eq_true, decide_eq_true_eq]
  constructor
  · rintro ⟨r, hr, e⟩
    cases r with
    | none =>
      have e2 : ("none" : Str) = z := eq_of_beq (show (("none" : Str) == z) = true from e)
      cases g with
      | none => exact hr
      | falls => injection hg with hg; rw [← hg] at e2; exact absurd e2 (by decide +kernel)
      | least w => cases hg
    | falls =>
      have e2 : ("falls" : Str) = z := eq_of_beq (show (("falls" : Str) == z) = true from e)
      cases g with
      | none => injection hg with hg; rw [← hg] at e2; exact absurd e2 (by decide +kernel)
      | falls => exact hr
      | least w => cases hg
    | least w => exact absurd e (by show ¬ (false = true); exact Bool.noConfusion)
  · intro h
    refine ⟨g, h, ?_⟩
    show eqV (rV g) (.str z) = true
    rw [hg]
    exact beq_self_eq_true z
theorem lst_rV {H : Hp} {p : Addr} {vs : List V} {rs : List BF.R} (hp : H p = some (.tup vs)) (r : Reps H (rs.map fun r => D.a (rV r)) vs) : H p = some (.tup (rs.map rV)) := by
  have e2 : (rs.map fun r => D.a (rV r)) = (rs.map rV).map D.a := by rw [List.map_map] <;> rfl
  rw [e2, Reps.atoms] at r
  subst r
  exact hp
section
variable {P : Program} {w : World} {K : PySem.W.Frag} {mg : Str → Option Value} {base : Heap}
abbrev s__law_scaled : Stmt := top 142
theorem sc__law_scaled : FnScope ["_law_x", "_law_one", "_law_value", "_law_empty"] ["_law_x", "_law_one"] (defScope s__law_scaled) := ⟨rfl, rfl, rfl, by decide +kernel, rfl, by decide +kernel, by decide +kernel⟩
theorem ok__law_scaled (T : Txt w K mg) : Cal P w K mg base CX0 1 "_law_scaled" spLScaled := by
  refine cal_ok T.d__law_scaled (fun _ _ _ _ _ _ us hl => match us, hl with | [_, _], _ => rfl) sc__law_scaled (fun vs H Q E h => ?_) (fun cdv A outer s f H vs Q E hr h => ?_)
  · obtain ⟨_, _, _, rfl, _⟩ := h; rfl
  · obtain ⟨x, a, t, rfl, ha, k⟩ := h
    refine ⟨_, PSs.nox (pss_cons (ps_if (pt_cmpR op_isN (pv 0) pe_non (nomark _)) (pss_one (ps_ret (pe_tupQ (pa_cons (pe_ix (ix_tupQ K) (pv 1) pe_int (fun _ _ => rfl)) (pa_cons pe_str (pa_cons pe_non pa_nil)))))) pss_nil)
      (pss_cons (ps_set (i := 2) sc__law_scaled.nd rfl (Or.inl rfl) (pe_ix (ix_tupQ K) (pv 1) pe_int (fun _ _ => rfl)))
      (pss_cons (ps_set (i := 3) sc__law_scaled.nd rfl (Or.inl rfl) (pe_ix (ix_tupQ K) (pv 1) pe_int (fun _ _ => rfl)))
      (pss_cons (ps_if (pt_cmpR (op_notIn_seqQ K) (pv 2) (pe_tupQ (pa_cons pe_str (pa_cons pe_str pa_nil))) (by rfl)) (pss_one (ps_set (i := 2) sc__law_scaled.nd rfl (Or.inl rfl) (pe_op op_add (pv 2) (pv 0)))) pss_nil)
      (pss_cons (ps_if (pt_cmpR op_notN (pv 3) pe_non (nomark _)) (pss_one (ps_set (i := 3) sc__law_scaled.nd rfl (Or.inl rfl) (pe_op op_add (pv 3) (pv 0)))) pss_nil)
      (pss_one (ps_ret (pe_tupQ (pa_cons (pe_ix (ix_tupQ K) (pv 1) pe_int (fun _ _ => rfl)) (pa_cons (pv 2) (pa_cons (pv 3) pa_nil))))))))))), ?_⟩
    refine ⟨_, rfl, rfl, _, rfl, ?_⟩
    cases x with
    | none =>
      refine iteT ⟨_, rfl, r_ixT 0 ha rfl fun v hv => ?_⟩
      cases hv
      refine r_tup (ds := [dN t.n, .a (.str "none"), .a .non]) (Reps.cons rfl (Reps.cons rfl (Reps.cons rfl Reps.nil))) (small (by simp)) fun v H1 s1 h1 => k v H1 s1 ?_
      have e : tScale none t = ⟨t.n, .none, none⟩ := by
        unfold tScale scaleR
        rw [wtimes_none]
      rw [e]
      exact h1
    | some x =>
      refine iteF ⟨_, rfl, r_ixT 1 ha rfl fun v hv => ?_⟩
      cases hv
      refine ⟨_, rfl, r_ixT 2 ha rfl fun v hv => ?_⟩
      cases rep_W hv
      refine ⟨_, rfl, r_tup (ds := [.a (.str "none"), .a (.str "falls")]) (Reps.cons rfl (Reps.cons rfl Reps.nil)) (small (by simp)) fun v1 H1 s1 h1 => ?_⟩
      obtain ⟨p, vs1, rfl, hp, rp⟩ := h1
      have hp1 := lst_rV (rs := [.none, .falls]) hp rp
      refine r_inT (SqT.of hp1) (flat_rV t.r) (by rfl) ⟨_, rfl, ?_⟩
      cases hr : t.r with
      | none =>
        rw [show (if true = true then !inV (rV BF.R.none) ([BF.R.none, BF.R.falls].map rV) else inV (rV BF.R.none) ([BF.R.none, BF.R.falls].map rV)) = false by decide +kernel]
        refine iteF ⟨_, rfl, rfl, _, rfl, ?_⟩
        cases he : t.e with
        | none =>
          refine iteF ⟨_, rfl, r_ixT 0 (ha.same s1) rfl fun v hv => ⟨_, rfl, _, rfl, ?_⟩⟩
          cases hv
          refine r_tup (ds := [dN t.n, .a (.str "none"), .a .non]) (Reps.cons rfl (Reps.cons rfl (Reps.cons rfl Reps.nil))) (small (by simp)) fun v H2 s2 h2 => k v H2 (s1.trans s2) ?_
          have e : tScale (some x) t = ⟨t.n, .none, none⟩ := by unfold tScale; rw [hr, he] <;> rfl
          rw [e]; exact h2
        | some y =>
          refine iteT ⟨_, rfl, _, rfl, _, _, rfl, rfl, _, rfl, r_ixT 0 (ha.same s1) rfl fun v hv => ⟨_, rfl, _, rfl, ?_⟩⟩
          cases hv
          refine r_tup (ds := [dN t.n, .a (.str "none"), .a (.int (y + x))]) (Reps.cons rfl (Reps.cons rfl (Reps.cons rfl Reps.nil))) (small (by simp)) fun v H2 s2 h2 => k v H2 (s1.trans s2) ?_
          have e : tScale (some x) t = ⟨t.n, .none, some (y + x)⟩ := by unfold tScale; rw [hr, he] <;> rfl
          rw [e]; exact h2
      | falls =>
        rw [show (if true = true then !inV (rV BF.R.falls) ([BF.R.none, BF.R.falls].map rV) else inV (rV BF.R.falls) ([BF.R.none, BF.R.falls].map rV)) = false by decide +kernel]
        refine iteF ⟨_, rfl, rfl, _, rfl, ?_⟩
        cases he : t.e with
        | none =>
          refine iteF ⟨_, rfl, r_ixT 0 (ha.same s1) rfl fun v hv => ⟨_, rfl, _, rfl, ?_⟩⟩
          cases hv
          refine r_tup (ds := [dN t.n, .a (.str "falls"), .a .non]) (Reps.cons rfl (Reps.cons rfl (Reps.cons rfl Reps.nil))) (small (by simp)) fun v H2 s2 h2 => k v H2 (s1.trans s2) ?_
          have e : tScale (some x) t = ⟨t.n, .falls, none⟩ := by unfold tScale; rw [hr, he] <;> rfl
          rw [e]; exact h2
        | some y =>
          refine iteT ⟨_, rfl, _, rfl, _, _, rfl, rfl, _, rfl, r_ixT 0 (ha.same s1) rfl fun v hv => ⟨_, rfl, _, rfl, ?_⟩⟩
          cases hv
          refine r_tup (ds := [dN t.n, .a (.str "falls"), .a (.int (y + x))]) (Reps.cons rfl (Reps.cons rfl (Reps.cons rfl Reps.nil))) (small (by simp)) fun v H2 s2 h2 => k v H2 (s1.trans s2) ?_
          have e : tScale (some x) t = ⟨t.n, .falls, some (y + x)⟩ := by unfold tScale; rw [hr, he] <;> rfl
          rw [e]; exact h2
      | least z =>
        rw [show (if true = true then !inV (rV (BF.R.least z)) ([BF.R.none, BF.R.falls].map rV) else inV (rV (BF.R.least z)) ([BF.R.none, BF.R.falls].map rV)) = true by rfl]
        refine iteT ⟨_, rfl, _, rfl, _, _, rfl, rfl, ?_⟩
        refine ⟨_, rfl, rfl, _, rfl, ?_⟩
        cases he : t.e with
        | none =>
          refine iteF ⟨_, rfl, r_ixT 0 (ha.same s1) rfl fun v hv => ⟨_, rfl, _, rfl, ?_⟩⟩
          cases hv
          refine r_tup (ds := [dN t.n, .a (.int (z + x)), .a .non]) (Reps.cons rfl (Reps.cons rfl (Reps.cons rfl Reps.nil))) (small (by simp)) fun v H2 s2 h2 => k v H2 (s1.trans s2) ?_
          have e : tScale (some x) t = ⟨t.n, .least (z + x), none⟩ := by unfold tScale; rw [hr, he] <;> rfl
          rw [e]; exact h2
        | some y =>
          refine iteT ⟨_, rfl, _, rfl, _, _, rfl, rfl, _, rfl, r_ixT 0 (ha.same s1) rfl fun v hv => ⟨_, rfl, _, rfl, ?_⟩⟩
          cases hv
          refine r_tup (ds := [dN t.n, .a (.int (z + x)), .a (.int (y + x))]) (Reps.cons rfl (Reps.cons rfl (Reps.cons rfl Reps.nil))) (small (by simp)) fun v H2 s2 h2 => k v H2 (s1.trans s2) ?_
          have e : tScale (some x) t = ⟨t.n, .least (z + x), some (y + x)⟩ := by unfold tScale; rw [hr, he] <;> rfl
          rw [e]; exact h2
end
end L2.Ww
set_option Elab.async false
set_option linter.all false
set_option maxRecDepth 100000
set_option maxHeartbeats 4000000
/-! The law's reckoning: joined. -/
namespace L2.Ww
open PySem PySem.Spec PyProof.Rows
theorem r_inTb {K : PySem.W.Frag} {H : Hp} {Q : VK} {p : Addr} {xs : List V} {x : V} {b : Bool} (h : SqT K H p xs) (f : flatV x = true) (fs : xs.all flatV = true) (e : inV x xs = b) (k : Q (.bl b) H) : qIn K false x (.ref p) H Q := by
  refine r_inT h f fs ?_
  subst e
  exact k
section
variable {P : Program} {w : World} {K : PySem.W.Frag} {mg : Str → Option Value} {base : Heap}
abbrev s__law_joined : Stmt := top 140
theorem sc__law_joined : FnScope ["_law_one", "_law_other", "_law_empty", "_law_word"] ["_law_one", "_law_other"] (defScope s__law_joined) := ⟨rfl, rfl, rfl, by decide +kernel, rfl, by decide +kernel, by decide +kernel⟩
theorem ok__law_joined (T : Txt w K mg) : Cal P w K mg base CX0 1 "_law_joined" spLJoined := by
  refine cal_ok T.d__law_joined (fun _ _ _ _ _ _ us hl => match us, hl with | [_, _], _ => rfl) sc__law_joined (fun vs H Q E h => ?_) (fun cdv A outer s f H vs Q E hr h => ?_)
  · obtain ⟨_, _, _, _, rfl, _⟩ := h; rfl
  · obtain ⟨a, b, s0, t0, rfl, ha, hb, k⟩ := h
    refine ⟨_, PSs.nox (pss_cons (ps_set (i := 2) sc__law_joined.nd rfl (Or.inl rfl) pe_non)
      (pss_cons (ps_if (PW.pt (pw_and (pt_cmpR op_notN (pe_ix (ix_tupQ K) (pv 0) pe_int (fun _ _ => rfl)) pe_non (nomark _)) (pw_and1 (pt_cmpR op_notN (pe_ix (ix_tupQ K) (pv 1) pe_int (fun _ _ => rfl)) pe_non (nomark _))))) (pss_one (ps_set (i := 2) sc__law_joined.nd rfl (Or.inl rfl) (pe_op op_add (pe_ix (ix_tupQ K) (pv 0) pe_int (fun _ _ => rfl)) (pe_ix (ix_tupQ K) (pv 1) pe_int (fun _ _ => rfl))))) pss_nil)
      (pss_cons (ps_for PassesOwn.never rfl (pi_tup (pe_tupQ (pa_cons pe_str (pa_cons pe_str pa_nil)))) (pg_name (i := 3) sc__law_joined.nd rfl (Or.inl rfl))
      (pss_one (ps_if (pt_cmpR (op_in_seqQ K) (pv 3) (pe_tupQ (pa_cons (pe_ix (ix_tupQ K) (pv 0) pe_int (fun _ _ => rfl)) (pa_cons (pe_ix (ix_tupQ K) (pv 1) pe_int (fun _ _ => rfl)) pa_nil))) (by rfl)) (pss_one (ps_ret (pe_tupQ (pa_cons (pe_op op_add (pe_ix (ix_tupQ K) (pv 0) pe_int (fun _ _ => rfl)) (pe_ix (ix_tupQ K) (pv 1) pe_int (fun _ _ => rfl))) (pa_cons (pv 3) (pa_cons (pv 2) pa_nil)))))) pss_nil)))
      (pss_one (ps_ret (pe_tupQ (pa_cons (pe_op op_add (pe_ix (ix_tupQ K) (pv 0) pe_int (fun _ _ => rfl)) (pe_ix (ix_tupQ K) (pv 1) pe_int (fun _ _ => rfl))) (pa_cons (pe_op op_add (pe_ix (ix_tupQ K) (pv 0) pe_int (fun _ _ => rfl)) (pe_ix (ix_tupQ K) (pv 1) pe_int (fun _ _ => rfl))) (pa_cons (pv 2) pa_nil))))))))), ?_⟩
    -- what follows once the empties are told
    have main : ∀ ε : V, ε = vW (wtimes s0.e t0.e) → tSeq (tFor (iTup K (tNewT (tCons (tC (.str "none")) (tCons (tC (.str "falls")) tNil)))) (gName 3) (tIfS (tTest (tOp (qIn K false) (tVar 3) (tNewT (tCons (tOp (qIxT K) (tVar 0) (tC (.int 1))) (tCons (tOp (qIxT K) (tVar 1) (tC (.int 1))) tNil)))) ) (tRet (tNewT (tCons (tOp (rI0 fun i j => .int (i + j)) (tOp (qIxT K) (tVar 0) (tC (.int 0))) (tOp (qIxT K) (tVar 1) (tC (.int 0)))) (tCons (tVar 3) (tCons (tVar 2) tNil))))) tNext)) (tRet (tNewT (tCons (tOp (rI0 fun i j => .int (i + j)) (tOp (qIxT K) (tVar 0) (tC (.int 0))) (tOp (qIxT K) (tVar 1) (tC (.int 0)))) (tCons (tOp (rI0 fun i j => .int (i + j)) (tOp (qIxT K) (tVar 0) (tC (.int 1))) (tOp (qIxT K) (tVar 1) (tC (.int 1)))) (tCons (tVar 2) tNil)))))
        { nx := fun _ H' => Q .non H', rt := Q } [some a, some b, some ε, none] H := by
      rintro ε rfl
      refine r_tup (ds := [.a (.str "none"), .a (.str "falls")]) (Reps.cons rfl (Reps.cons rfl Reps.nil)) (small (by simp)) fun v1 H1 s1 h1 => ?_
      obtain ⟨p, vs1, rfl, hp, rp⟩ := h1
      have hp1 := lst_rV (rs := [.none, .falls]) hp rp
      refine ⟨p, rfl, ⟨_, SqT.of hp1⟩, for_it (walk_tup (xs := [BF.R.none, BF.R.falls].map rV)) (fun i σ H4 => ∃ y3, σ = [some a, some b, some (vW (wtimes s0.e t0.e)), y3] ∧ Same H1 H4 ∧ (1 ≤ i → s0.r ≠ .none ∧ t0.r ≠ .none) ∧ (2 ≤ i → s0.r ≠ .falls ∧ t0.r ≠ .falls))
        ⟨none, rfl, Same.refl _, fun h => by omega, fun h => by omega⟩ (fun i σ H4 _ ⟨_, _, s4, _⟩ => SqT.of (s4 _ _ hp1)) ?_ ?_⟩
      · rintro i z σ Hx H4 hi ⟨y3, rfl, s4, hn, hf⟩ ⟨rfl, hz⟩
        have s14 := s1.trans s4
        have flat2 : ([s0.r, t0.r].map rV).all flatV = true := by
          rw [List.all_eq_true]
          intro v hv
          obtain ⟨r, _, rfl⟩ := List.mem_map.mp hv
          exact flat_rV r
        have hi2 : i = 0 ∨ i = 1 := by
          have : i < 2 := hi
          omega
        rcases hi2 with rfl | rfl
        · cases hz
          refine ⟨_, rfl, _, rfl, r_ixT 1 (ha.same s14) rfl fun v hv => ⟨_, rfl, r_ixT 1 (hb.same s14) rfl fun u hu => ?_⟩⟩
          cases hv
          cases hu
          refine r_tup (ds := [s0.r, t0.r].map fun r => D.a (rV r)) (Reps.cons rfl (Reps.cons rfl Reps.nil)) (small (by simp)) fun v5 H5 s5 h5 => ?_
          obtain ⟨p5, vs5, rfl, hp5, rp5⟩ := h5
          have hp6 := lst_rV hp5 rp5
          refine r_inTb (SqT.of hp6) rfl flat2 (inV_rV "none" _ .none rfl) ⟨_, rfl, ?_⟩
          refine ite2 (fun hc => ?_) (fun hc => ?_)
          · have hm := of_decide_eq_true hc
            refine ⟨_, rfl, r_ixT 0 (ha.same (s14.trans s5)) rfl fun v hv => ⟨_, rfl, r_ixT 0 (hb.same (s14.trans s5)) rfl fun u hu => ?_⟩⟩
            cases hv
            cases hu
            refine ⟨_, _, rfl, rfl, _, rfl, _, rfl, ?_⟩
            refine r_tup (ds := [dN (s0.n + t0.n), .a (.str "none"), dW (wtimes s0.e t0.e)]) (Reps.cons (by show V.int _ = V.int _; rw [Int.natCast_add]) (Reps.cons rfl (Reps.cons rfl Reps.nil))) (small (by simp)) fun v6 H6 s6 h6 => k v6 H6 (s14.trans (s5.trans s6)) ?_
            have e6 : tJoin s0 t0 = ⟨s0.n + t0.n, .none, wtimes s0.e t0.e⟩ := by
              unfold tJoin
              congr 1
              simp only [List.mem_cons, List.not_mem_nil, or_false] at hm
              rcases hm with hm | hm
              · rw [← hm]; rfl
              · rw [← hm]; cases s0.r <;> rfl
            rw [e6]; exact h6
          · have hm : ¬ BF.R.none ∈ [s0.r, t0.r] := fun z => hc (decide_eq_true z)
            simp only [List.mem_cons, List.not_mem_nil, or_false, not_or] at hm
            exact ⟨_, rfl, s4.trans s5, fun _ => ⟨fun e => hm.1 e.symm, fun e => hm.2 e.symm⟩, fun h => by omega⟩
        · cases hz
          have hnn := hn (Nat.le_refl _)
          refine ⟨_, rfl, _, rfl, r_ixT 1 (ha.same s14) rfl fun v hv => ⟨_, rfl, r_ixT 1 (hb.same s14) rfl fun u hu => ?_⟩⟩
          cases hv
          cases hu
          refine r_tup (ds := [s0.r, t0.r].map fun r => D.a (rV r)) (Reps.cons rfl (Reps.cons rfl Reps.nil)) (small (by simp)) fun v5 H5 s5 h5 => ?_
          obtain ⟨p5, vs5, rfl, hp5, rp5⟩ := h5
          have hp6 := lst_rV hp5 rp5
          refine r_inTb (SqT.of hp6) rfl flat2 (inV_rV "falls" _ .falls rfl) ⟨_, rfl, ?_⟩
          refine ite2 (fun hc => ?_) (fun hc => ?_)
          · have hm := of_decide_eq_true hc
            refine ⟨_, rfl, r_ixT 0 (ha.same (s14.trans s5)) rfl fun v hv => ⟨_, rfl, r_ixT 0 (hb.same (s14.trans s5)) rfl fun u hu => ?_⟩⟩
            cases hv
            cases hu
            refine ⟨_, _, rfl, rfl, _, rfl, _, rfl, ?_⟩
            refine r_tup (ds := [dN (s0.n + t0.n), .a (.str "falls"), dW (wtimes s0.e t0.e)]) (Reps.cons (by show V.int _ = V.int _; rw [Int.natCast_add]) (Reps.cons rfl (Reps.cons rfl Reps.nil))) (small (by simp)) fun v6 H6 s6 h6 => k v6 H6 (s14.trans (s5.trans s6)) ?_
            have e6 : tJoin s0 t0 = ⟨s0.n + t0.n, .falls, wtimes s0.e t0.e⟩ := by
              unfold tJoin
              congr 1
              simp only [List.mem_cons, List.not_mem_nil, or_false] at hm
              rcases hm with hm | hm
              · rw [← hm]
                cases e : t0.r with
                | none => exact absurd e hnn.2
                | falls => rfl
                | least w => rfl
              · rw [← hm]
                cases e : s0.r with
                | none => exact absurd e hnn.1
                | falls => rfl
                | least w => rfl
            rw [e6]; exact h6
          · have hm : ¬ BF.R.falls ∈ [s0.r, t0.r] := fun z => hc (decide_eq_true z)
            simp only [List.mem_cons, List.not_mem_nil, or_false, not_or] at hm
            exact ⟨_, rfl, s4.trans s5, fun _ => hnn, fun _ => ⟨fun e => hm.1 e.symm, fun e => hm.2 e.symm⟩⟩
      · rintro σ H4 ⟨y3, rfl, s4, hn, hf⟩
        have s14 := s1.trans s4
        have hnn := hn (by decide)
        have hff := hf (by decide)
        obtain ⟨x, hx⟩ : ∃ x, s0.r = .least x := by
          cases e : s0.r with
          | none => exact absurd e hnn.1
          | falls => exact absurd e hff.1
          | least w => exact ⟨w, rfl⟩
        obtain ⟨y, hy⟩ : ∃ y, t0.r = .least y := by
          cases e : t0.r with
          | none => exact absurd e hnn.2
          | falls => exact absurd e hff.2
          | least w => exact ⟨w, rfl⟩
        refine ⟨_, rfl, r_ixT 0 (ha.same s14) rfl fun v hv => ⟨_, rfl, r_ixT 0 (hb.same s14) rfl fun u hu => ?_⟩⟩
        cases hv
        cases hu
        refine ⟨_, _, rfl, rfl, _, rfl, r_ixT 1 (ha.same s14) rfl fun v hv => ⟨_, rfl, r_ixT 1 (hb.same s14) rfl fun u hu => ?_⟩⟩
        cases hv
        cases hu
        rw [hx, hy]
        refine ⟨_, _, rfl, rfl, _, rfl, ?_⟩
        refine r_tup (ds := [dN (s0.n + t0.n), .a (.int (x + y)), dW (wtimes s0.e t0.e)]) (Reps.cons (by show V.int _ = V.int _; rw [Int.natCast_add]) (Reps.cons rfl (Reps.cons rfl Reps.nil))) (small (by simp)) fun v6 H6 s6 h6 => k v6 H6 (s14.trans s6) ?_
        have e6 : tJoin s0 t0 = ⟨s0.n + t0.n, .least (x + y), wtimes s0.e t0.e⟩ := by
          unfold tJoin
          rw [hx, hy] <;> rfl
        rw [e6]; exact h6
    refine ⟨_, rfl, r_ixT 2 ha rfl fun v hv => ?_⟩
    cases rep_W hv
    refine ⟨rfl, _, rfl, ?_⟩
    cases he : s0.e with
    | none =>
      refine iteF (iteF (main .non ?_))
      rw [he]; cases t0.e <;> rfl
    | some x =>
      refine iteT ⟨_, rfl, r_ixT 2 hb rfl fun v hv => ?_⟩
      cases rep_W hv
      refine ⟨rfl, _, rfl, ?_⟩
      cases he2 : t0.e with
      | none =>
        refine iteF (main .non ?_)
        rw [he, he2] <;> rfl
      | some y =>
        refine iteT ⟨_, rfl, r_ixT 2 ha rfl fun v hv => ⟨_, rfl, r_ixT 2 hb rfl fun u hu => ?_⟩⟩
        cases rep_W hv
        cases rep_W hu
        rw [he, he2]
        refine ⟨_, _, rfl, rfl, main (.int (x + y)) ?_⟩
        rw [he, he2] <;> rfl
end
end L2.Ww
set_option Elab.async false
set_option linter.all false
set_option maxRecDepth 100000
set_option maxHeartbeats 4000000
/-! min(xs, default='..') of a list of ints. -/
namespace L2.Ww
open PySem PySem.Spec PyProof.Rows
def tMinDef (K : PySem.W.Frag) (te : TE) (z : Str) : TE := fun σ H Q => te σ H fun x H1 => ∃ (l : Addr) (ns : List Int), x = .ref l ∧ SqL K H1 l (ns.map V.int) ∧ (ns = [] → Q (.str z) H1) ∧ ∀ m, m ∈ ns → (∀ y, y ∈ ns → m ≤ y) → Q (.int m) H1
theorem foldl_min : ∀ (ns : List Int) (n : Int), (ns.foldl min n = n ∨ ns.foldl min n ∈ ns) ∧ ns.foldl min n ≤ n ∧ ∀ y ∈ ns, ns.foldl min n ≤ y
  | [], n => ⟨.inl rfl, Int.le_refl _, fun _ h => nomatch h⟩
  | k :: ns, n => by
    obtain ⟨h1, h2, h3⟩ := foldl_min ns (min n k)
    rw [List.foldl_cons]
    have hk : min n k ≤ n ∧ min n k ≤ k ∧ (min n k = n ∨ min n k = k) := by omega
    refine ⟨?_, by omega, fun y hy => ?_⟩
    · rcases h1 with h1 | h1
      · rcases hk.2.2 with e | e
        · exact .inl (by rw [h1, e])
        · exact .inr (by rw [h1, e]; exact List.mem_cons_self)
      · exact .inr (List.mem_cons_of_mem _ h1)
    · rcases List.mem_cons.mp hy with rfl | hy
      · omega
      · exact h3 y hy
theorem reads_ints {h : Heap} : ∀ {ns : List Int} {us : List Value}, Vals (ns.map V.int) us → ∃ as, ReadsAll h us (ns.map PyData.int) as
  | [], _, .nil => ⟨_, .nil⟩
  | n :: ns, _, .cons r t => by
    obtain ⟨k, rfl⟩ := r
    obtain ⟨as, ha⟩ := reads_ints (h := h) t
    exact ⟨_, .cons (.int n k) ha⟩
theorem depth_ints : ∀ ns : List Int, PyData.depthAll (ns.map PyData.int) = 0
  | [] => rfl
  | n :: ns => by
    show max 0 (PyData.depthAll (ns.map PyData.int)) = 0
    rw [depth_ints ns] <;> rfl
theorem pe_minDef {X : Cx} {e : Expr} {te : TE} {z : Str} {p pos kp : Pos} {j : Nat} {cp : Pos} (hc : X.calm = true) (hu : X.A.units + 64 < cLine) (hg : Gl X "min") (hm : X.mg "min" = none) (he : PE X e te)
    (hs : starEach [e] X.env = (false, eval e X.env) :: starEach [] X.env := by rfl) :
    PE X (.Call (.Name "min" p) [e] [⟨some "default", .Constant (.str z) j cp, kp⟩] pos) (tMinDef X.K te z) := by
  refine ⟨fun pins s σ H Q I h => ?_⟩
  refine wpAny_Call_Name_kw (ld_blt (u := .builtin "min") I hg hm (by decide +kernel) ?_)
  refine PyProof.Rows.callWith_kw ?_ (by rw [hs]; rfl) (by rw [hs]; rfl) rfl rfl
  refine PyProof.Rows.args_cons (thn (he.run pins s σ H _ I h) fun v s1 ⟨x, H1, I1, r1, q1⟩ => PyProof.Rows.args_nil ?_) hs
  obtain ⟨l, ns, rfl, hq, q0, q⟩ := q1
  cases r1
  refine PyProof.Rows.kws_cons (Calls.Constant_str ?_)
  refine PyProof.Rows.kws_nil ?_
  obtain ⟨its, rv, hl, hz⟩ := I1.list hq
  have I2 : Inv X pins σ H1 { s1 with toks := s1.toks + 1 } := I1.tok _
  obtain ⟨as, hr⟩ := reads_ints (h := s1.heap) rv
  refine PySem.W.min_list_default (s := { s1 with toks := s1.toks + 1 }) (I1.ok.hd hc) hl.isList (by simpa using hr) ⟨fun x hx y hy => ?_, fun x hx => ?_⟩ (by rw [depth_ints]; omega) (fun hn h' tk k => ?_) fun y ys i v h' tk bs hxs hv hrd k => ?_
  · obtain ⟨a, _, rfl⟩ := List.mem_map.mp hx
    obtain ⟨b, _, rfl⟩ := List.mem_map.mp hy
    rfl
  · obtain ⟨a, _, rfl⟩ := List.mem_map.mp hx
    exact fun z => nomatch z
  · have hn2 : ns = [] := List.map_eq_nil_iff.mp hn
    exact ⟨.str z, H1, I1.kept (t' := tk) k, ⟨_, rfl⟩, q0 hn2⟩
  · cases ns with
    | nil => cases hxs
    | cons n ns =>
      rw [List.map_cons] at hxs
      injection hxs with e1 e2
      subst e1 e2
      rw [PySem.W.minD_ints] at hrd
      obtain ⟨f1, f2, f3⟩ := foldl_min ns n
      cases hrd with
      | int m t =>
        refine ⟨.int _, H1, I1.kept (t' := tk) k, ⟨_, rfl⟩, q _ ?_ fun y hy => ?_⟩
        · rcases f1 with f1 | f1
          · rw [f1]; exact List.mem_cons_self
          · exact List.mem_cons_of_mem _ f1
        · rcases List.mem_cons.mp hy with rfl | hy
          · exact f2
          · exact f3 y hy
end L2.Ww
set_option Elab.async false
set_option linter.all false
set_option maxRecDepth 100000
set_option maxHeartbeats 4000000
/-! The law's reckoning: added. -/
namespace L2.Ww
open PySem PySem.Spec PyProof.Rows
def addR : BF.R → BF.R → BF.R
  | .falls, _ => .falls
  | _, .falls => .falls
  | .none, r => r
  | r, .none => r
  | .least x, .least y => .least (if y < x then y else x)
def tAdd (s t : Trip) : Trip := ⟨s.n + t.n, addR s.r t.r, wplus s.e t.e⟩
def spLAdded : Sp := fun vs H Q _ => ∃ a b s t, vs = [a, b] ∧ Rep H (dTrip s) a ∧ Rep H (dTrip t) b ∧ Gives H (dTrip (tAdd s t)) Q
def leastOf : BF.R → Option Int
  | .least w => some w
  | _ => none
theorem addR_of {r1 r2 : BF.R} (h1 : r1 ≠ .falls) (h2 : r2 ≠ .falls) : ([r1, r2].filterMap leastOf = [] → addR r1 r2 = .none) ∧ ∀ m, m ∈ [r1, r2].filterMap leastOf → (∀ y ∈ [r1, r2].filterMap leastOf, m ≤ y) → addR r1 r2 = .least m := by
  cases r1 with
  | falls => exact absurd rfl h1
  | none =>
    cases r2 with
    | falls => exact absurd rfl h2
    | none => exact ⟨fun _ => rfl, fun m hm => by simp [leastOf] at hm⟩
    | least y =>
      refine ⟨fun h => by simp [leastOf] at h, fun m hm _ => ?_⟩
      have : m = y := by simp [leastOf] at hm; omega
      rw [this]; rfl
  | least x =>
    cases r2 with
    | falls => exact absurd rfl h2
    | none =>
      refine ⟨fun h => by simp [leastOf] at h, fun m hm _ => ?_⟩
      have : m = x := by simp [leastOf] at hm; omega
      rw [this]; rfl
    | least y =>
      refine ⟨fun h => by simp [leastOf] at h, fun m hm hall => ?_⟩
      have h3 : m = x ∨ m = y := by simpa [leastOf] using hm
      have h4 : m ≤ x := hall x (by simp [leastOf])
      have h5 : m ≤ y := hall y (by simp [leastOf])
      show BF.R.least (if y < x then y else x) = .least m
      congr 1
      split <;> omega
section
variable {P : Program} {w : World} {K : PySem.W.Frag} {mg : Str → Option Value} {base : Heap}
abbrev s__law_added : Stmt := top 139
theorem sc__law_added : FnScope ["_law_one", "_law_other", "_law_empty", "_law_some", "_law_thing"] ["_law_one", "_law_other"] (defScope s__law_added) := ⟨rfl, rfl, rfl, by decide +kernel, rfl, by decide +kernel, by decide +kernel⟩
theorem ok__law_added (T : Txt w K mg) : Cal P w K mg base CX0 2 "_law_added" spLAdded := by
  refine cal_ok T.d__law_added (fun _ _ _ _ _ _ us hl => match us, hl with | [_, _], _ => rfl) sc__law_added (fun vs H Q E h => ?_) (fun cdv A outer s f H vs Q E hr h => ?_)
  · obtain ⟨_, _, _, _, rfl, _⟩ := h; rfl
  · obtain ⟨a, b, s0, t0, rfl, ha, hb, k⟩ := h
    refine ⟨_, PSs.nox (pss_cons (ps_set (i := 2) sc__law_added.nd rfl (Or.inl rfl) (pe_c0 (ok__law_lesser T) hr (by decide) rfl (pa_cons (pe_ix (ix_tupQ K) (pv 0) pe_int (fun _ _ => rfl)) (pa_cons (pe_ix (ix_tupQ K) (pv 1) pe_int (fun _ _ => rfl)) pa_nil))))
      (pss_cons (ps_if (pt_cmpR (op_in_seqQ K) pe_str (pe_tupQ (pa_cons (pe_ix (ix_tupQ K) (pv 0) pe_int (fun _ _ => rfl)) (pa_cons (pe_ix (ix_tupQ K) (pv 1) pe_int (fun _ _ => rfl)) pa_nil))) (by rfl)) (pss_one (ps_ret (pe_tupQ (pa_cons (pe_op op_add (pe_ix (ix_tupQ K) (pv 0) pe_int (fun _ _ => rfl)) (pe_ix (ix_tupQ K) (pv 1) pe_int (fun _ _ => rfl))) (pa_cons pe_str (pa_cons (pv 2) pa_nil)))))) pss_nil)
      (pss_cons (ps_setLc (i := 3) rfl sc__law_added.nd rfl rfl (sw_true rfl rfl rfl (by decide +kernel)) (own := [("_law_thing", 4)]) (pi_tup (pe_tupQ (pa_cons (pv 0) (pa_cons (pv 1) pa_nil)))) (blkOk_by (own := [("_law_thing", 4)]) (N := ["_law_one", "_law_other", "_law_empty", "_law_some", "_law_thing"]) (sc := defScope s__law_added) (by decide +kernel)) (fun _ _ _ _ _ => (pg_name (i := 4) sc__law_added.nd rfl (Or.inl rfl))) (fun _ _ _ _ _ => (pts_one (pt_cmpR op_ne (pe_ix (ix_tupQ K) (pv 4) pe_int (fun _ _ => rfl)) pe_str (nomark _)))) (fun _ _ _ _ _ => (pe_ix (ix_tupQ K) (pv 4) pe_int (fun _ _ => rfl))))
      (pss_one (ps_ret (pe_tupQ (pa_cons (pe_op op_add (pe_ix (ix_tupQ K) (pv 0) pe_int (fun _ _ => rfl)) (pe_ix (ix_tupQ K) (pv 1) pe_int (fun _ _ => rfl))) (pa_cons (pe_minDef rfl hr.units rfl T.f_min (pv 3)) (pa_cons (pv 2) pa_nil))))))))), ?_⟩
    refine ⟨_, rfl, r_ixT 2 ha rfl fun v hv => ⟨_, rfl, r_ixT 2 hb rfl fun u hu => ?_⟩⟩
    cases rep_W hv
    cases rep_W hu
    refine ⟨s0.e, t0.e, rfl, ?_⟩
    refine ⟨_, rfl, r_ixT 1 ha rfl fun v hv => ⟨_, rfl, r_ixT 1 hb rfl fun u hu => ?_⟩⟩
    cases hv
    cases hu
    refine r_tup (ds := [s0.r, t0.r].map fun r => D.a (rV r)) (Reps.cons rfl (Reps.cons rfl Reps.nil)) (small (by simp)) fun v5 H5 s5 h5 => ?_
    obtain ⟨p5, vs5, rfl, hp5, rp5⟩ := h5
    have hp6 := lst_rV hp5 rp5
    have flat2 : ([s0.r, t0.r].map rV).all flatV = true := by
      rw [List.all_eq_true]
      intro v hv
      obtain ⟨r, _, rfl⟩ := List.mem_map.mp hv
      exact flat_rV r
    refine r_inTb (SqT.of hp6) rfl flat2 (inV_rV "falls" _ .falls rfl) ⟨_, rfl, ?_⟩
    refine ite2 (fun hc => ?_) (fun hc => ?_)
    · have hm := of_decide_eq_true hc
      refine ⟨_, rfl, r_ixT 0 (ha.same s5) rfl fun v hv => ⟨_, rfl, r_ixT 0 (hb.same s5) rfl fun u hu => ?_⟩⟩
      cases hv
      cases hu
      refine ⟨_, _, rfl, rfl, _, rfl, ?_⟩
      refine r_tup (ds := [dN (s0.n + t0.n), .a (.str "falls"), dW (wplus s0.e t0.e)]) (Reps.cons (by show V.int _ = V.int _; rw [Int.natCast_add]) (Reps.cons rfl (Reps.cons rfl Reps.nil))) (small (by simp)) fun v6 H6 s6 h6 => k v6 H6 (s5.trans s6) ?_
      have e6 : tAdd s0 t0 = ⟨s0.n + t0.n, .falls, wplus s0.e t0.e⟩ := by
        unfold tAdd
        congr 1
        simp only [List.mem_cons, List.not_mem_nil, or_false] at hm
        rcases hm with hm | hm
        · rw [← hm]; rfl
        · rw [← hm]; cases s0.r <;> rfl
      rw [e6]; exact h6
    · have hm : ¬ BF.R.falls ∈ [s0.r, t0.r] := fun z => hc (decide_eq_true z)
      simp only [List.mem_cons, List.not_mem_nil, or_false, not_or] at hm
      have hs0 : s0.r ≠ .falls := fun e => hm.1 e.symm
      have ht0 : t0.r ≠ .falls := fun e => hm.2 e.symm
      refine ⟨_, rfl, _, rfl, r_tup (ds := [s0, t0].map dTrip) (Reps.cons (ha.same s5) (Reps.cons (hb.same s5) Reps.nil)) (small (by simp)) fun v7 H7 s7 h7 => ?_⟩
      obtain ⟨p7, vs7, rfl, hp7, rp7⟩ := h7
      have hv7 : vs7.length = 2 := by rw [rp7.len]; rfl
      refine ⟨p7, rfl, ⟨_, SqT.of hp7⟩, fun Dd hD => ?_⟩
      refine lc_gen (H0 := H7) (walk_tup (xs := vs7)) hD (small (by omega)) (fun H8 s8 => sqT_same s8 (SqT.of hp7)) same_YAt (fun i => ([s0, t0][i]?).bind fun t => (leastOf t.r).map fun c => D.a (.int c)) ?_ ?_
      · rintro i z H8 H9 hi s9 ⟨rfl, hz⟩ s8 Kf Kt hf ht
        obtain ⟨d, hd, rd⟩ := rp7.getV hz
        rw [List.getElem?_map, Option.map_eq_some_iff] at hd
        obtain ⟨t, ht1, rfl⟩ := hd
        have rd9 : Rep H9 (dTrip t) z := rd.same s9
        have htf : t.r ≠ .falls := by
          have hmem := List.mem_of_getElem? ht1
          simp only [List.mem_cons, List.not_mem_nil, or_false] at hmem
          rcases hmem with rfl | rfl
          · exact hs0
          · exact ht0
        refine ⟨rfl, _, rfl, r_ixT 1 rd9 rfl fun v hv => ?_⟩
        cases hv
        cases hr1 : t.r with
        | falls => exact absurd hr1 htf
        | none =>
          refine ⟨rfl, _, rfl, iteF (hf ?_ _ (Same.refl _))⟩
          rw [ht1, Option.bind_some, hr1]; rfl
        | least c =>
          refine ⟨rfl, _, rfl, iteT ⟨_, rfl, r_ixT 1 rd9 rfl fun v hv => ?_⟩⟩
          cases hv
          refine ht (.a (.int c)) ?_ _ _ (Same.refl _) ?_
          · rw [ht1, Option.bind_some, hr1]; rfl
          · show rV t.r = _
            rw [hr1]; rfl
      · intro Hf sf hlst
        have e7 : (List.range vs7.length).filterMap (fun i => ([s0, t0][i]?).bind fun t => (leastOf t.r).map fun c => D.a (.int c)) = (([s0.r, t0.r].filterMap leastOf).map V.int).map D.a := by
          rw [hv7]
          have := fm_range [s0, t0] (fun t => (leastOf t.r).map fun c => D.a (.int c))
          refine Eq.trans this ?_
          rw [List.map_map, List.map_filterMap]
          rfl
        rw [e7] at hlst
        obtain ⟨nv, hnv, rnv⟩ := hlst
        rw [Reps.atoms] at rnv
        subst rnv
        have s57 := s5.trans (s7.trans sf)
        obtain ⟨a1, a2⟩ := addR_of hs0 ht0
        refine ⟨_, rfl, r_ixT 0 (ha.same s57) rfl fun v hv => ⟨_, rfl, r_ixT 0 (hb.same s57) rfl fun u hu => ?_⟩⟩
        cases hv
        cases hu
        refine ⟨_, _, rfl, rfl, _, rfl, Dd, _, rfl, SqL.of hnv, fun hnil => ⟨_, rfl, ?_⟩, fun m hm hall => ⟨_, rfl, ?_⟩⟩
        · refine r_tup (ds := [dN (s0.n + t0.n), .a (.str "none"), dW (wplus s0.e t0.e)]) (Reps.cons (by show V.int _ = V.int _; rw [Int.natCast_add]) (Reps.cons rfl (Reps.cons rfl Reps.nil))) (small (by simp)) fun v6 H6 s6 h6 => k v6 H6 (s57.trans s6) ?_
          have e6 : tAdd s0 t0 = ⟨s0.n + t0.n, .none, wplus s0.e t0.e⟩ := by unfold tAdd; rw [a1 hnil]
          rw [e6]; exact h6
        · refine r_tup (ds := [dN (s0.n + t0.n), .a (.int m), dW (wplus s0.e t0.e)]) (Reps.cons (by show V.int _ = V.int _; rw [Int.natCast_add]) (Reps.cons rfl (Reps.cons rfl Reps.nil))) (small (by simp)) fun v6 H6 s6 h6 => k v6 H6 (s57.trans s6) ?_
          have e6 : tAdd s0 t0 = ⟨s0.n + t0.n, .least m, wplus s0.e t0.e⟩ := by unfold tAdd; rw [a2 m hm hall]
          rw [e6]; exact h6
end
end L2.Ww
set_option Elab.async false
set_option linter.all false
set_option maxRecDepth 100000
set_option maxHeartbeats 4000000
/-! The law's reckoning: made. -/
namespace L2.Ww
open PySem PySem.Spec PyProof.Rows
def closeR : BF.R → BF.R
  | .falls => .falls
  | .none => .least 0
  | .least w => if w < 0 then .falls else .least 0
inductive LRes where
  | ok (t : Trip)
  | no (k : Nat)
inductive LM : Str → Trip → Trip → LRes → Prop
  | turn {s t : Trip} : LM "turn" s t (.ok s)
  | closeE {s t : Trip} : s.e ≠ none → LM "close" s t (.no 5)
  | close {s t : Trip} : s.e = none → s.n + 1 ≤ 20 → LM "close" s t (.ok ⟨s.n + 1, closeR s.r, some 0⟩)
  | closeN {s t : Trip} : s.e = none → 20 < s.n + 1 → LM "close" s t (.no 6)
  | add {s t : Trip} : s.n + t.n ≤ 20 → LM "add" s t (.ok (tAdd s t))
  | addN {s t : Trip} : 20 < s.n + t.n → LM "add" s t (.no 6)
  | join {s t : Trip} : s.n + t.n ≤ 20 → LM "join" s t (.ok (tJoin s t))
  | joinN {s t : Trip} : 20 < s.n + t.n → LM "join" s t (.no 6)
def Refused (H : Hp) (k : Nat) (Q : VK) : Prop := ∀ p v H', Same H H' → H p = none → LstAt H' p ((bitsOf k).map fun b => D.a (.bl b)) → Rep H' (.t [.a (.str "refused"), .a (.ref p)]) v → Q v H'
def spLMade : Sp := fun vs H Q _ => ∃ form a b s t res, vs = [.str form, a, b] ∧ Rep H (dTrip s) a ∧ Rep H (dTrip t) b ∧ LM form s t res ∧ (∀ t', res = .ok t' → Gives H (dTrip t') Q) ∧ ∀ k, res = .no k → Refused H k Q
def dTripL (n : Nat) (r : BF.R) : List D := [dN n, .a (rV r), .a (.int 0)]
theorem Refused.same {H H1 : Hp} {k : Nat} {Q : VK} (s : Same H H1) (h : Refused H k Q) : ∀ p v H', Same H1 H' → H1 p = none → LstAt H' p ((bitsOf k).map fun b => D.a (.bl b)) → Rep H' (.t [.a (.str "refused"), .a (.ref p)]) v → Q v H' := fun p v H' s' hp hl hr => h p v H' (s.trans s') (same_none s hp) hl hr
section
variable {P : Program} {w : World} {K : PySem.W.Frag} {mg : Str → Option Value} {base : Heap}
abbrev s__law_made : Stmt := top 141
theorem sc__law_made : FnScope ["_law_form", "_law_one", "_law_other", "_law_made_here"] ["_law_form", "_law_one", "_law_other"] (defScope s__law_made) := ⟨rfl, rfl, rfl, by decide +kernel, rfl, by decide +kernel, by decide +kernel⟩
theorem ok__law_made (T : Txt w K mg) : Cal P w K mg base CX0 3 "_law_made" spLMade := by
  refine cal_ok T.d__law_made (fun _ _ _ _ _ _ us hl => match us, hl with | [_, _, _], _ => rfl) sc__law_made (fun vs H Q E h => ?_) (fun cdv A outer s f H vs Q E hr h => ?_)
  · obtain ⟨_, _, _, _, _, _, rfl, _⟩ := h; rfl
  · obtain ⟨form, a, b, s0, t0, res, rfl, ha, hb, hm, kok, kno⟩ := h
    refine ⟨_, PSs.nox (pss_cons (ps_if (pt_cmpR op_eq (pv 0) pe_str (nomark _)) (pss_one (ps_ret (pv 1))) pss_nil)
      (pss_cons (ps_if (pt_cmpR op_eq (pv 0) pe_str (nomark _)) (pss_cons (ps_if (pt_cmpR op_notN (pe_ix (ix_tupQ K) (pv 1) pe_int (fun _ _ => rfl)) pe_non (nomark _)) (pss_one (ps_ret (pe_c0 (ok__law_of T) hr (by decide) rfl (pa_cons pe_int pa_nil)))) pss_nil)
      (pss_cons (ps_set (i := 3) sc__law_made.nd rfl (Or.inl rfl) (pe_tupQ (pa_cons (pe_op op_add (pe_ix (ix_tupQ K) (pv 1) pe_int (fun _ _ => rfl)) pe_int) (pa_cons pe_int (pa_cons pe_int pa_nil)))))
      (pss_one (ps_if (PW.pt (pw_or (pt_cmpR op_eq (pe_ix (ix_tupQ K) (pv 1) pe_int (fun _ _ => rfl)) pe_str (nomark _)) (pw_or1 (PW.pt (pw_and (pt_cmpR op_ne (pe_ix (ix_tupQ K) (pv 1) pe_int (fun _ _ => rfl)) pe_str (nomark _)) (pw_and1 (pt_cmpR op_lt (pe_ix (ix_tupQ K) (pv 1) pe_int (fun _ _ => rfl)) pe_int (nomark _)))))))) (pss_one (ps_set (i := 3) sc__law_made.nd rfl (Or.inl rfl) (pe_tupQ (pa_cons (pe_op op_add (pe_ix (ix_tupQ K) (pv 1) pe_int (fun _ _ => rfl)) pe_int) (pa_cons pe_str (pa_cons pe_int pa_nil)))))) pss_nil)))) (pss_one (ps_if (pt_cmpR op_eq (pv 0) pe_str (nomark _)) (pss_one (ps_set (i := 3) sc__law_made.nd rfl (Or.inl rfl) (pe_c0 (ok__law_added T) hr (by decide) rfl (pa_cons (pv 1) (pa_cons (pv 2) pa_nil))))) (pss_one (ps_set (i := 3) sc__law_made.nd rfl (Or.inl rfl) (pe_c0 (ok__law_joined T) hr (by decide) rfl (pa_cons (pv 1) (pa_cons (pv 2) pa_nil))))))))
      (pss_cons (ps_if (pt_cmpR op_gt (pe_ix (ix_tupQ K) (pv 3) pe_int (fun _ _ => rfl)) pe_int (nomark _)) (pss_one (ps_ret (pe_c0 (ok__law_of T) hr (by decide) rfl (pa_cons pe_int pa_nil)))) pss_nil)
      (pss_one (ps_ret (pv 3)))))), ?_⟩
    have tooBig : ∀ {n : Nat}, 20 < n → decide ((20 : Int) < (n : Int)) = true := fun h => decide_eq_true (by omega)
    have notBig : ∀ {n : Nat}, n ≤ 20 → decide ((20 : Int) < (n : Int)) = false := fun h => decide_eq_false (by omega)
    cases hm with
    | turn => exact ⟨_, rfl, rfl, _, rfl, iteT ⟨_, rfl, kok s0 rfl a H (Same.refl H) ha⟩⟩
    | add hle =>
      refine ⟨_, rfl, rfl, _, rfl, iteF ⟨_, rfl, rfl, _, rfl, iteF ⟨_, rfl, rfl, _, rfl, iteT ?_⟩⟩⟩
      refine ⟨_, rfl, _, rfl, a, b, s0, t0, rfl, ha, hb, fun v3 H3 s3 h3 => ?_⟩
      refine ⟨_, rfl, r_ixT 0 h3 rfl fun v hv => ?_⟩
      cases hv
      refine ⟨_, _, rfl, rfl, _, rfl, ?_⟩
      rw [notBig (show (tAdd s0 t0).n ≤ 20 from hle)]
      exact iteF ⟨_, rfl, kok _ rfl v3 H3 s3 h3⟩
    | addN hgt =>
      refine ⟨_, rfl, rfl, _, rfl, iteF ⟨_, rfl, rfl, _, rfl, iteF ⟨_, rfl, rfl, _, rfl, iteT ?_⟩⟩⟩
      refine ⟨_, rfl, _, rfl, a, b, s0, t0, rfl, ha, hb, fun v3 H3 s3 h3 => ?_⟩
      refine ⟨_, rfl, r_ixT 0 h3 rfl fun v hv => ?_⟩
      cases hv
      refine ⟨_, _, rfl, rfl, _, rfl, ?_⟩
      rw [tooBig (show 20 < (tAdd s0 t0).n from hgt)]
      exact iteT ⟨6, rfl, (kno 6 rfl).same s3⟩
    | join hle =>
      refine ⟨_, rfl, rfl, _, rfl, iteF ⟨_, rfl, rfl, _, rfl, iteF ⟨_, rfl, rfl, _, rfl, iteF ?_⟩⟩⟩
      refine ⟨_, rfl, _, rfl, a, b, s0, t0, rfl, ha, hb, fun v3 H3 s3 h3 => ?_⟩
      refine ⟨_, rfl, r_ixT 0 h3 rfl fun v hv => ?_⟩
      cases hv
      refine ⟨_, _, rfl, rfl, _, rfl, ?_⟩
      rw [notBig (show (tJoin s0 t0).n ≤ 20 from hle)]
      exact iteF ⟨_, rfl, kok _ rfl v3 H3 s3 h3⟩
    | joinN hgt =>
      refine ⟨_, rfl, rfl, _, rfl, iteF ⟨_, rfl, rfl, _, rfl, iteF ⟨_, rfl, rfl, _, rfl, iteF ?_⟩⟩⟩
      refine ⟨_, rfl, _, rfl, a, b, s0, t0, rfl, ha, hb, fun v3 H3 s3 h3 => ?_⟩
      refine ⟨_, rfl, r_ixT 0 h3 rfl fun v hv => ?_⟩
      cases hv
      refine ⟨_, _, rfl, rfl, _, rfl, ?_⟩
      rw [tooBig (show 20 < (tJoin s0 t0).n from hgt)]
      exact iteT ⟨6, rfl, (kno 6 rfl).same s3⟩
    | closeE he =>
      refine ⟨_, rfl, rfl, _, rfl, iteF ⟨_, rfl, rfl, _, rfl, iteT ⟨_, rfl, r_ixT 2 ha rfl fun v hv => ?_⟩⟩⟩
      cases rep_W hv
      refine ⟨rfl, _, rfl, ?_⟩
      cases e : s0.e with
      | none => exact absurd e he
      | some x => exact iteT ⟨5, rfl, kno 5 rfl⟩
    | close he hle =>
      refine ⟨_, rfl, rfl, _, rfl, iteF ⟨_, rfl, rfl, _, rfl, iteT ⟨_, rfl, r_ixT 2 ha rfl fun v hv => ?_⟩⟩⟩
      cases rep_W hv
      rw [he]
      refine ⟨rfl, _, rfl, iteF ⟨_, rfl, r_ixT 0 ha rfl fun v hv => ?_⟩⟩
      cases hv
      refine ⟨_, _, rfl, rfl, ?_⟩
      refine r_tup (ds := dTripL (s0.n + 1) (.least 0)) (Reps.cons (by show V.int _ = V.int _; rw [Int.natCast_add]; rfl) (Reps.cons rfl (Reps.cons rfl Reps.nil))) (small (by simp [dTripL])) fun v2 H2 s2 h2 => ?_
      refine ⟨_, rfl, r_ixT 1 (ha.same s2) rfl fun v hv => ?_⟩
      cases hv
      cases hr : s0.r with
      | falls =>
        have er : closeR s0.r = .falls := by rw [hr]; rfl
        refine ⟨rfl, _, rfl, iteT (iteT ?_)⟩
        refine ⟨_, rfl, r_ixT 0 (ha.same s2) rfl fun v hv => ?_⟩
        cases hv
        refine ⟨_, _, rfl, rfl, ?_⟩
        refine r_tup (ds := dTripL (s0.n + 1) .falls) (Reps.cons (by show V.int _ = V.int _; rw [Int.natCast_add]; rfl) (Reps.cons rfl (Reps.cons rfl Reps.nil))) (small (by simp [dTripL])) fun v3 H3 s3' h3 => ?_
        have s3 := s2.trans s3'
        refine ⟨_, rfl, r_ixT 0 h3 rfl fun v hv => ?_⟩
        cases hv
        refine ⟨_, _, rfl, rfl, _, rfl, ?_⟩
        rw [notBig hle]
        exact iteF ⟨_, rfl, kok _ rfl v3 H3 s3 (by rw [er]; exact h3)⟩
      | none =>
        have er : closeR s0.r = .least 0 := by rw [hr]; rfl
        refine ⟨rfl, _, rfl, iteF ⟨_, rfl, r_ixT 1 (ha.same s2) rfl fun v hv => ?_⟩⟩
        have hv2 : v = rV s0.r := hv
        rw [hr] at hv2
        subst hv2
        have s3 := s2
        have h3 := h2
        refine ⟨rfl, _, rfl, iteF (iteF ?_)⟩
        refine ⟨_, rfl, r_ixT 0 h3 rfl fun v hv => ?_⟩
        cases hv
        refine ⟨_, _, rfl, rfl, _, rfl, ?_⟩
        rw [notBig hle]
        exact iteF ⟨_, rfl, kok _ rfl v2 H2 s3 (by rw [er]; exact h3)⟩
      | least z =>
        refine ⟨rfl, _, rfl, iteF ⟨_, rfl, r_ixT 1 (ha.same s2) rfl fun v hv => ?_⟩⟩
        have hv2 : v = rV s0.r := hv
        rw [hr] at hv2
        subst hv2
        refine ⟨rfl, _, rfl, iteT ⟨_, rfl, r_ixT 1 (ha.same s2) rfl fun v hv => ?_⟩⟩
        have hv2 : v = rV s0.r := hv
        rw [hr] at hv2
        subst hv2
        refine ⟨_, _, rfl, rfl, _, rfl, ?_⟩
        refine ite2 (fun hc => ?_) (fun hc => ?_)
        · have er : closeR s0.r = .falls := by rw [hr]; exact if_pos (of_decide_eq_true hc)
          refine ⟨_, rfl, r_ixT 0 (ha.same s2) rfl fun v hv => ?_⟩
          cases hv
          refine ⟨_, _, rfl, rfl, ?_⟩
          refine r_tup (ds := dTripL (s0.n + 1) .falls) (Reps.cons (by show V.int _ = V.int _; rw [Int.natCast_add]; rfl) (Reps.cons rfl (Reps.cons rfl Reps.nil))) (small (by simp [dTripL])) fun v3 H3 s3' h3 => ?_
          have s3 := s2.trans s3'
          refine ⟨_, rfl, r_ixT 0 h3 rfl fun v hv => ?_⟩
          cases hv
          refine ⟨_, _, rfl, rfl, _, rfl, ?_⟩
          rw [notBig hle]
          exact iteF ⟨_, rfl, kok _ rfl v3 H3 s3 (by rw [er]; exact h3)⟩
        · have er : closeR s0.r = .least 0 := by rw [hr]; exact if_neg (fun q => hc (decide_eq_true q))
          have s3 := s2
          have h3 := h2
          refine ⟨_, rfl, r_ixT 0 h3 rfl fun v hv => ?_⟩
          cases hv
          refine ⟨_, _, rfl, rfl, _, rfl, ?_⟩
          rw [notBig hle]
          exact iteF ⟨_, rfl, kok _ rfl v2 H2 s3 (by rw [er]; exact h3)⟩
    | closeN he hgt =>
      refine ⟨_, rfl, rfl, _, rfl, iteF ⟨_, rfl, rfl, _, rfl, iteT ⟨_, rfl, r_ixT 2 ha rfl fun v hv => ?_⟩⟩⟩
      cases rep_W hv
      rw [he]
      refine ⟨rfl, _, rfl, iteF ⟨_, rfl, r_ixT 0 ha rfl fun v hv => ?_⟩⟩
      cases hv
      refine ⟨_, _, rfl, rfl, ?_⟩
      refine r_tup (ds := dTripL (s0.n + 1) (.least 0)) (Reps.cons (by show V.int _ = V.int _; rw [Int.natCast_add]; rfl) (Reps.cons rfl (Reps.cons rfl Reps.nil))) (small (by simp [dTripL])) fun v2 H2 s2 h2 => ?_
      refine ⟨_, rfl, r_ixT 1 (ha.same s2) rfl fun v hv => ?_⟩
      cases hv
      cases hr : s0.r with
      | falls =>
        have er : closeR s0.r = .falls := by rw [hr]; rfl
        refine ⟨rfl, _, rfl, iteT (iteT ?_)⟩
        refine ⟨_, rfl, r_ixT 0 (ha.same s2) rfl fun v hv => ?_⟩
        cases hv
        refine ⟨_, _, rfl, rfl, ?_⟩
        refine r_tup (ds := dTripL (s0.n + 1) .falls) (Reps.cons (by show V.int _ = V.int _; rw [Int.natCast_add]; rfl) (Reps.cons rfl (Reps.cons rfl Reps.nil))) (small (by simp [dTripL])) fun v3 H3 s3' h3 => ?_
        have s3 := s2.trans s3'
        refine ⟨_, rfl, r_ixT 0 h3 rfl fun v hv => ?_⟩
        cases hv
        refine ⟨_, _, rfl, rfl, _, rfl, ?_⟩
        rw [tooBig hgt]
        exact iteT ⟨6, rfl, (kno 6 rfl).same s3⟩
      | none =>
        have er : closeR s0.r = .least 0 := by rw [hr]; rfl
        refine ⟨rfl, _, rfl, iteF ⟨_, rfl, r_ixT 1 (ha.same s2) rfl fun v hv => ?_⟩⟩
        have hv2 : v = rV s0.r := hv
        rw [hr] at hv2
        subst hv2
        have s3 := s2
        have h3 := h2
        refine ⟨rfl, _, rfl, iteF (iteF ?_)⟩
        refine ⟨_, rfl, r_ixT 0 h3 rfl fun v hv => ?_⟩
        cases hv
        refine ⟨_, _, rfl, rfl, _, rfl, ?_⟩
        rw [tooBig hgt]
        exact iteT ⟨6, rfl, (kno 6 rfl).same s3⟩
      | least z =>
        refine ⟨rfl, _, rfl, iteF ⟨_, rfl, r_ixT 1 (ha.same s2) rfl fun v hv => ?_⟩⟩
        have hv2 : v = rV s0.r := hv
        rw [hr] at hv2
        subst hv2
        refine ⟨rfl, _, rfl, iteT ⟨_, rfl, r_ixT 1 (ha.same s2) rfl fun v hv => ?_⟩⟩
        have hv2 : v = rV s0.r := hv
        rw [hr] at hv2
        subst hv2
        refine ⟨_, _, rfl, rfl, _, rfl, ?_⟩
        refine ite2 (fun hc => ?_) (fun hc => ?_)
        · have er : closeR s0.r = .falls := by rw [hr]; exact if_pos (of_decide_eq_true hc)
          refine ⟨_, rfl, r_ixT 0 (ha.same s2) rfl fun v hv => ?_⟩
          cases hv
          refine ⟨_, _, rfl, rfl, ?_⟩
          refine r_tup (ds := dTripL (s0.n + 1) .falls) (Reps.cons (by show V.int _ = V.int _; rw [Int.natCast_add]; rfl) (Reps.cons rfl (Reps.cons rfl Reps.nil))) (small (by simp [dTripL])) fun v3 H3 s3' h3 => ?_
          have s3 := s2.trans s3'
          refine ⟨_, rfl, r_ixT 0 h3 rfl fun v hv => ?_⟩
          cases hv
          refine ⟨_, _, rfl, rfl, _, rfl, ?_⟩
          rw [tooBig hgt]
          exact iteT ⟨6, rfl, (kno 6 rfl).same s3⟩
        · have er : closeR s0.r = .least 0 := by rw [hr]; exact if_neg (fun q => hc (decide_eq_true q))
          have s3 := s2
          have h3 := h2
          refine ⟨_, rfl, r_ixT 0 h3 rfl fun v hv => ?_⟩
          cases hv
          refine ⟨_, _, rfl, rfl, _, rfl, ?_⟩
          rw [tooBig hgt]
          exact iteT ⟨6, rfl, (kno 6 rfl).same s3⟩
end
end L2.Ww
set_option Elab.async false
set_option linter.all false
set_option maxRecDepth 100000
set_option maxHeartbeats 4000000
/-! str * int, of one letter. -/
namespace L2.Ww
open PySem PySem.Spec PyProof.Rows
variable {P : Program} {w : World} {X : Cx}
def repStr (c : Nat) (n : Nat) : Str := ⟨(List.replicate n c).toArray⟩
theorem rep_fold (c : Nat) : ∀ (n : Nat) (a : Array Nat), ((List.replicate n #[c]).foldl (· ++ ·) a) = a ++ (List.replicate n c).toArray
  | 0, a => by simp
  | n + 1, a => by
    rw [List.replicate_succ, List.foldl_cons, rep_fold c n]
    apply Array.ext'
    simp [List.replicate_succ]
theorem op_repS : OpR X (binaryOp .Mult) (fun x y H Q => ∃ c n, x = .str ⟨#[c]⟩ ∧ y = .int n ∧ 1 ≤ n ∧ n ≤ 64 ∧ Q (.str (repStr c n.toNat)) H) := by
  intro pins s σ H x y v u Q I rx ry h
  obtain ⟨c, n, rfl, rfl, h1, h2, q⟩ := h
  obtain ⟨t, rfl⟩ := rx
  obtain ⟨t', rfl⟩ := ry
  have hn : ¬ n < 1 := by omega
  have h5 : n.toNat ≤ 64 := by omega
  have hlen : (⟨#[c]⟩ : Str).length = 1 := rfl
  refine PySem.P.mul_str (by rw [decide_eq_false (by omega), decide_eq_false (by omega)]; rfl) (fun _ _ => ?_) (fun _ _ => ?_) ?_
  · rw [hlen]
    have : (1 : Int) ≤ (2 ^ 63 - 1) / n := by
      rw [Int.le_ediv_iff_mul_le (by omega)]; omega
    show ¬ ((1 : Nat) : Int) > _
    omega
  · rw [hlen, Nat.one_mul]
    have : ¬ n.toNat > sizeLine := by have : (64 : Nat) ≤ sizeLine := by decide
                                      omega
    exact decide_eq_false this
  · rw [if_neg hn]
    have e : (if (n == 1 || (⟨#[c]⟩ : Str).length == 0) = true then (⟨#[c]⟩ : Str) else ⟨(List.replicate n.toNat #[c]).foldl (· ++ ·) #[]⟩) = repStr c n.toNat := by
      by_cases h : n = 1
      · subst h; rfl
      · rw [if_neg (by simp [h, hlen])]
        rw [rep_fold]; simp [repStr]
    refine post_val_or_made (fun _ => ?_) fun t2 k => by rw [e]; exact ⟨.str (repStr c n.toNat), H, I.tok _, ⟨_, rfl⟩, q⟩
    rw [rep_fold]
    show (#[] ++ (List.replicate n.toNat c).toArray).size ≤ sizeLine
    have : (64 : Nat) ≤ sizeLine := by decide
    simp
    omega
end L2.Ww
set_option Elab.async false
set_option linter.all false
set_option maxRecDepth 100000
set_option maxHeartbeats 4000000
/-! letter = some[..]; answer = answer + letter; some = some.replace(letter, ""): the three as one, a token out. -/
namespace L2.Ww
open PySem PySem.Spec PyProof.Rows
section
variable {X : Cx} {pins : List (Addr × Obj)} {σ : St} {H : Hp} {s : Shared}
def LocM (X : Cx) (σ : St) (s : Shared) (m : Str → Option Value) : Prop :=
  s.heap.Ns X.env.locals m ∧ ∀ (i : Nat) (x : Str) (v : V), X.N[i]? = some x → σ[i]? = some (some v) → Vis X.env.scope x → ∃ u, RelV v u ∧ Look X.env s.heap m x u
theorem store_okN {M : Model} {A : Around} {E : Value → Shared → Prop} {i : Nat} {x : Str} {v : V} {u : Value} {Q : Unit → Shared → Prop} {m : Str → Option Value} (I : Inv X pins σ H s) (L : LocM X σ s m) (hN : X.N.Nodup) (hi : X.N[i]? = some x)
    (hk : X.env.kindOf x = some .local) (r : RelV v u)
    (h : ∀ h', Inv X pins (σ.set i (some v)) H { s with heap := h', toks := s.toks + 1 } → LocM X (σ.set i (some v)) { s with heap := h', toks := s.toks + 1 } (fun y => if y = x then some u else m y) → Q () { s with heap := h', toks := s.toks + 1 }) :
    wpAny M A (storeName X.env x u) Q E s := by
  obtain ⟨hn, hl⟩ := id L
  have hcls : (X.env.scope.kind == .class || (X.env.scope.kind == .module && X.env.locals != X.env.globals)) = false := by rw [I.ok.kind]; rfl
  have hiσ : i < σ.length := by rw [I.len]; exact (List.getElem?_eq_some_iff.mp hi).1
  have cne := I.cne
  have tracked : ∀ {a : Addr} {h' : Heap}, (∃ o, s.heap.get? a = some o ∧ H a = none) → Heap.SameBut a s.heap h' → HOk X.prog X.w H h' := fun {a h'} ha hs b ob e => by
    obtain ⟨_, _, hfree⟩ := ha
    refine (I.hok b ob e).stay (fun c w' hc q => (hs.2 c ?_).trans q) (fun _ q => q) fun _ _ q => q
    rintro rfl
    rcases hc with rfl | hc
    · rw [hfree] at e; cases e
    · rw [hfree] at hc; cases hc
  refine wpAny_storeName_local hk hn (fun h' hn' hs => ?_) hcls
  obtain ⟨oL, _, _, hoL, _⟩ := id hn
  have hlook : ∀ (j : Nat) (y : Str) (v' : V), X.N[j]? = some y → (σ.set i (some v))[j]? = some (some v') → Vis X.env.scope y → ∃ u', RelV v' u' ∧ Look X.env h' (fun y => if y = x then some u else m y) y u' := fun j y v' e1 e2 e3 => by
    by_cases hj : j = i
    · subst hj
      rw [hi] at e1; cases e1
      rw [List.getElem?_set_self hiσ] at e2
      cases e2
      exact ⟨u, r, .inl ⟨hk, by simp⟩⟩
    · rw [List.getElem?_set_ne (Ne.symm hj)] at e2
      obtain ⟨u', r', q⟩ := hl j y v' e1 e2 e3
      refine ⟨u', r', ?_⟩
      rcases q with ⟨k, e⟩ | ⟨k, c, e, z⟩
      · refine .inl ⟨k, ?_⟩
        have : y ≠ x := fun e => hj (nodup_ix hN e1 (e ▸ hi))
        simp [this, e]
      · exact .inr ⟨k, c, e, z.sameBut hs (cne y c e)⟩
  refine h _ ⟨I.ok, I.os, I.bare, ⟨fun b o e n hb hx => ?_, fun b o e n hb hx => ?_, I.base.free, fun b o e hx => ?_, I.base.tups, I.base.frzs, I.base.tbls⟩, ⟨_, hn', hlook⟩, fun y c e => ?_, I.free, I.freeC, fun p hp => ?_, tracked ⟨oL, hoL, I.free⟩ hs, by simpa using I.len⟩ ⟨hn', hlook⟩
  · exact (hs.2 b (Nat.ne_of_lt (Nat.lt_of_lt_of_le (Heap.lt_size e) I.ok.above))).trans (I.base.keep b o e n hb hx)
  · obtain ⟨sl, e1⟩ := I.base.slot b o e n hb hx
    exact ⟨sl, (hs.2 b (Nat.ne_of_lt (Nat.lt_of_lt_of_le (Heap.lt_size e) I.ok.above))).trans e1⟩
  · obtain ⟨o', e1⟩ := I.base.there b o e hx
    exact ⟨o', (hs.2 b (Nat.ne_of_lt (Nat.lt_of_lt_of_le (Heap.lt_size e) I.ok.above))).trans e1⟩
  · obtain ⟨w', z⟩ := I.cell y c e
    exact ⟨w', z.sameBut hs (cne y c e)⟩
  · obtain ⟨e, n, ne, nf, d⟩ := I.pin p hp
    exact ⟨(hs.2 p.1 ne).trans e, n, ne, nf, d⟩
theorem LocM.tok {m : Str → Option Value} (L : LocM X σ s m) (t : Nat) : LocM X σ { s with toks := t } m := L
/-- a plain local is read -/
theorem ld_locM {E : Value → Shared → Prop} {m : Str → Option Value} {x : Str} {u : Value} {pos : Pos} {Q : Value → Shared → Prop} (I : Inv X pins σ H s) (L : LocM X σ s m) (hk : X.env.kindOf x = some .local) (hm : m x = some u) (h : Q u s)
    (hd : (x == ("__debug__" : Str)) = false := by decide) : wpAny (model X.prog X.w) X.A (eval (.Name x pos) X.env) Q E s :=
  wpAny_Name (wpAny_loadName_local I.ok.kind hk L.1 hm h) hd
theorem LocM.at {m : Str → Option Value} {i : Nat} {x : Str} {v : V} (L : LocM X σ s m) (hi : X.N[i]? = some x) (e : σ[i]? = some (some v)) (hv : Vis X.env.scope x) (hk : X.env.kindOf x = some .local) : ∃ u, RelV v u ∧ m x = some u := by
  obtain ⟨u, r, l⟩ := L.2 i x v hi e hv
  refine ⟨u, r, ?_⟩
  rcases l with ⟨_, hm⟩ | ⟨hk', _⟩
  · exact hm
  · rw [hk] at hk'; rcases hk' with h | h <;> cases h
def tPick (iL iA iS : Nat) (te : TE) (u : TS) : TS := fun D σ H => ∃ z a, σ[iS]? = some (some (.str z)) ∧ σ[iA]? = some (some (.str a)) ∧ a.length ≤ 1000 ∧ z.length ≤ 1000 ∧ te σ H fun y H' => ∃ i c, y = .int i ∧ 0 ≤ i ∧ i < z.length ∧ z.cps[i.toNat]? = some c ∧
  u D (((σ.set iL (some (.str ⟨#[c]⟩))).set iA (some (.str (a ++ ⟨#[c]⟩)))).set iS (some (.str (Txt.replace z ⟨#[c]⟩ Str.empty)))) H'
theorem psst_pick {iL iA iS : Nat} {xL xA xS : Str} {e : Expr} {te : TE} {u : TS} {rest : List Stmt} {p1 p2 p3 p4 p5 p6 p7 p8 p9 pa pb pc pd pe pf pg : Pos} {k : Nat} (hN : X.N.Nodup) (hL : X.N[iL]? = some xL) (hA : X.N[iA]? = some xA) (hS : X.N[iS]? = some xS)
    (nLA : xA ≠ xL) (nLS : xS ≠ xL) (nAS : xS ≠ xA) (dL : X.env.kindOf xL = some .local) (dA : X.env.kindOf xA = some .local) (dS : X.env.kindOf xS = some .local)
    (vL : Vis X.env.scope xL) (vA : Vis X.env.scope xA) (vS : Vis X.env.scope xS)
    (he : PE X e te) (hb : PlainIxT e) (hr : PSs X rest u)
    (h1 : swapsWith (.Subscript (.Name xS p1) e p2) (some (.Name xL p3)) p4.line X.env = pure false := by rfl)
    (h2 : swapsWith (.BinOp (.Name xA p5) .Add (.Name xL p6) p7) (some (.Name xA p8)) p9.line X.env = pure false := by rfl)
    (h3 : swapsWith (.Call (.Attribute (.Name xS pa) "replace" pb) [.Name xL pc, .Constant (.str Str.empty) k pd] [] pe) (some (.Name xS pf)) pg.line X.env = pure false := by rfl)
    (hst : starEach [.Name xL pc, .Constant (.str Str.empty) k pd] X.env = [(false, eval (.Name xL pc) X.env), (false, eval (.Constant (.str Str.empty) k pd) X.env)] := by rfl)
    (hbase : attributeBase (.Name xS pa) "replace" X.env (eval (.Name xS pa) X.env) = eval (.Name xS pa) X.env := by rfl) (hline : (pb.endLine == pe.line) = true := by rfl)
    (eL : (xL == ("__debug__" : Str)) = false := by decide) (eA : (xA == ("__debug__" : Str)) = false := by decide) (eS : (xS == ("__debug__" : Str)) = false := by decide) :
    PSsT X (.Assign [.Name xL p3] (.Subscript (.Name xS p1) e p2) p4 :: .Assign [.Name xA p8] (.BinOp (.Name xA p5) .Add (.Name xL p6) p7) p9 :: .Assign [.Name xS pf] (.Call (.Attribute (.Name xS pa) "replace" pb) [.Name xL pc, .Constant (.str Str.empty) k pd] [] pe) pg :: rest)
      (tPick iL iA iS te u) := by
  intro pins s σ H D h0 I h
  obtain ⟨z, a, eZ, eA', hal, hzl, h⟩ := h
  refine wpAny_execs_cons (wpAny_Assign_Name (Subscript_ ?_) h1)
  obtain ⟨m, L⟩ := I.loc
  obtain ⟨uz, rz, mz⟩ := LocM.at (s := s) L hS eZ vS dS
  refine ld_locM I L dS mz ?_ eS
  refine wpAny_mono (PySem.wpAny_toks (he.run pins s σ H _ I h)) (fun yv s1 q => ?_) fun _ _ z => z.2
  obtain ⟨ht, y, H1, I1, ry, i, c, rfl, hi0, hi1, hc, q⟩ := q
  obtain ⟨tz, rfl⟩ := rz
  obtain ⟨ty, rfl⟩ := ry
  have hz63 : i < 2 ^ 63 := by omega
  have e1 : seqIndex? i z.length = some i.toNat := PySem.StrLaws.seqIndex_nonneg hi0 hi1
  refine tail_any (typeIs_str s1 z tz) slot_str_getitem.lookup (getItem_str (c := c) (by
    have e1 : decide (i < -(2 ^ 63 : Int)) = false := decide_eq_false (by omega)
    have e2 : decide (i ≥ 2 ^ 63) = false := decide_eq_false (by omega)
    rw [e1, e2] <;> rfl) (by rw [e1]; exact hc) ?_) (hb _ _)
  have I1' := I1.tok (s1.toks + 1)
  obtain ⟨m1, L1⟩ := I1'.loc
  refine store_okN (v := .str ⟨#[c]⟩) I1' L1 hN hL dL ⟨_, rfl⟩ fun h2' I2 L2 => ?_
  have hmL : (fun y => if y = xL then some (Value.str ⟨#[c]⟩ s1.toks) else m1 y) xL = some (Value.str ⟨#[c]⟩ s1.toks) := if_pos rfl
  have eA2 : (σ.set iL (some (V.str ⟨#[c]⟩)))[iA]? = some (some (.str a)) := by
    rw [List.getElem?_set_ne (fun e => nLA (by rw [← e, hL] at hA; exact (Option.some.inj hA).symm))]; exact eA'
  obtain ⟨ua, ra, ma⟩ := L2.at hA eA2 vA dA
  obtain ⟨ta, rfl⟩ := ra
  refine wpAny_execs_cons (wpAny_Assign_Name (wpAny_BinOp (ld_locM I2 L2 dA ma (ld_locM I2 L2 dL hmL ?_ eL) eA)) h2)
  have hlc : (⟨#[c]⟩ : Str).length = 1 := rfl
  refine PySem.wpAny_with_toks (n := s1.toks + 1 + 1) (Nat.le_refl _) (add_str (fun t' tk htk => ?_) ?_)
  rotate_left
  · rw [hlc]
    have h20 : (2000 : Nat) ≤ sizeLine := by decide
    omega
  have I3 := I2.tok tk
  refine store_okN (v := .str (a ++ ⟨#[c]⟩)) I3 (L2.tok tk) hN hA dA ⟨_, rfl⟩ fun h3' I4 L4 => ?_
  have htk' : s1.toks + 1 + 1 ≤ tk := htk
  have hmL4 : (fun y => if y = xA then some (Value.str (a ++ ⟨#[c]⟩) t') else (fun y => if y = xL then some (Value.str ⟨#[c]⟩ s1.toks) else m1 y) y) xL = some (Value.str ⟨#[c]⟩ s1.toks) := by
    show (if xL = xA then _ else _) = _
    rw [if_neg (fun e => nLA e.symm)]; exact if_pos rfl
  have nLiS : iL ≠ iS := fun e => nLS (by rw [← e, hL] at hS; exact (Option.some.inj hS).symm)
  have nAiS : iA ≠ iS := fun e => nAS (by rw [← e, hA] at hS; exact (Option.some.inj hS).symm)
  have eZ4 : ((σ.set iL (some (V.str ⟨#[c]⟩))).set iA (some (V.str (a ++ ⟨#[c]⟩))))[iS]? = some (some (.str z)) := by
    rw [List.getElem?_set_ne nAiS, List.getElem?_set_ne nLiS]; exact eZ
  obtain ⟨uz4, rz4, mz4⟩ := L4.at hS eZ4 vS dS
  obtain ⟨tz4, rfl⟩ := rz4
  refine wpAny_execs_cons (wpAny_Assign_Name (PySem.Call_method2 hbase hst hline (ld_locM I4 L4 dS mz4 ?_ eS)) h3)
  refine ⟨"str", _, PySem.F.plainAttrs_str, PySem.F.slot_str_replace, PySem.F.type_str_replace, typeIs_str _ _ _, (fun _ e => nomatch e), Calls.callWith_builtin rfl (Calls.evalArgs_plain (Calls.spliced_cons ?_))⟩
  refine ld_locM I4 L4 dL hmL4 ?_ eL
  refine Calls.spliced_cons (Calls.Constant_str (Calls.spliced_nil ?_))
  refine PySem.SC.replace (by show s1.toks ≠ 0; omega) (by show tk + 1 ≠ 0; omega) (by show s1.toks ≠ tk + 1; omega) (beq_eq_false_iff_ne.mpr fun e => (show (1 : Nat) ≠ 0 by decide) (congrArg Str.length e)) (by show z.length + (z.length + 1) * 0 ≤ _; omega) fun t5 k5 => ?_
  have I5 := I4.tok k5
  exact store_okN (v := .str (Txt.replace z ⟨#[c]⟩ Str.empty)) I5 (L4.tok k5) hN hS dS ⟨t5, rfl⟩ fun h6 I6 _ => hr.run pins _ _ _ D I6 q
/-- for: each round begins with a token out -/
theorem pst_forT {tg iter : Expr} {body : List Stmt} {wi : TI} {g : TG} {tb : TS} {pos : Pos} (hp : PassesOwn (model X.prog X.w) X.A X.env X.xe) (hc : X.calm = true) (hi : PI X tg iter wi) (hg : PG X tg g) (hb : PSsT X body tb)
    (hs : ∀ x, foldedSetIterable iter X.env x = pure x := by intro _; rfl) : PST X (.For tg iter body [] pos) (tFor wi g tb) := by
  intro pins s σ H D h0 I h
  refine wpAny_For (wpAny_mono (PySem.wpAny_toks (hi.run pins s σ H _ I h)) (fun v s1 h1 => wpAny_mono (PySem.wpAny_toks h1.2) (fun itv s2 h2 => ?_) fun _ _ z => z.2) fun _ _ z => z.2) hs
  have k1 := h1.1
  obtain ⟨k2, it, fp, tn, J, H2, e, I2, T, st2, f2, W, ⟨m0, w0⟩, turn⟩ := h2
  subst e
  have stat : ∀ {H' : Hp}, (∀ b ∈ fp, H' b = none) → ∀ b ∈ fp, FpOk X pins H' b := fun hn b hb => ⟨hn b hb, (f2 b hb).2⟩
  refine codeAny_forLoop_any (fun n s' => 1 ≤ s'.toks ∧ ∃ i σ' H', Inv X pins σ' H' s' ∧ tn i s'.heap ∧ (∀ b ∈ fp, H' b = none) ∧ W i n σ' H') ?_ m0 ⟨by omega, 0, σ, H2, I2, st2, fun b hb => (f2 b hb).1, w0⟩
  rintro n s3 ⟨k3, i, σ3, H3, I3, st3, fr3, w3⟩
  rcases turn i n σ3 H3 w3 with ⟨stop, qn⟩ | ⟨go, N, hN, step⟩
  · refine wpAny_passesOwn hp (thn (T.done X rfl rfl rfl hc i pins s3 σ3 H3 X.xe I3 (stat fr3) st3 stop) fun r s4 ⟨hr, I4⟩ => ?_)
    subst hr
    exact wpAny_execs_nil ⟨σ3, H3, I4, qn⟩
  · refine wpAny_passesOwn hp (wpAny_mono (PySem.wpAny_toks (T.item X rfl rfl rfl hc i pins s3 σ3 H3 X.xe I3 (stat fr3) st3 go)) (fun r s4 q4 => ?_) fun _ _ z => z.2)
    obtain ⟨k4, u, hr, h4⟩ := q4
    subst hr
    refine wpAny_passesOwn hp (wpAny_mono (PySem.wpAny_toks h4) (fun _ s5 q5 => ?_) fun _ _ z => z.2)
    obtain ⟨k5, x, H5, I5, r5, y5, st5, fr5⟩ := q5
    have I5' := I5.pinned (stat fr5) (T.obj _ _ st5)
    refine wpAny_passesOwn hp (wpAny_mono (PySem.wpAny_toks (hg.run _ s5 σ3 H5 x u _ I5' r5 (step x H5 y5))) (fun _ s6 q6 => ?_) fun _ _ z => z.2)
    obtain ⟨k6, σ6, H6, I6, q6⟩ := q6
    refine wpAny_passesOwn hp (wpAny_mono (PySem.wpAny_toks (hb _ s6 σ6 H6 _ (by omega) I6 q6)) (fun f s7 q7 => ?_) fun _ _ z => z.2)
    obtain ⟨k7, q7⟩ := q7
    have again : ∀ {σ7 : St} {H7 : Hp}, Inv X (pins ++ pinsAt fp s5.heap) σ7 H7 s7 → N σ7 H7 → ∃ m, m < n ∧ 1 ≤ s7.toks ∧ ∃ i σ' H', Inv X pins σ' H' s7 ∧ tn i s7.heap ∧ (∀ b ∈ fp, H' b = none) ∧ W i m σ' H' := fun {σ7 H7} I7 n7 => by
      obtain ⟨m', hm, w7⟩ := hN σ7 H7 n7
      refine ⟨m', hm, by omega, i + 1, σ7, H7, I7.unpinned, T.keep _ _ _ st5 fun b hb o e => (I7.pin (b, o) (List.mem_append_right _ (List.mem_append_right _ (mem_pinsAt hb e)))).1, fun b hb => ?_, w7⟩
      obtain ⟨o, e, d⟩ := T.obj _ _ st5 b hb
      exact (I7.pin (b, o) (List.mem_append_right _ (List.mem_append_right _ (mem_pinsAt hb e)))).2.1
    cases f with
    | next => obtain ⟨σ7, H7, I7, n7⟩ := q7; exact again I7 n7
    | cont => obtain ⟨σ7, H7, I7, n7⟩ := q7; exact again I7 n7
    | brk => obtain ⟨σ7, H7, I7, q7⟩ := q7; exact ⟨σ7, H7, I7.unpinned, q7⟩
    | ret v => obtain ⟨x7, σ7, H7, I7, r7, q7⟩ := q7; exact ⟨x7, σ7, H7, I7.unpinned, r7, q7⟩
end
end L2.Ww
set_option Elab.async false
set_option linter.all false
set_option maxRecDepth 100000
set_option maxHeartbeats 4000000
/-! Made machines: their form, what they accept, the empty word. -/
namespace L2.Ww
open PySem PySem.Spec PyProof.Rows
/-! ### rows -/
theorem stF_some {r : List Wt} {i : Nat} {a : Int} : stF r i = some a ↔ r[i]? = some (some a) := by
  unfold stF
  cases e : r[i]? with
  | none => exact ⟨fun h => (by cases h), fun h => (by cases h)⟩
  | some x => exact ⟨fun h => by rw [show x = some a from h], fun h => by cases h; rfl⟩
theorem entry_some {t : List (List Wt)} {i j : Nat} {c : Int} : entry t i j = some c ↔ ∃ r, t[i]? = some r ∧ stF r j = some c := by
  constructor
  · intro h
    obtain ⟨r, h1, h2⟩ := entry_lt h
    exact ⟨r, h1, stF_some.mpr h2⟩
  · rintro ⟨r, h1, h2⟩
    unfold entry
    rw [h1, Option.bind_some, stF_some.mp h2]; rfl
theorem get_app {α : Type} {a b : List α} {i : Nat} {x : α} : (a ++ b)[i]? = some x ↔ (i < a.length ∧ a[i]? = some x) ∨ ∃ k, i = a.length + k ∧ b[k]? = some x := by
  by_cases h : i < a.length
  · rw [List.getElem?_append_left h]
    exact ⟨fun e => .inl ⟨h, e⟩, fun e => e.elim (·.2) fun ⟨k, e, _⟩ => by omega⟩
  · rw [List.getElem?_append_right (by omega)]
    constructor
    · exact fun e => .inr ⟨i - a.length, by omega, e⟩
    · rintro (⟨l, _⟩ | ⟨k, rfl, e⟩)
      · omega
      · rw [show a.length + k - a.length = k by omega]; exact e
theorem stF_app {a b : List Wt} {i : Nat} {x : Int} : stF (a ++ b) i = some x ↔ (i < a.length ∧ stF a i = some x) ∨ ∃ k, i = a.length + k ∧ stF b k = some x := by
  rw [stF_some, get_app]
  simp only [stF_some]
theorem stF_rep {n i : Nat} {x : Int} : ¬ stF (List.replicate n none) i = some x := by
  rw [stF_some, List.getElem?_replicate]
  split <;> simp
theorem stF_times {x : Wt} {r : List Wt} (i : Nat) : stF (r.map (wtimes x)) i = wtimes x (stF r i) := by
  unfold stF
  rw [List.getElem?_map]
  cases e : r[i]? with
  | none => exact (wtimes_none x).symm
  | some y => rfl
theorem wtimes_some {x y : Wt} {c : Int} : wtimes x y = some c ↔ ∃ a b, x = some a ∧ y = some b ∧ c = a + b := by
  cases x with
  | none => exact ⟨fun h => (by cases h), fun ⟨_, _, h, _⟩ => (by cases h)⟩
  | some a =>
    cases y with
    | none => exact ⟨fun h => (by cases h), fun ⟨_, _, _, h, _⟩ => (by cases h)⟩
    | some b =>
      constructor
      · intro h
        injection h with e
        exact ⟨a, b, rfl, rfl, e.symm⟩
      · rintro ⟨_, _, h1, h2, rfl⟩
        cases h1; cases h2; rfl
theorem wtimes_comm (x y : Wt) : wtimes x y = wtimes y x := by
  cases x <;> cases y <;> simp [wtimes, Int.add_comm]
theorem wplus_min {x y : Wt} {S T : Int → Prop} (h : BF.MinOf S x) (k : BF.MinOf T y) : BF.MinOf (fun c => S c ∨ T c) (wplus x y) := by
  cases x with
  | none =>
    refine ⟨fun e c hc => hc.elim (h.1 rfl c) (k.1 e c), fun w e => ⟨.inr (k.2 w e).1, fun c hc => hc.elim (fun z => absurd z (h.1 rfl c)) ((k.2 w e).2 c)⟩⟩
  | some x =>
    cases y with
    | none =>
      refine ⟨fun e => (by cases e), fun w e => ?_⟩
      have e' : x = w := by injection e
      subst e'
      exact ⟨.inl (h.2 x rfl).1, fun c hc => hc.elim ((h.2 x rfl).2 c) (fun z => absurd z (k.1 rfl c))⟩
    | some y =>
      refine ⟨fun e => (by cases e), fun w e => ?_⟩
      have e' : (if y < x then y else x) = w := by injection e
      have h1 := h.2 x rfl
      have k1 := k.2 y rfl
      by_cases l : y < x
      · rw [if_pos l] at e'
        subst e'
        exact ⟨.inr k1.1, fun c hc => hc.elim (fun z => by have := h1.2 c z; omega) (k1.2 c)⟩
      · rw [if_neg l] at e'
        subst e'
        exact ⟨.inl h1.1, fun c hc => hc.elim (h1.2 c) (fun z => by have := k1.2 c z; omega)⟩
theorem min_one (x : Wt) : BF.MinOf (fun c => x = some c) x := ⟨fun e c h => (by rw [e] at h; cases h), fun w e => ⟨e, fun c h => by rw [e] at h; cases h; exact Int.le_refl _⟩⟩
theorem fold_min : ∀ (l : List Wt) (acc : Wt) (S : Int → Prop), BF.MinOf S acc → BF.MinOf (fun c => S c ∨ some c ∈ l) (l.foldl wplus acc)
  | [], acc, S, h => h.congr fun c => ⟨.inl, fun z => z.elim id fun m => (by cases m)⟩
  | x :: l, acc, S, h => by
    refine (fold_min l (wplus acc x) _ (wplus_min h (min_one x))).congr fun c => ?_
    rw [List.mem_cons]
    constructor
    · rintro ((a | b) | d)
      · exact .inl a
      · exact .inr (.inl b.symm)
      · exact .inr (.inr d)
    · rintro (a | b | d)
      · exact .inl (.inl a)
      · exact .inl (.inr b.symm)
      · exact .inr d
theorem wdot_min (r c : List Wt) : BF.MinOf (BF.Dot (stF r) (stF c)) (wdot r c) := by
  refine (fold_min _ none (fun _ => False) ⟨fun _ _ h => h, fun _ h => by cases h⟩).congr fun v => ?_
  constructor
  · rintro (h | h)
    · exact h.elim
    · obtain ⟨⟨x, y⟩, hm, e⟩ := List.mem_map.mp h
      obtain ⟨a, b, rfl, rfl, e'⟩ := wtimes_some.mp e
      obtain ⟨i, hi⟩ := List.getElem?_of_mem hm
      rw [List.getElem?_zip_eq_some] at hi
      exact ⟨i, a, b, stF_some.mpr hi.1, stF_some.mpr hi.2, e'⟩
  · rintro ⟨i, a, b, h1, h2, rfl⟩
    refine .inr (List.mem_map.mpr ⟨(some a, some b), List.mem_of_getElem? (i := i) ?_, rfl⟩)
    rw [List.getElem?_zip_eq_some]
    exact ⟨stF_some.mp h1, stF_some.mp h2⟩
theorem min_some {S : Int → Prop} {o : Wt} (h : BF.MinOf S o) {c : Int} (hc : S c) : ∃ w, o = some w ∧ w ≤ c := by
  cases o with
  | none => exact absurd hc (h.1 rfl c)
  | some w => exact ⟨w, rfl, (h.2 w rfl).2 c hc⟩
/-! ### scaled -/
theorem mScale_wf {M : Mach} (wM : M.WF) (x : Wt) : (mScale x M).WF := ⟨wM.lt, fun t ht => by rw [wM.rows t ht]; exact (List.length_map _).symm, fun t ht r hr => by rw [wM.cols t ht r hr]; exact (List.length_map _).symm, wM.ends.trans (List.length_map _).symm, by rw [show (mScale x M).st.length = M.st.length from List.length_map _]; exact wM.few, wM.let3⟩
theorem mScale_len (M : Mach) (x : Wt) : (mScale x M).st.length = M.st.length := List.length_map _
theorem mScale_dot (M : Mach) (x : Wt) : wdot (mScale x M).st (mScale x M).en = wtimes (wdot M.st M.en) x := by
  refine (wdot_min _ _).uniq ?_
  have h := wdot_min M.st M.en
  have es : ∀ i, stF (mScale x M).st i = wtimes x (stF M.st i) := fun i => stF_times i
  constructor
  · intro e c ⟨i, a, b, h1, h2, h3⟩
    rw [es] at h1
    obtain ⟨a', b', rfl, h5, rfl⟩ := wtimes_some.mp h1
    obtain ⟨w, hw, _⟩ := min_some h ⟨i, b', b, h5, h2, rfl⟩
    rw [hw] at e; cases e
  · intro w e
    obtain ⟨a, b, h1, rfl, rfl⟩ := wtimes_some.mp e
    obtain ⟨⟨i, a', b', h5, h6, rfl⟩, hm⟩ := h.2 a h1
    refine ⟨⟨i, b + a', b', by rw [es, h5]; rfl, h6, by omega⟩, ?_⟩
    rintro c ⟨j, u, v, h7, h8, rfl⟩
    rw [es] at h7
    obtain ⟨u', v', e1, h9, rfl⟩ := wtimes_some.mp h7
    cases e1
    have := hm _ ⟨j, v', v, h9, h8, rfl⟩
    omega
theorem mScale_some (M : Mach) (x : Int) {r : BF.R} (v : BF.ValS (AccM M) r) : BF.ValS (AccM (mScale (some x) M)) (BF.shiftR x r) :=
  BF.val_shift (BF.acc_scale (fun i => by rw [show stF (mScale (some x) M).st i = wtimes (some x) (stF M.st i) from stF_times i]; cases stF M.st i <;> rfl)) v
theorem mScale_none (M : Mach) : BF.ValS (AccM (mScale none M)) .none :=
  BF.acc_none fun i => show stF (M.st.map (wtimes none)) i = none by rw [stF_times]; rfl
/-! ### side by side -/
theorem two_tab {n : Nat} {ta tb : List (List Wt)} {F : List Wt → List Wt} (h1 : ta.length = n) (h2 : ∀ r ∈ ta, r.length = n) {i j : Nat} {c : Int} :
    entry (ta.map (fun r => r ++ F r) ++ tb.map (List.replicate n none ++ ·)) i j = some c ↔ entry ta i j = some c ∨ (∃ p q, i = n + p ∧ j = n + q ∧ entry tb p q = some c) ∨ ∃ k r, j = n + k ∧ ta[i]? = some r ∧ stF (F r) k = some c := by
  rw [entry_some]
  constructor
  · rintro ⟨r, h3, h4⟩
    rcases get_app.mp h3 with ⟨l, h5⟩ | ⟨k, e, h5⟩
    · rw [List.getElem?_map, Option.map_eq_some_iff] at h5
      obtain ⟨r0, h6, rfl⟩ := h5
      have e0 := h2 r0 (List.mem_of_getElem? h6)
      rcases stF_app.mp h4 with ⟨_, h7⟩ | ⟨k, e1, h7⟩
      · exact .inl (entry_some.mpr ⟨r0, h6, h7⟩)
      · exact .inr (.inr ⟨k, r0, by omega, h6, h7⟩)
    · rw [List.getElem?_map, Option.map_eq_some_iff] at h5
      obtain ⟨r0, h6, rfl⟩ := h5
      rcases stF_app.mp h4 with ⟨_, h7⟩ | ⟨q, e1, h7⟩
      · exact (stF_rep h7).elim
      · rw [List.length_map] at e
        rw [List.length_replicate] at e1
        exact .inr (.inl ⟨k, q, by omega, e1, entry_some.mpr ⟨r0, h6, h7⟩⟩)
  · rintro (h | ⟨p, q, rfl, rfl, h⟩ | ⟨k, r, rfl, h6, h⟩)
    · obtain ⟨r, h3, h4⟩ := entry_some.mp h
      have l := (List.getElem?_eq_some_iff.mp h3).1
      refine ⟨r ++ F r, get_app.mpr (.inl ⟨by rw [List.length_map]; exact l, by rw [List.getElem?_map, h3]; rfl⟩), stF_app.mpr (.inl ⟨stF_lt h4, h4⟩)⟩
    · obtain ⟨r, h3, h4⟩ := entry_some.mp h
      refine ⟨List.replicate n none ++ r, get_app.mpr (.inr ⟨p, by rw [List.length_map, h1], by rw [List.getElem?_map, h3]; rfl⟩), stF_app.mpr (.inr ⟨q, by rw [List.length_replicate], h4⟩)⟩
    · have l := (List.getElem?_eq_some_iff.mp h6).1
      have e0 := h2 r (List.mem_of_getElem? h6)
      refine ⟨r ++ F r, get_app.mpr (.inl ⟨by rw [List.length_map]; exact l, by rw [List.getElem?_map, h6]; rfl⟩), stF_app.mpr (.inr ⟨k, by rw [e0], h⟩)⟩
theorem zip_tabs {A B : Mach} {G : List (List Wt) × List (List Wt) → List (List Wt)} {k : Nat} {t : List (List Wt)} :
    ((A.tabs.zip B.tabs).map G)[k]? = some t ↔ ∃ ta tb, A.tabs[k]? = some ta ∧ B.tabs[k]? = some tb ∧ t = G (ta, tb) := by
  rw [List.getElem?_map, Option.map_eq_some_iff]
  constructor
  · rintro ⟨⟨ta, tb⟩, h, rfl⟩
    rw [List.getElem?_zip_eq_some] at h
    exact ⟨ta, tb, h.1, h.2, rfl⟩
  · rintro ⟨ta, tb, h1, h2, rfl⟩
    exact ⟨(ta, tb), by rw [List.getElem?_zip_eq_some]; exact ⟨h1, h2⟩, rfl⟩
theorem other_tab {α β : Type} {A : List α} {B : List β} (e : A.length = B.length) {k : Nat} {t : α} (h : A[k]? = some t) : ∃ u, B[k]? = some u := by
  have := (List.getElem?_eq_some_iff.mp h).1
  exact ⟨B[k], List.getElem?_eq_getElem (by omega)⟩
theorem tabs_two {A B C : Mach} (wA : A.WF) (wB : B.WF) (el : A.ls = B.ls) {F : List Wt → List Wt}
    (eC : C.tabs = (A.tabs.zip B.tabs).map fun p => p.1.map (fun r => r ++ F r) ++ p.2.map (List.replicate A.st.length none ++ ·)) :
    BF.Two A.st.length (Ed A) (Ed B) (fun i k c => ∃ (l : Nat) (ta : List (List Wt)) (r : List Wt), A.tabs[l]? = some ta ∧ ta[i]? = some r ∧ stF (F r) k = some c) (Ed C) := by
  have lab : A.tabs.length = B.tabs.length := by rw [wA.lt, wB.lt, el]
  refine ⟨fun i j c h => h.lt wA, fun i k c ⟨l, ta, r, h1, h2, _⟩ => ?_, fun i j c => ?_⟩
  · have := wA.rows ta (List.mem_of_getElem? h1)
    have := (List.getElem?_eq_some_iff.mp h2).1
    omega
  · constructor
    · rintro ⟨k, t, h, he⟩
      rw [eC, zip_tabs] at h
      obtain ⟨ta, tb, h1, h2, rfl⟩ := h
      have m1 := List.mem_of_getElem? h1
      rcases (two_tab (wA.rows ta m1) (wA.cols ta m1)).mp he with h | ⟨p, q, e1, e2, h⟩ | ⟨k', r, e1, h5, h6⟩
      · exact .inl ⟨k, ta, h1, h⟩
      · exact .inr (.inl ⟨p, q, e1, e2, k, tb, h2, h⟩)
      · exact .inr (.inr ⟨k', e1, k, ta, r, h1, h5, h6⟩)
    · rintro (⟨k, ta, h1, h⟩ | ⟨p, q, e1, e2, k, tb, h2, h⟩ | ⟨k', e1, k, ta, r, h1, h5, h6⟩)
      · obtain ⟨tb, h2⟩ := other_tab lab h1
        have m1 := List.mem_of_getElem? h1
        exact ⟨k, _, by rw [eC, zip_tabs]; exact ⟨ta, tb, h1, h2, rfl⟩, (two_tab (wA.rows ta m1) (wA.cols ta m1)).mpr (.inl h)⟩
      · obtain ⟨ta, h1⟩ := other_tab lab.symm h2
        have m1 := List.mem_of_getElem? h1
        exact ⟨k, _, by rw [eC, zip_tabs]; exact ⟨ta, tb, h1, h2, rfl⟩, (two_tab (wA.rows ta m1) (wA.cols ta m1)).mpr (.inr (.inl ⟨p, q, e1, e2, h⟩))⟩
      · obtain ⟨tb, h2⟩ := other_tab lab h1
        have m1 := List.mem_of_getElem? h1
        exact ⟨k, _, by rw [eC, zip_tabs]; exact ⟨ta, tb, h1, h2, rfl⟩, (two_tab (wA.rows ta m1) (wA.cols ta m1)).mpr (.inr (.inr ⟨k', r, e1, h5, h6⟩))⟩
theorem wf_two {A B C : Mach} (wA : A.WF) (wB : B.WF) (el : A.ls = B.ls) {F : List Wt → List Wt} (hF : ∀ r, (F r).length = B.st.length)
    (eC : C.tabs = (A.tabs.zip B.tabs).map fun p => p.1.map (fun r => r ++ F r) ++ p.2.map (List.replicate A.st.length none ++ ·)) (e1 : C.ls = A.ls) (e2 : C.st.length = A.st.length + B.st.length) (e3 : C.en.length = A.st.length + B.st.length)
    (h20 : A.st.length + B.st.length ≤ 20) : C.WF := by
  have lab : A.tabs.length = B.tabs.length := by rw [wA.lt, wB.lt, el]
  refine ⟨?_, ?_, ?_, by omega, by omega, by rw [e1]; exact wA.let3⟩
  · rw [eC, List.length_map, List.length_zip, e1, ← wA.lt, lab]; omega
  · intro t ht
    rw [eC] at ht
    obtain ⟨⟨ta, tb⟩, hp, rfl⟩ := List.mem_map.mp ht
    have hp' := List.of_mem_zip hp
    show (ta.map _ ++ tb.map _).length = _
    rw [List.length_append, List.length_map, List.length_map, wA.rows _ hp'.1, wB.rows _ hp'.2, e2]
  · intro t ht r hr
    rw [eC] at ht
    obtain ⟨⟨ta, tb⟩, hp, rfl⟩ := List.mem_map.mp ht
    have hp' := List.of_mem_zip hp
    rcases List.mem_append.mp hr with h | h
    · obtain ⟨r0, h0, rfl⟩ := List.mem_map.mp h
      show (r0 ++ F r0).length = _
      rw [List.length_append, hF, wA.cols _ hp'.1 _ h0, e2]
    · obtain ⟨r0, h0, rfl⟩ := List.mem_map.mp h
      show (List.replicate _ none ++ r0).length = _
      rw [List.length_append, List.length_replicate, wB.cols _ hp'.2 _ h0, e2]
theorem mAdd_wf {A B : Mach} (wA : A.WF) (wB : B.WF) (el : A.ls = B.ls) (h20 : A.st.length + B.st.length ≤ 20) : (mAdd A B).WF :=
  wf_two wA wB el (F := fun _ => List.replicate B.st.length none) (fun _ => List.length_replicate) rfl rfl List.length_append (by show (A.en ++ B.en).length = _; rw [List.length_append, wA.ends, wB.ends]) h20
theorem mAdd_val {A B : Mach} (wA : A.WF) (wB : B.WF) (el : A.ls = B.ls) {r q : BF.R} (v : BF.ValS (AccM A) r) (u : BF.ValS (AccM B) q) : BF.ValS (AccM (mAdd A B)) (BF.minR r q) := by
  have T := tabs_two (C := mAdd A B) wA wB el (F := fun _ => List.replicate B.st.length none) rfl
  refine BF.val_add (nA := A.st.length) (EA := Ed A) (EB := Ed B) ⟨T.lA, fun _ _ _ h => h.elim, fun i j c => ?_⟩ (fun i a => stF_app) (fun i a => ?_) (fun i a h => stF_lt h) (fun i a h => by rw [← wA.ends]; exact stF_lt h) v u
  · rw [T.iff]
    constructor
    · rintro (h | h | ⟨_, _, _, _, _, _, _, h⟩)
      · exact .inl h
      · exact .inr (.inl h)
      · exact (stF_rep h).elim
    · rintro (h | h | ⟨_, _, h⟩)
      · exact .inl h
      · exact .inr (.inl h)
      · exact h.elim
  · rw [← wA.ends]; exact stF_app
theorem mAdd_dot {A B : Mach} (wA : A.WF) : wdot (mAdd A B).st (mAdd A B).en = wplus (wdot A.st A.en) (wdot B.st B.en) := by
  refine (wdot_min _ _).uniq ((wplus_min (wdot_min A.st A.en) (wdot_min B.st B.en)).congr fun c => ?_)
  constructor
  · rintro (⟨i, a, b, h1, h2, e⟩ | ⟨i, a, b, h1, h2, e⟩)
    · exact ⟨i, a, b, stF_app.mpr (.inl ⟨stF_lt h1, h1⟩), stF_app.mpr (.inl ⟨stF_lt h2, h2⟩), e⟩
    · exact ⟨A.st.length + i, a, b, stF_app.mpr (.inr ⟨i, rfl, h1⟩), stF_app.mpr (.inr ⟨i, by rw [wA.ends], h2⟩), e⟩
  · rintro ⟨i, a, b, h1, h2, e⟩
    have := wA.ends
    rcases stF_app.mp h1 with ⟨l, h3⟩ | ⟨k, e1, h3⟩ <;> rcases stF_app.mp h2 with ⟨l2, h4⟩ | ⟨k2, e2, h4⟩
    · exact .inl ⟨i, a, b, h3, h4, e⟩
    · omega
    · omega
    · have : k2 = k := by omega
      subst this
      exact .inr ⟨k2, a, b, h3, h4, e⟩
theorem mJoin_wf {A B : Mach} (wA : A.WF) (wB : B.WF) (el : A.ls = B.ls) (h20 : A.st.length + B.st.length ≤ 20) : (mJoin A B).WF :=
  wf_two wA wB el (F := fun r => B.st.map (wtimes (wdot r A.en))) (fun _ => List.length_map _) rfl rfl (by show (A.st ++ B.st.map _).length = _; rw [List.length_append, List.length_map]) (by show (List.replicate _ none ++ B.en).length = _; rw [List.length_append, List.length_replicate, wB.ends]) h20
theorem mJoin_val {A B : Mach} (wA : A.WF) (wB : B.WF) (el : A.ls = B.ls) {r q : BF.R} (v : BF.ValS (AccM A) r) (u : BF.ValS (AccM B) q) : BF.ValS (AccM (mJoin A B)) (BF.sumR r q) := by
  have T := tabs_two (C := mJoin A B) wA wB el (F := fun r => B.st.map (wtimes (wdot r A.en))) rfl
  refine BF.val_join (wdot_min A.st A.en) T (fun i a h => stF_lt h) ?_ ?_ (fun i a => ?_) (fun i a => ?_) v u
  · rintro i k c ⟨l, ta, r, h1, h2, h3⟩
    rw [stF_times] at h3
    obtain ⟨y, b, h4, h5, rfl⟩ := wtimes_some.mp h3
    obtain ⟨t, a, e, h6, h7, rfl⟩ := ((wdot_min r A.en).2 y h4).1
    exact ⟨t, a, e, b, ⟨l, ta, h1, entry_some.mpr ⟨r, h2, h6⟩⟩, h7, h5, rfl⟩
  · rintro i t k a e b ⟨l, ta, h1, h2⟩ h3 h4
    obtain ⟨r, h5, h6⟩ := entry_some.mp h2
    obtain ⟨w, h7, h8⟩ := min_some (wdot_min r A.en) ⟨t, a, e, h6, h3, rfl⟩
    exact ⟨w + b, by omega, l, ta, r, h1, h5, by rw [stF_times, h7, h4]; rfl⟩
  · show stF (A.st ++ B.st.map _) i = some a ↔ _
    rw [stF_app]
    refine or_congr Iff.rfl (exists_congr fun k => and_congr Iff.rfl ?_)
    rw [stF_times, wtimes_some]
    constructor
    · rintro ⟨y, b, h1, h2, rfl⟩
      show (wdot A.st A.en).bind _ = _
      rw [h1, Option.bind_some, h2]; rfl
    · intro h
      obtain ⟨y, h1, h2⟩ := Option.bind_eq_some_iff.mp h
      obtain ⟨b, h3, rfl⟩ := Option.map_eq_some_iff.mp h2
      exact ⟨y, b, h1, h3, rfl⟩
  · show stF (List.replicate _ none ++ B.en) i = some a ↔ _
    rw [stF_app, List.length_replicate]
    exact or_congr ⟨fun h => (stF_rep h.2).elim, fun h => by cases h.2⟩ Iff.rfl
theorem mJoin_dot (A B : Mach) : wdot (mJoin A B).st (mJoin A B).en = wtimes (wdot A.st A.en) (wdot B.st B.en) := by
  refine (wdot_min _ _).uniq ?_
  have hB := wdot_min B.st B.en
  have key : ∀ c, BF.Dot (stF (mJoin A B).st) (stF (mJoin A B).en) c ↔ ∃ y k a b, wdot A.st A.en = some y ∧ stF B.st k = some a ∧ stF B.en k = some b ∧ c = y + a + b := by
    intro c
    constructor
    · rintro ⟨i, a, b, h1, h2, e⟩
      rcases stF_app.mp h2 with ⟨_, h3⟩ | ⟨k, e1, h3⟩
      · exact (stF_rep h3).elim
      · rw [List.length_replicate] at e1
        rcases stF_app.mp h1 with ⟨_, h4⟩ | ⟨k2, e2, h4⟩
        · omega
        · have : k2 = k := by omega
          subst this
          rw [stF_times] at h4
          obtain ⟨y, a', h5, h6, rfl⟩ := wtimes_some.mp h4
          exact ⟨y, k2, a', b, h5, h6, h3, e⟩
    · rintro ⟨y, k, a, b, h1, h2, h3, e⟩
      exact ⟨A.st.length + k, y + a, b, stF_app.mpr (.inr ⟨k, rfl, by rw [stF_times, h1, h2]; rfl⟩), stF_app.mpr (.inr ⟨k, by rw [List.length_replicate], h3⟩), e⟩
  constructor
  · intro e c hc
    obtain ⟨y, k, a, b, h1, h2, h3, _⟩ := (key c).mp hc
    obtain ⟨w, h4, _⟩ := min_some hB ⟨k, a, b, h2, h3, rfl⟩
    rw [h1, h4] at e; cases e
  · intro w e
    obtain ⟨y, z, h1, h2, rfl⟩ := wtimes_some.mp e
    obtain ⟨⟨k, a, b, h3, h4, rfl⟩, hm⟩ := hB.2 z h2
    refine ⟨(key _).mpr ⟨y, k, a, b, h1, h3, h4, by omega⟩, fun c hc => ?_⟩
    obtain ⟨y', k', a', b', h5, h6, h7, rfl⟩ := (key c).mp hc
    rw [h1] at h5
    cases h5
    have := hm _ ⟨k', a', b', h6, h7, rfl⟩
    omega
/-! ### turned -/
theorem mTurn_wf {M : Mach} (wM : M.WF) : (mTurn M).WF := by
  have e := wM.ends
  refine ⟨by show (M.tabs.map _).length = _; rw [List.length_map]; exact wM.lt, ?_, ?_, e.symm, by show M.en.length ≤ 20; rw [e]; exact wM.few, wM.let3⟩
  · intro t ht
    obtain ⟨t0, h0, rfl⟩ := List.mem_map.mp ht
    show _ = M.en.length
    rw [List.length_map, List.length_range, e]
  · intro t ht r hr
    obtain ⟨t0, h0, rfl⟩ := List.mem_map.mp ht
    obtain ⟨i, hi, rfl⟩ := List.mem_map.mp hr
    show (t0.map _).length = M.en.length
    rw [List.length_map, wM.rows _ h0, e]
theorem mTurn_ed {M : Mach} (wM : M.WF) (i j : Nat) (c : Int) : Ed (mTurn M) i j c ↔ Ed M j i c := by
  constructor
  · rintro ⟨k, t, h, he⟩
    rw [show (mTurn M).tabs = M.tabs.map _ from rfl, List.getElem?_map, Option.map_eq_some_iff] at h
    obtain ⟨t0, h0, rfl⟩ := h
    obtain ⟨r, h1, h2⟩ := entry_some.mp he
    rw [List.getElem?_map, Option.map_eq_some_iff] at h1
    obtain ⟨i', h3, rfl⟩ := h1
    have li := (List.getElem?_eq_some_iff.mp h3)
    obtain ⟨l, e⟩ := li
    rw [List.getElem_range] at e
    subst e
    have h4 := stF_some.mp h2
    rw [colAt, List.getElem?_map, Option.map_eq_some_iff] at h4
    obtain ⟨r0, h5, h6⟩ := h4
    exact ⟨k, t0, h0, entry_some.mpr ⟨r0, h5, h6⟩⟩
  · intro h
    have hl := h.lt wM
    obtain ⟨k, t0, h0, he⟩ := h
    obtain ⟨r0, h5, h6⟩ := entry_some.mp he
    refine ⟨k, _, by rw [show (mTurn M).tabs = M.tabs.map _ from rfl, List.getElem?_map, h0]; rfl, entry_some.mpr ⟨colAt t0 i, ?_, ?_⟩⟩
    · rw [List.getElem?_map, List.getElem?_range hl.2]; rfl
    · rw [stF_some, colAt, List.getElem?_map, h5]
      exact congrArg some h6
theorem mTurn_val {M : Mach} (wM : M.WF) {r : BF.R} (v : BF.ValS (AccM M) r) : BF.ValS (AccM (mTurn M)) r :=
  v.congr fun c => ⟨BF.acc_turn1 fun i j c h => (mTurn_ed wM i j c).mp h, BF.acc_turn1 fun i j c h => (mTurn_ed wM j i c).mpr h⟩
theorem mTurn_dot (M : Mach) : wdot (mTurn M).st (mTurn M).en = wdot M.st M.en :=
  (wdot_min _ _).uniq ((wdot_min M.st M.en).congr fun c => ⟨fun ⟨i, a, b, h1, h2, e⟩ => ⟨i, b, a, h2, h1, by omega⟩, fun ⟨i, a, b, h1, h2, e⟩ => ⟨i, b, a, h2, h1, by omega⟩⟩)
/-! ### closed -/
theorem mClose_wf {M : Mach} (wM : M.WF) (h20 : M.st.length + 1 ≤ 20) : (mClose M).WF := by
  have e0 : (mClose M).st.length = M.st.length + 1 := List.length_append
  refine ⟨by show (M.tabs.map _).length = _; rw [List.length_map]; exact wM.lt, ?_, ?_, by rw [e0]; show (M.en ++ _).length = _; rw [List.length_append, wM.ends]; rfl, by omega, wM.let3⟩
  · intro t ht
    obtain ⟨t0, h0, rfl⟩ := List.mem_map.mp ht
    rw [e0]
    show (t0.map _ ++ [_]).length = _
    rw [List.length_append, List.length_map, wM.rows _ h0]; rfl
  · intro t ht r hr
    obtain ⟨t0, h0, rfl⟩ := List.mem_map.mp ht
    rw [e0]
    rcases List.mem_append.mp hr with h | h
    · obtain ⟨r0, h1, rfl⟩ := List.mem_map.mp h
      show (List.map _ _ ++ [none]).length = _
      rw [List.length_append, List.length_map, List.length_zip, List.length_map, wM.cols _ h0 _ h1]
      show min _ _ + 1 = _
      omega
    · cases List.mem_singleton.mp h
      exact List.length_replicate
theorem wplus_some {x y : Wt} {c : Int} (h : wplus x y = some c) : x = some c ∨ y = some c := by
  have := ((wplus_min (min_one x) (min_one y)).2 c h).1
  exact this
theorem mClose_row {M : Mach} {r : List Wt} (hr : r.length = M.st.length) {j : Nat} {c : Int} :
    stF (closeRow M r) j = some c ↔ j < M.st.length ∧ wplus (stF r j) (wtimes (wdot r M.en) (stF M.st j)) = some c := by
  unfold closeRow
  have ll : ((r.zip (M.st.map (wtimes (wdot r M.en)))).map fun p => wplus p.1 p.2).length = M.st.length := by
    rw [List.length_map, List.length_zip, List.length_map, hr]; omega
  have ee : ∀ j, j < M.st.length → stF ((r.zip (M.st.map (wtimes (wdot r M.en)))).map fun p => wplus p.1 p.2) j = wplus (stF r j) (wtimes (wdot r M.en) (stF M.st j)) := by
    intro j hj
    have h1 : r[j]? = some r[j] := List.getElem?_eq_getElem (by omega)
    have h2 : M.st[j]? = some M.st[j] := List.getElem?_eq_getElem hj
    have h3 : (r.zip (M.st.map (wtimes (wdot r M.en))))[j]? = some (r[j], wtimes (wdot r M.en) M.st[j]) := by
      rw [List.getElem?_zip_eq_some]
      exact ⟨h1, by rw [List.getElem?_map, h2]; rfl⟩
    unfold stF
    rw [List.getElem?_map, h3, h1, h2]; rfl
  rw [stF_app]
  constructor
  · rintro (⟨l, h⟩ | ⟨k, e, h⟩)
    · rw [ll] at l
      exact ⟨l, by rw [← ee j l]; exact h⟩
    · have := stF_lt h
      rw [stF_some] at h
      have : k = 0 := by simp at this; exact this
      subst this
      cases h
  · rintro ⟨l, h⟩
    exact .inl ⟨by rw [ll]; exact l, by rw [ee j l]; exact h⟩
theorem mClose_ed {M : Mach} (wM : M.WF) {i j : Nat} {c : Int} : Ed (mClose M) i j c ↔ ∃ (l : Nat) (t : List (List Wt)) (r : List Wt), M.tabs[l]? = some t ∧ t[i]? = some r ∧ j < M.st.length ∧ wplus (stF r j) (wtimes (wdot r M.en) (stF M.st j)) = some c := by
  constructor
  · rintro ⟨k, t, h, he⟩
    rw [show (mClose M).tabs = M.tabs.map _ from rfl, List.getElem?_map, Option.map_eq_some_iff] at h
    obtain ⟨t0, h0, rfl⟩ := h
    obtain ⟨r, h1, h2⟩ := entry_some.mp he
    rcases get_app.mp h1 with ⟨l, h3⟩ | ⟨k', e, h3⟩
    · rw [List.getElem?_map, Option.map_eq_some_iff] at h3
      obtain ⟨r0, h4, rfl⟩ := h3
      have := (mClose_row (wM.cols t0 (List.mem_of_getElem? h0) r0 (List.mem_of_getElem? h4))).mp h2
      exact ⟨k, t0, r0, h0, h4, this.1, this.2⟩
    · cases List.mem_singleton.mp (List.mem_of_getElem? h3)
      exact (stF_rep h2).elim
  · rintro ⟨k, t0, r0, h0, h4, h5, h6⟩
    refine ⟨k, _, by rw [show (mClose M).tabs = M.tabs.map _ from rfl, List.getElem?_map, h0]; rfl, entry_some.mpr ⟨closeRow M r0, ?_, ?_⟩⟩
    · exact get_app.mpr (.inl ⟨by rw [List.length_map]; exact (List.getElem?_eq_some_iff.mp h4).1, by rw [List.getElem?_map, h4]; rfl⟩)
    · exact (mClose_row (wM.cols t0 (List.mem_of_getElem? h0) r0 (List.mem_of_getElem? h4))).mpr ⟨h5, h6⟩
theorem mClose_clo {M : Mach} (wM : M.WF) (hd : wdot M.st M.en = none) : BF.Clo M.st.length (stF M.st) (stF M.en) (Ed M) (Ed (mClose M)) where
  lM := fun i j c h => h.lt wM
  lS := fun i a h => stF_lt h
  lE := fun i a h => by rw [← wM.ends]; exact stF_lt h
  no := fun i a b h1 h2 => (wdot_min M.st M.en).1 hd _ ⟨i, a, b, h1, h2, rfl⟩
  dn := fun i j c h => by
    obtain ⟨l, t, r, h1, h2, h3, h4⟩ := (mClose_ed wM).mp h
    rcases wplus_some h4 with h5 | h5
    · exact .inl ⟨l, t, h1, entry_some.mpr ⟨r, h2, h5⟩⟩
    · obtain ⟨y, s, h6, h7, rfl⟩ := wtimes_some.mp h5
      obtain ⟨x, a, e, h8, h9, rfl⟩ := ((wdot_min r M.en).2 y h6).1
      exact .inr ⟨x, a, e, s, ⟨l, t, h1, entry_some.mpr ⟨r, h2, h8⟩⟩, h9, h7, rfl⟩
  up1 := fun i j c h => by
    have hl := h.lt wM
    obtain ⟨l, t, h1, h2⟩ := h
    obtain ⟨r, h3, h4⟩ := entry_some.mp h2
    obtain ⟨w, h5, h6⟩ := min_some (wplus_min (min_one (stF r j)) (min_one (wtimes (wdot r M.en) (stF M.st j)))) (.inl h4)
    exact ⟨w, h6, (mClose_ed wM).mpr ⟨l, t, r, h1, h3, hl.2, h5⟩⟩
  up2 := fun i x j a e s h h7 h8 => by
    obtain ⟨l, t, h1, h2⟩ := h
    obtain ⟨r, h3, h4⟩ := entry_some.mp h2
    obtain ⟨y, h9, h10⟩ := min_some (wdot_min r M.en) ⟨x, a, e, h4, h7, rfl⟩
    obtain ⟨w, h5, h6⟩ := min_some (c := y + s) (wplus_min (min_one (stF r j)) (min_one (wtimes (wdot r M.en) (stF M.st j)))) (.inr (by rw [h9, h8]; rfl))
    exact ⟨w, by omega, (mClose_ed wM).mpr ⟨l, t, r, h1, h3, stF_lt h8, h5⟩⟩
theorem stF_snoc0 {r : List Wt} {n i : Nat} {a : Int} (hn : r.length = n) : stF (r ++ [some 0]) i = some a ↔ stF r i = some a ∨ (i = n ∧ a = 0) := by
  rw [stF_app]
  constructor
  · rintro (⟨_, h⟩ | ⟨k, e, h⟩)
    · exact .inl h
    · have := stF_lt h
      have : k = 0 := by simp at this; exact this
      subst this
      exact .inr ⟨by omega, by cases h; rfl⟩
  · rintro (h | ⟨rfl, rfl⟩)
    · exact .inl ⟨stF_lt h, h⟩
    · exact .inr ⟨0, by omega, rfl⟩
theorem mClose_val {M : Mach} (wM : M.WF) (hd : wdot M.st M.en = none) {r : BF.R} (v : BF.ValS (AccM M) r) : BF.ValS (AccM (mClose M)) (BF.starR r) :=
  BF.val_close (mClose_clo wM hd) (fun i a => stF_snoc0 rfl) (fun i a => stF_snoc0 wM.ends) v
theorem mClose_dot {M : Mach} (wM : M.WF) (hd : wdot M.st M.en = none) : wdot (mClose M).st (mClose M).en = some 0 := by
  refine (wdot_min _ _).uniq ⟨fun e => (by cases e), fun w e => ?_⟩
  cases e
  refine ⟨⟨M.st.length, 0, 0, (stF_snoc0 rfl).mpr (.inr ⟨rfl, rfl⟩), (stF_snoc0 wM.ends).mpr (.inr ⟨rfl, rfl⟩), rfl⟩, ?_⟩
  rintro c ⟨i, a, b, h1, h2, rfl⟩
  rcases (stF_snoc0 rfl).mp h1 with h3 | ⟨e1, rfl⟩
  · rcases (stF_snoc0 wM.ends).mp h2 with h4 | ⟨e2, rfl⟩
    · exact ((wdot_min M.st M.en).1 hd _ ⟨i, a, b, h3, h4, rfl⟩).elim
    · have := stF_lt h3; omega
  · rcases (stF_snoc0 wM.ends).mp h2 with h4 | ⟨e2, rfl⟩
    · have := stF_lt h4; have := wM.ends; omega
    · omega
/-! ### one word -/
theorem mSingle_st {n i : Nat} {a : Int} : stF (some 0 :: List.replicate n none) i = some a ↔ i = 0 ∧ a = 0 := by
  cases i with
  | zero => exact ⟨fun h => ⟨rfl, by cases h; rfl⟩, fun h => by rw [h.2]; rfl⟩
  | succ i => exact ⟨fun h => (stF_rep (n := n) (i := i) h).elim, fun h => by cases h.1⟩
theorem mSingle_en {n i : Nat} {a : Int} : stF (List.replicate n none ++ [some 0]) i = some a ↔ i = n ∧ a = 0 := by
  rw [stF_snoc0 List.length_replicate]
  exact ⟨fun h => h.elim (fun z => (stF_rep z).elim) id, .inr⟩
theorem sLine_some {w : Str} {l i j : Nat} {c : Int} (h : stF (sLine w l i) j = some c) : c = 0 := by
  unfold sLine at h
  by_cases e : w.cps.toList[i]? = some l
  · rw [if_pos e, stF_some] at h
    rcases List.getElem?_set (l := List.replicate (w.length + 1) (none : Wt)) (i := i + 1) (j := j) (a := some 0) ▸ h with h2
    split at h2
    · split at h2
      · cases h2; rfl
      · cases h2
    · rw [← stF_some] at h2
      exact (stF_rep h2).elim
  · rw [if_neg e] at h
    exact (stF_rep h).elim
theorem mSingle_wf {ls w : Str} (h1 : ls.length ≤ 3) (h2 : w.length ≤ 3) : (mSingle ls w).WF := by
  have e0 : (mSingle ls w).st.length = w.length + 1 := by show (List.replicate w.length none).length + 1 = _; rw [List.length_replicate]
  refine ⟨by show (List.map _ ls.cps.toList).length = _; rw [List.length_map]; exact TL.len_tl ls, ?_, ?_, by rw [e0]; show (List.replicate _ none ++ [_]).length = _; rw [List.length_append, List.length_replicate]; rfl, by omega, h1⟩
  · intro t ht
    obtain ⟨l, _, rfl⟩ := List.mem_map.mp ht
    rw [e0, List.length_map, List.length_range]
  · intro t ht r hr
    obtain ⟨l, _, rfl⟩ := List.mem_map.mp ht
    obtain ⟨i, _, rfl⟩ := List.mem_map.mp hr
    rw [e0]
    unfold sLine
    split
    · rw [List.length_set, List.length_replicate]
    · rw [List.length_replicate]
theorem mSingle_len (ls w : Str) : (mSingle ls w).st.length = w.length + 1 := by show (List.replicate w.length none).length + 1 = _; rw [List.length_replicate]
theorem mSingle_val {ls w : Str} (hw : ∀ c ∈ w.cps.toList, c ∈ ls.cps.toList) : BF.ValS (AccM (mSingle ls w)) (.least 0) := by
  have lw : w.cps.toList.length = w.length := TL.len_tl w
  refine BF.val_single (n := w.length) (fun i a => mSingle_st) (fun i a => mSingle_en) ?_ ?_
  · rintro i j c ⟨k, t, h, he⟩
    obtain ⟨l, _, rfl⟩ := List.mem_map.mp (List.mem_of_getElem? h)
    obtain ⟨r, h3, h4⟩ := entry_some.mp he
    obtain ⟨i', _, rfl⟩ := List.mem_map.mp (List.mem_of_getElem? h3)
    exact sLine_some h4
  · intro i hi
    have hl : w.cps.toList[i]? = some (w.cps.toList[i]'(by omega)) := List.getElem?_eq_getElem (by omega)
    generalize w.cps.toList[i]'(by omega) = l at hl
    obtain ⟨k, hk⟩ := List.getElem?_of_mem (hw l (List.mem_of_getElem? hl))
    refine ⟨k, _, by rw [show (mSingle ls w).tabs = ls.cps.toList.map _ from rfl, List.getElem?_map, hk]; rfl, entry_some.mpr ⟨sLine w l i, ?_, ?_⟩⟩
    · rw [List.getElem?_map, List.getElem?_range (by omega)]; rfl
    · unfold sLine
      rw [if_pos hl, stF_some, List.getElem?_set_self (by rw [List.length_replicate]; omega)]
theorem mSingle_dot (ls w : Str) : wdot (mSingle ls w).st (mSingle ls w).en = if w.length = 0 then some 0 else none := by
  refine (wdot_min _ _).uniq ?_
  have key : ∀ c, BF.Dot (stF (mSingle ls w).st) (stF (mSingle ls w).en) c ↔ w.length = 0 ∧ c = 0 := by
    intro c
    constructor
    · rintro ⟨i, a, b, h1, h2, rfl⟩
      have := mSingle_st.mp h1
      have := mSingle_en.mp h2
      omega
    · rintro ⟨h, rfl⟩
      exact ⟨0, 0, 0, mSingle_st.mpr ⟨rfl, rfl⟩, mSingle_en.mpr ⟨h.symm, rfl⟩, rfl⟩
  by_cases h : w.length = 0
  · rw [if_pos h]
    exact ⟨fun e => (by cases e), fun v e => by cases e; exact ⟨(key 0).mpr ⟨h, rfl⟩, fun c hc => by have := ((key c).mp hc).2; omega⟩⟩
  · rw [if_neg h]
    exact ⟨fun _ c hc => h ((key c).mp hc).1, fun v e => by cases e⟩
end L2.Ww
set_option Elab.async false
set_option linter.all false
set_option maxRecDepth 100000
set_option maxHeartbeats 4000000
/-! The law: drawn letters. -/
namespace L2.Ww
open PySem PySem.Spec PyProof.Rows
def spLLetters : Sp := fun vs H Q _ => ∃ sp, vs = [.ref sp] ∧ StAt H sp ∧ ∀ H' z, FrS sp H H' → LetOk z → Q (.str z) H'
theorem replL_one (c : Nat) : ∀ l : List Nat, PySem.StrLaws.replL [c] [] l = l.filter (· != c)
  | [] => by rw [PySem.StrLaws.replL_nil]; rfl
  | x :: r => by
    by_cases h : x = c
    · subst h
      rw [PySem.StrLaws.replL_hit (by simp) (by simp)]
      show [] ++ PySem.StrLaws.replL [x] [] r = _
      rw [List.nil_append, replL_one x r, List.filter_cons_of_neg (by simp)]
    · rw [PySem.StrLaws.replL_miss (by simp [h]), replL_one c r, List.filter_cons_of_pos (by simp [h])]
theorem replace_one (z : Str) (c : Nat) : (Txt.replace z ⟨#[c]⟩ Str.empty).cps.toList = z.cps.toList.erase c ∨ ¬ z.cps.toList.Nodup := by
  by_cases nd : z.cps.toList.Nodup
  · refine .inl ?_
    rw [PySem.StrLaws.replace_list (y := ⟨#[c]⟩) (show 1 ≤ (⟨#[c]⟩ : Str).length from Nat.le_refl 1), nd.erase_eq_filter]
    exact replL_one c _
  · exact .inr nd
structure Lets (a z : Str) (i : Nat) : Prop where
  la : a.length = i
  lz : z.length + i = 26
  na : a.cps.toList.Nodup
  nz : z.cps.toList.Nodup
  sa : ∀ c ∈ a.cps.toList, 97 ≤ c ∧ c ≤ 122
  sz : ∀ c ∈ z.cps.toList, 97 ≤ c ∧ c ≤ 122
  dj : ∀ c ∈ a.cps.toList, c ∉ z.cps.toList
theorem Lets.pick {a z : Str} {i c : Nat} (h : Lets a z i) (hc : c ∈ z.cps.toList) : Lets (a ++ ⟨#[c]⟩) (Txt.replace z ⟨#[c]⟩ Str.empty) (i + 1) := by
  have er : (Txt.replace z ⟨#[c]⟩ Str.empty).cps.toList = z.cps.toList.erase c := (replace_one z c).resolve_right fun n => n h.nz
  have ea : (a ++ ⟨#[c]⟩).cps.toList = a.cps.toList ++ [c] := TL.tl_append a ⟨#[c]⟩
  have l1 : (Txt.replace z ⟨#[c]⟩ Str.empty).length = z.length - 1 := by
    rw [TL.len_tl (Txt.replace z ⟨#[c]⟩ Str.empty), TL.len_tl z]
    show (Txt.replace z ⟨#[c]⟩ Str.empty).cps.toList.length = z.cps.toList.length - 1
    rw [er, List.length_erase_of_mem hc]
  have l2 : (a ++ ⟨#[c]⟩ : Str).length = a.length + 1 := by
    rw [TL.len_tl (a ++ ⟨#[c]⟩), TL.len_tl a, TL.tl_append, List.length_append] <;> rfl
  have hz : 0 < z.length := by
    rw [TL.len_tl z]
    exact List.length_pos_of_mem hc
  have := h.la
  have := h.lz
  refine ⟨by omega, by omega, ?_, ?_, ?_, ?_, ?_⟩
  · rw [ea]
    refine List.nodup_append.mpr ⟨h.na, by simp, fun x hx y hy e => ?_⟩
    cases List.mem_singleton.mp hy
    subst e
    exact h.dj _ hx hc
  · rw [er]; exact h.nz.erase c
  · intro x hx
    rw [ea] at hx
    rcases List.mem_append.mp hx with hx | hx
    · exact h.sa x hx
    · cases List.mem_singleton.mp hx; exact h.sz _ hc
  · intro x hx
    rw [er] at hx
    exact h.sz x (List.mem_of_mem_erase hx)
  · intro x hx hx2
    rw [er] at hx2
    rw [ea] at hx
    rcases List.mem_append.mp hx with hx | hx
    · exact h.dj x hx (List.mem_of_mem_erase hx2)
    · cases List.mem_singleton.mp hx
      exact (h.nz.not_mem_erase) hx2
theorem lets0 : Lets Str.empty "abcdefghijklmnopqrstuvwxyz" 0 := by
  have e : ("abcdefghijklmnopqrstuvwxyz" : Str).cps.toList = (List.range 26).map (· + 97) := by decide +kernel
  refine ⟨rfl, by decide +kernel, List.nodup_nil, by decide +kernel, fun c hc => (nomatch hc), fun c hc => ?_, fun c hc => (nomatch hc)⟩
  rw [e] at hc
  obtain ⟨k, hk, rfl⟩ := List.mem_map.mp hc
  have := List.mem_range.mp hk
  omega
section
variable {P : Program} {w : World} {K : PySem.W.Frag} {mg : Str → Option Value} {base : Heap}
abbrev s__law_letters : Stmt := top 122
theorem sc__law_letters : FnScope ["_law_state_here", "_law_some", "_law_answer", "_law_k", "_law_letter"] ["_law_state_here"] (defScope s__law_letters) := ⟨rfl, rfl, rfl, by decide +kernel, rfl, by decide +kernel, by decide +kernel⟩
theorem ok__law_letters (T : Txt w K mg) : Cal P w K mg base CX0 2 "_law_letters" spLLetters := by
  refine cal_ok T.d__law_letters (fun _ _ _ _ _ _ us hl => match us, hl with | [_], _ => rfl) sc__law_letters (fun vs H Q E h => ?_) (fun cdv A outer s f H vs Q E hr h => ?_)
  · obtain ⟨_, rfl, _⟩ := h; rfl
  · obtain ⟨sp, rfl, hs, k⟩ := h
    refine ⟨_, PSs.nox (pss_str (i := 1) sc__law_letters.nd rfl (Or.inl rfl) (psst_cons (PST.of (ps_set (i := 2) sc__law_letters.nd rfl (Or.inl rfl) pe_str))
      (psst_cons (pst_forT PassesOwn.never rfl (pi_range1 rfl T.f_range (pa_cons (pe_op op_add pe_int (pe_c0 (ok__law_next T) hr (by decide) rfl (pa_cons (pv 0) (pa_cons pe_int pa_nil)))) pa_nil)) (pg_name (i := 3) sc__law_letters.nd rfl (Or.inl rfl))
        (psst_pick (xL := "_law_letter") (xA := "_law_answer") (xS := "_law_some") (iL := 4) (iA := 2) (iS := 1) sc__law_letters.nd rfl rfl rfl (by decide) (by decide) (by decide) rfl rfl rfl (.inl rfl) (.inl rfl) (.inl rfl)
          (pe_c0 (ok__law_next T) hr (by decide) rfl (pa_cons (pv 0) (pa_cons (pe_callB call_len_str (by rfl) T.f_len PySem.boot_len (pa_cons (pv 1) pa_nil)) pa_nil))) (fun _ _ => rfl) pss_nil))
        (PSsT.of (pss_one (ps_ret (pv 2))))))), ?_⟩
    refine ⟨_, rfl, sp, 3, rfl, hs, by decide, by decide, fun H1 x f1 hx => ⟨_, _, rfl, rfl, ?_⟩⟩
    refine ⟨_, rfl, by omega, by omega, for_it (walk_range0 (n := (1 + (x : Int)).toNat)) (fun i σ H2 => ∃ z a y3 y4, σ = [some (.ref sp), some (.str z), some (.str a), y3, y4] ∧ FrS sp H H2 ∧ Lets a z i)
      ⟨_, _, none, none, rfl, f1, lets0⟩ (fun _ _ _ _ _ => trivial) ?_ ?_⟩
    · rintro i x2 σ H2 H3 hi ⟨z, a, y3, y4, rfl, f2, hl⟩ ⟨rfl, rfl⟩
      have hla := hl.la
      have hlz := hl.lz
      refine ⟨z, a, rfl, rfl, by omega, by omega, ?_⟩
      refine ⟨_, rfl, _, rfl, z, rfl, small (by omega), sp, z.length, rfl, f2.2, by omega, by omega, fun H4 y f4 hy => ?_⟩
      have hc : z.cps[y]? = some z.cps[y] := Array.getElem?_eq_getElem hy
      refine ⟨y, z.cps[y], rfl, by omega, by omega, hc, ?_⟩
      exact ⟨_, _, _, _, rfl, f2.trans f4, hl.pick (List.mem_of_getElem? (i := y) (by rw [Array.getElem?_toList]; exact hc))⟩
    · rintro σ H2 ⟨z, a, y3, y4, rfl, f2, hl⟩
      refine ⟨_, rfl, k H2 a f2 ⟨?_, ?_, hl.na, hl.sa⟩⟩
      · have := hl.la; omega
      · have := hl.la; omega
end
end L2.Ww
set_option Elab.async false
set_option linter.all false
set_option maxRecDepth 100000
set_option maxHeartbeats 4000000
/-! The law: drawn names. -/
namespace L2.Ww
open PySem PySem.Spec PyProof.Rows
def spLCalls : Sp := fun vs H Q _ => ∃ sp, vs = [.ref sp] ∧ StAt H sp ∧ ∀ H' p names, FrS sp H H' → H p = none → p ≠ sp → names ≠ [] → names.length ≤ 9 → (∀ z ∈ names, NameOk z) → LstAt H' p (strsD names) → Q (.ref p) H'
def manyOf (x : Nat) : Nat := if x = 3 then 9 else 4
theorem abc_get {i : Nat} (h : i < 9) : ("abcdefghi" : Str).cps.toList[i]? = some (97 + i) := by
  have e : ("abcdefghi" : Str).cps.toList = (List.range 9).map (97 + ·) := by decide +kernel
  rw [e, List.getElem?_map, List.getElem?_range h]; rfl
theorem cba_get {i : Nat} (h : i < 9) : ("ihgfedcba" : Str).cps.toList[i]? = some (105 - i) := by
  have e : ("ihgfedcba" : Str).cps.toList = (List.range 9).map (105 - ·) := by decide +kernel
  rw [e, List.getElem?_map, List.getElem?_range h]; rfl
theorem NameOk.app {a b : Str} (ha : ∀ c ∈ a.cps.toList, 97 ≤ c ∧ c ≤ 122) (hb : ∀ c ∈ b.cps.toList, 97 ≤ c ∧ c ≤ 122) (h0 : 0 < a.length + b.length) (h8 : a.length + b.length ≤ 8) : NameOk (a ++ b) := by
  have e : (a ++ b).cps.toList = a.cps.toList ++ b.cps.toList := TL.tl_append a b
  have el : (a ++ b).length = a.length + b.length := by
    rw [TL.len_tl (a ++ b), TL.len_tl a, TL.len_tl b, TL.tl_append, List.length_append]
  refine ⟨by omega, by omega, fun c hc => ?_⟩
  rw [e] at hc
  exact (List.mem_append.mp hc).elim (ha c) (hb c)
theorem one_small {c : Nat} (h : 97 ≤ c ∧ c ≤ 122) : ∀ x ∈ (⟨#[c]⟩ : Str).cps.toList, 97 ≤ x ∧ x ≤ 122 := fun x hx => by
  cases List.mem_singleton.mp hx; exact h
theorem repStr_ok {c n : Nat} (h : 97 ≤ c ∧ c ≤ 122) (h0 : 0 < n) (h8 : n ≤ 8) : NameOk (repStr c n) := by
  have e : (repStr c n).cps.toList = List.replicate n c := rfl
  have el : (repStr c n).length = n := by
    rw [TL.len_tl]
    show (repStr c n).cps.toList.length = n
    rw [e, List.length_replicate]
  refine ⟨by omega, by omega, fun x hx => ?_⟩
  rw [e] at hx
  rw [(List.mem_replicate.mp hx).2]; exact h
theorem names_of {n : Nat} {f : Nat → Str} (hn : n ≤ 9) (h0 : 0 < n) (hf : ∀ i, i < n → NameOk (f i)) : (List.range n).map f ≠ [] ∧ ((List.range n).map f).length ≤ 9 ∧ ∀ z ∈ (List.range n).map f, NameOk z := by
  refine ⟨fun e => ?_, by rw [List.length_map, List.length_range]; exact hn, fun z hz => ?_⟩
  · have := congrArg List.length e
    rw [List.length_map, List.length_range] at this
    simp at this; omega
  · obtain ⟨i, hi, rfl⟩ := List.mem_map.mp hz
    exact hf i (List.mem_range.mp hi)
section
variable {P : Program} {w : World} {K : PySem.W.Frag} {mg : Str → Option Value} {base : Heap}
abbrev s__law_calls : Stmt := top 123
theorem sc__law_calls : FnScope ["_law_state_here", "_law_base", "_law_many", "_law_way", "_law_k"] ["_law_state_here"] (defScope s__law_calls) := ⟨rfl, rfl, rfl, by decide +kernel, rfl, by decide +kernel, by decide +kernel⟩
theorem ok__law_calls (T : Txt w K mg) : Cal P w K mg base CX0 3 "_law_calls" spLCalls := by
  refine cal_ok T.d__law_calls (fun _ _ _ _ _ _ us hl => match us, hl with | [_], _ => rfl) sc__law_calls (fun vs H Q E h => ?_) (fun cdv A outer s f H vs Q E hr h => ?_)
  · obtain ⟨_, rfl, _⟩ := h; rfl
  · obtain ⟨sp, rfl, hs, k⟩ := h
    refine ⟨_, PSs.nox (pss_cons (ps_set (i := 1) sc__law_calls.nd rfl (Or.inr rfl) (pe_op op_add_str (pe_c0 (ok__law_letters T) hr (by decide) rfl (pa_cons (pv 0) pa_nil)) (pe_c0 (ok__law_letters T) hr (by decide) rfl (pa_cons (pv 0) pa_nil))))
      (pss_cons (ps_set (i := 2) sc__law_calls.nd rfl (Or.inl rfl) (pe_ix (ix_listQ K) (pe_lstQ (pa_cons pe_int (pa_cons pe_int (pa_cons pe_int (pa_cons pe_int pa_nil))))) (pe_c0 (ok__law_next T) hr (by decide) rfl (pa_cons (pv 0) (pa_cons pe_int pa_nil))) (fun _ _ => rfl)))
      (pss_cons (ps_set (i := 3) sc__law_calls.nd rfl (Or.inl rfl) (pe_c0 (ok__law_next T) hr (by decide) rfl (pa_cons (pv 0) (pa_cons pe_int pa_nil))))
      (pss_cons (ps_if (pt_cmpR op_eq (pv 3) pe_int (nomark _)) (pss_one (ps_ret (pe_lc (own := [("_law_k", 4)]) rfl sc__law_calls.nd (pi_range1 rfl T.f_range (pa_cons (pv 2) pa_nil)) (blkOk_by (own := [("_law_k", 4)]) (N := ["_law_state_here", "_law_base", "_law_many", "_law_way", "_law_k"]) (sc := defScope s__law_calls) (by decide +kernel)) (fun _ _ _ _ _ => (pg_name (i := 4) sc__law_calls.nd rfl (Or.inl rfl))) (fun _ _ _ _ _ => pts_nil) (fun _ _ _ _ _ => (pe_op op_add_str (pv 1) (pe_ix ix_str pe_str (pv 4) (fun _ _ => rfl))))))) pss_nil)
      (pss_cons (ps_if (pt_cmpR op_eq (pv 3) pe_int (nomark _)) (pss_one (ps_ret (pe_lc (own := [("_law_k", 4)]) rfl sc__law_calls.nd (pi_range1 rfl T.f_range (pa_cons (pv 2) pa_nil)) (blkOk_by (own := [("_law_k", 4)]) (N := ["_law_state_here", "_law_base", "_law_many", "_law_way", "_law_k"]) (sc := defScope s__law_calls) (by decide +kernel)) (fun _ _ _ _ _ => (pg_name (i := 4) sc__law_calls.nd rfl (Or.inl rfl))) (fun _ _ _ _ _ => pts_nil) (fun _ _ _ _ _ => (pe_op op_add_str (pe_ix ix_str pe_str (pv 4) (fun _ _ => rfl)) (pv 1)))))) pss_nil)
      (pss_one (ps_ret (pe_lc (own := [("_law_k", 4)]) rfl sc__law_calls.nd (pi_range1 rfl T.f_range (pa_cons (pv 2) pa_nil)) (blkOk_by (own := [("_law_k", 4)]) (N := ["_law_state_here", "_law_base", "_law_many", "_law_way", "_law_k"]) (sc := defScope s__law_calls) (by decide +kernel)) (fun _ _ _ _ _ => (pg_name (i := 4) sc__law_calls.nd rfl (Or.inl rfl))) (fun _ _ _ _ _ => pts_nil) (fun _ _ _ _ _ => (pe_op op_repS (pe_ix ix_str pe_str (pv 4) (fun _ _ => rfl)) (pe_op op_sub pe_int (pe_op op_mod (pv 4) pe_int)))))))))))), ?_⟩
    refine ⟨_, rfl, sp, rfl, hs, fun H1 z1 f1 hz1 => ⟨_, rfl, sp, rfl, f1.2, fun H2 z2 f2 hz2 => ?_⟩⟩
    have l1 := hz1.le3
    have l2 := hz2.le3
    have p1 := hz1.pos
    have p2 := hz2.pos
    refine ⟨_, _, rfl, rfl, small (by omega), ?_⟩
    have hb : ∀ c ∈ (z1 ++ z2).cps.toList, 97 ≤ c ∧ c ≤ 122 := fun c hc => by
      rw [show (z1 ++ z2).cps.toList = z1.cps.toList ++ z2.cps.toList from TL.tl_append z1 z2] at hc
      exact (List.mem_append.mp hc).elim (hz1.small c) (hz2.small c)
    have hbl : (z1 ++ z2).length = z1.length + z2.length := by
      rw [TL.len_tl (z1 ++ z2), TL.len_tl z1, TL.len_tl z2, TL.tl_append, List.length_append]
    have hb2 : 2 ≤ (z1 ++ z2).length := by omega
    have hb6 : (z1 ++ z2).length ≤ 6 := by omega
    generalize z1 ++ z2 = bs at hb hb2 hb6
    have f12 := f1.trans f2
    refine r_lst (ds := [.a (.int 4), .a (.int 4), .a (.int 4), .a (.int 9)]) (Reps.cons rfl (Reps.cons rfl (Reps.cons rfl (Reps.cons rfl Reps.nil)))) (small (by simp)) fun p H3 s3 hp hl => ?_
    have hpn : p ≠ sp := f12.2.ne hp
    refine ⟨_, rfl, sp, 4, rfl, f12.2.same s3, by decide, by decide, fun H4 x f4 hx => ?_⟩
    have hl4 := f4.lst (f12.2.same s3) hpn hl
    have f04 := (f12.trans (FrS.of f12.2 s3)).trans f4
    refine r_ixL x hl4 (d := .a (.int (manyOf x : Nat))) (by
      have hx4 : x = 0 ∨ x = 1 ∨ x = 2 ∨ x = 3 := by omega
      rcases hx4 with rfl | rfl | rfl | rfl <;> rfl) fun v hv => ?_
    cases hv
    have hm9 : manyOf x ≤ 9 := by unfold manyOf; split <;> omega
    have hm0 : 0 < manyOf x := by unfold manyOf; split <;> omega
    generalize manyOf x = m at hm9 hm0
    refine ⟨_, rfl, sp, 3, rfl, f04.2, by decide, by decide, fun H5 y f5 hy => ?_⟩
    have f05 := f04.trans f5
    have nm : (m : Int).toNat = m := by omega
    have go : ∀ (f : Nat → Str) (Hf : Hp) (Dd : Addr), Same H5 Hf → H5 Dd = none → (∀ i, i < m → NameOk (f i)) → LstAt Hf Dd ((List.range (m : Int).toNat).map fun i => D.a (.str (f i))) → Q (.ref Dd) Hf := fun f Hf Dd sf hD hf hl => by
      have hn := names_of hm9 hm0 hf
      refine k Hf Dd ((List.range m).map f) (f05.trans (FrS.of f05.2 sf)) (f05.none hs hD) (f05.2.ne hD) hn.1 hn.2.1 hn.2.2 ?_
      rw [nm] at hl
      unfold strsD
      rw [List.map_map]
      exact hl
    refine ⟨_, rfl, rfl, _, rfl, ite2 (fun _ => ?_) (fun _ => ⟨_, rfl, rfl, _, rfl, ite2 (fun _ => ?_) (fun _ => ?_)⟩)⟩
    · refine ⟨_, rfl, m, rfl, by omega, by omega, fun Dd hD => ?_⟩
      refine lc_gen (H0 := H5) (walk_range0 (n := (m : Int).toNat)) hD (small (by omega)) (fun _ _ => trivial) same_YFn (fun i => some (.a (.str (bs ++ ⟨#[97 + i]⟩)))) ?_ ?_
      · rintro i x H6 H7 hi s7 ⟨rfl, rfl⟩ s6 Kf Kt hf ht
        exact ⟨rfl, _, rfl, _, rfl, _, i, 97 + i, rfl, rfl, small (by decide), atI_nat (abc_get (by omega)), _, _, rfl, rfl, small (show bs.length + 1 ≤ 1000 by omega), ht _ rfl _ _ (Same.refl _) rfl⟩
      · intro Hf sf hlst
        rw [fm_rng] at hlst
        exact go _ Hf Dd sf hD (fun i hi => NameOk.app hb (one_small (by omega)) (by omega) (show bs.length + 1 ≤ 8 by omega)) hlst
    · refine ⟨_, rfl, m, rfl, by omega, by omega, fun Dd hD => ?_⟩
      refine lc_gen (H0 := H5) (walk_range0 (n := (m : Int).toNat)) hD (small (by omega)) (fun _ _ => trivial) same_YFn (fun i => some (.a (.str (⟨#[97 + i]⟩ ++ bs)))) ?_ ?_
      · rintro i x H6 H7 hi s7 ⟨rfl, rfl⟩ s6 Kf Kt hf ht
        exact ⟨rfl, _, rfl, _, i, 97 + i, rfl, rfl, small (by decide), atI_nat (abc_get (by omega)), _, rfl, _, _, rfl, rfl, small (show 1 + bs.length ≤ 1000 by omega), ht _ rfl _ _ (Same.refl _) rfl⟩
      · intro Hf sf hlst
        rw [fm_rng] at hlst
        exact go _ Hf Dd sf hD (fun i hi => NameOk.app (one_small (by omega)) hb (by omega) (show 1 + bs.length ≤ 8 by omega)) hlst
    · refine ⟨_, rfl, m, rfl, by omega, by omega, fun Dd hD => ?_⟩
      refine lc_gen (H0 := H5) (walk_range0 (n := (m : Int).toNat)) hD (small (by omega)) (fun _ _ => trivial) same_YFn (fun i => some (.a (.str (repStr (105 - i) (8 - i % 8))))) ?_ ?_
      · rintro i x H6 H7 hi s7 ⟨rfl, rfl⟩ s6 Kf Kt hf ht
        refine ⟨rfl, _, rfl, _, i, 105 - i, rfl, rfl, small (by decide), atI_nat (cba_get (by omega)), _, rfl, _, _, rfl, rfl, (show (0 : Int) < 8 by decide), _, _, rfl, rfl, 105 - i, _, rfl, rfl, ?_, ?_, ?_⟩
        · omega
        · omega
        · exact ht (.a (.str (repStr (105 - i) (8 - i % 8)))) rfl _ _ (Same.refl _) (show V.str (repStr (105 - i) ((8 : Int) - (i : Int) % 8).toNat) = V.str (repStr (105 - i) (8 - i % 8)) by rw [show ((8 : Int) - (i : Int) % 8).toNat = 8 - i % 8 by omega])
      · intro Hf sf hlst
        rw [fm_rng] at hlst
        exact go _ Hf Dd sf hD (fun i hi => repStr_ok (by omega) (by omega) (by omega)) hlst
end
end L2.Ww
set_option Elab.async false
set_option linter.all false
set_option maxRecDepth 100000
set_option maxHeartbeats 4000000
/-! The law: what the desk told. -/
namespace L2.Ww
open PySem PySem.Spec PyProof.Rows
def rIsE3 (K : PySem.W.Frag) (cls : Value) (d : Option Addr) (a : Addr) : List V → Hp → VK → Prop := fun xs H Q => ∃ D, cls = .ref D ∧ d = none ∧ ExcC K D ∧ rIsE K D a xs H Q
theorem call_isE3 {X : Cx} {a : Addr} {cls : Value} {d : Option Addr} {oe : Obj} {pn : List (Addr × Obj)} (hz : Zc cls d oe) (hf : ∃ vs, oe.data = .fields vs) : CallR (X.suite a ((a, oe) :: pn)) (.builtin "isinstance") (rIsE3 X.K cls d a) := by
  intro pins s σ H xs us Q I r h
  obtain ⟨D, rfl, rfl, C, h⟩ := h
  exact call_isE C hz hf pins s σ H xs us Q I r h
theorem r_ext {H : Hp} {Q : VK} {l b : Addr} {xs zs : List V} (h1 : H l = some (.lst xs)) (h2 : H b = some (.lst zs)) (hl : xs.length + zs.length ≤ sizeLine) (k : ∀ H', (∀ c o, c ≠ l → H c = some o → H' c = some o) → H' l = some (.lst (xs ++ zs)) → Q (.ref l) H') : rExt2 (.ref l) (.ref b) H Q :=
  ⟨l, b, xs, zs, rfl, rfl, h1, h2, hl, k _ (fun c o hc e => (upd_ne hc).trans e) upd_same⟩
theorem r_lstV {H : Hp} {Q : VK} {vs : List V} (hl : vs.length ≤ sizeLine) (k : ∀ p H1, H p = none → Same H H1 → H1 p = some (.lst vs) → Q (.ref p) H1) : qNewL vs H Q := by
  unfold qNewL
  exact ⟨hl, fun p hp => k p _ hp (Same.upd' hp) upd_same⟩
inductive Code : Nat → Str → Prop
  | clo : Code 5 "NoClosure"
  | great : Code 6 "TooGreat"
  | name : Code 8 "NoName"
section
variable {P : Program} {w : World} {K : PySem.W.Frag} {mg : Str → Option Value} {base : Heap}
theorem code_bits (T : Txt w K mg) {k : Nat} {c : Str} (h : Code k c) : PySem.W.exmOne K (.ref (He.ga K c)) (.ref (He.ga K "WeighError")) = some true ∧ ExcC K (He.ga K c) ∧ ∃ b0 b1 b2 b3 b4 b5 b6 b7 b8 b9 b10, bitsOf k = [b0, b1, b2, b3, b4, b5, b6, b7, b8, b9, b10] ∧
    PySem.W.kitOne K (.ref (He.ga K c)) (.ref (He.ga K "NoKind")) = some b0 ∧ PySem.W.kitOne K (.ref (He.ga K c)) (.ref (He.ga K "WrongKind")) = some b1 ∧ PySem.W.kitOne K (.ref (He.ga K c)) (.ref (He.ga K "NoWeight")) = some b2 ∧
    PySem.W.kitOne K (.ref (He.ga K c)) (.ref (He.ga K "NoWord")) = some b3 ∧ PySem.W.kitOne K (.ref (He.ga K c)) (.ref (He.ga K "Unlike")) = some b4 ∧ PySem.W.kitOne K (.ref (He.ga K c)) (.ref (He.ga K "NoClosure")) = some b5 ∧
    PySem.W.kitOne K (.ref (He.ga K c)) (.ref (He.ga K "TooGreat")) = some b6 ∧ PySem.W.kitOne K (.ref (He.ga K c)) (.ref (He.ga K "NoText")) = some b7 ∧ PySem.W.kitOne K (.ref (He.ga K c)) (.ref (He.ga K "NoName")) = some b8 ∧
    PySem.W.kitOne K (.ref (He.ga K c)) (.ref (He.ga K "NoRow")) = some b9 ∧ PySem.W.kitOne K (.ref (He.ga K c)) (.type "ValueError") = some b10 := by
  cases h with
  | clo => exact ⟨T.e_NoClosure, T.ec_NoClosure, _, _, _, _, _, _, _, _, _, _, _, rfl, T.i_NoClosure_NoKind, T.i_NoClosure_WrongKind, T.i_NoClosure_NoWeight, T.i_NoClosure_NoWord, T.i_NoClosure_Unlike, T.i_NoClosure_NoClosure, T.i_NoClosure_TooGreat, T.i_NoClosure_NoText, T.i_NoClosure_NoName, T.i_NoClosure_NoRow, T.i_NoClosure_ValueError⟩
  | great => exact ⟨T.e_TooGreat, T.ec_TooGreat, _, _, _, _, _, _, _, _, _, _, _, rfl, T.i_TooGreat_NoKind, T.i_TooGreat_WrongKind, T.i_TooGreat_NoWeight, T.i_TooGreat_NoWord, T.i_TooGreat_Unlike, T.i_TooGreat_NoClosure, T.i_TooGreat_TooGreat, T.i_TooGreat_NoText, T.i_TooGreat_NoName, T.i_TooGreat_NoRow, T.i_TooGreat_ValueError⟩
  | name => exact ⟨T.e_NoName, T.ec_NoName, _, _, _, _, _, _, _, _, _, _, _, rfl, T.i_NoName_NoKind, T.i_NoName_WrongKind, T.i_NoName_NoWeight, T.i_NoName_NoWord, T.i_NoName_Unlike, T.i_NoName_NoClosure, T.i_NoName_TooGreat, T.i_NoName_NoText, T.i_NoName_NoName, T.i_NoName_NoRow, T.i_NoName_ValueError⟩
end
/-- a row that the desk takes, and its end -/
def Fit (K : PySem.W.Frag) (ls : Str) (G : Str → Option Mach) (row : Str) (res : SRes) : Prop := ∃ form n k s b rest, row.length ≤ 200000 ∧ Txt.split row " " = form :: rest ∧ FormAt K form n k s b ∧ n + k ≤ 10 ∧ (b = true → n + k < rest.length) ∧ (b = false → rest.length = n + k + s) ∧
  (∀ z ∈ rest.take (n + k), NameOk z) ∧ n = res.n ∧ Said ls G form (rest.take (n + k)) (Txt.join " " (rest.drop (n + k))) res
def spTold (K : PySem.W.Frag) : Sp := fun vs H Q _ => ∃ d ls md G cnt row res, vs = [.ref d, .str row] ∧ DeskIs K H d ls md ∧ SDct H md (fun x => (G x).map dMach) cnt ∧ cnt ≤ 100 ∧ Fit K ls G row res ∧ (∀ r, res ≠ .told r) ∧
  (∀ new M, res = .put new M → ∀ H', (∀ b o, b ≠ md → H b = some o → H' b = some o) → SDct H' md (fun x => (setF G new M x).map dMach) (cnt + 1) → Q (.str "ok") H') ∧
  (∀ c, res = .no c → ∃ kk, Code kk c ∧ Refused H kk Q)
section
variable {P : Program} {w : World} {K : PySem.W.Frag} {mg : Str → Option Value} {base : Heap}
abbrev s__law_told : Stmt := top 132
theorem sc__law_told : FnScope ["_law_desk", "_law_row_here", "_law_told_here", "e", "_law_some"] ["_law_desk", "_law_row_here"] (defScope s__law_told) := ⟨rfl, rfl, rfl, by decide +kernel, rfl, by decide +kernel, by decide +kernel⟩
theorem ok__law_told (T : Txt w K mg) : Cal P w K mg base CX0 8 "_law_told" (spTold K) := by
  refine cal_ok T.d__law_told (fun _ _ _ _ _ _ us hl => match us, hl with | [_, _], _ => rfl) sc__law_told (fun vs H Q E h => ?_) (fun cdv A outer s f H vs Q E hr h => ?_)
  · obtain ⟨_, _, _, _, _, _, _, rfl, _⟩ := h; rfl
  · obtain ⟨d, ls, md, G, cnt, row, res, rfl, hd, hG, hcnt, hfit, hnt, kput, kno⟩ := h
    refine ⟨_, PSs.nox (pss_cons (ps_set (i := 2) sc__law_told.nd rfl (Or.inl rfl) pe_str)
      (pss_cons (ps_try_as (i := 3) rfl rfl sc__law_told.nd rfl rfl ⟨rfl, by decide, .inl T.g_WeighError⟩ takes0 (fun W pn xe tk _ => (pss_one (ps_set (i := 2) sc__law_told.nd rfl (Or.inl rfl) (pe_m0X (ok_Desk_say T) tk hr (by decide) (pv 0) (pa_cons (pv 1) pa_nil))))) (fun a oe cls d pn hz hf => (pss_cons (ps_set (i := 4) sc__law_told.nd rfl (Or.inl rfl) (pe_lstQ (pa_cons (pe_callB (call_isE3 hz hf) (by rfl) T.f_isinstance (by decide +kernel) (pa_cons (pv 3) (pa_cons (pe_glob (v := .ref (He.ga K "NoKind")) rfl T.g_NoKind rfl) pa_nil))) (pa_cons (pe_callB (call_isE3 hz hf) (by rfl) T.f_isinstance (by decide +kernel) (pa_cons (pv 3) (pa_cons (pe_glob (v := .ref (He.ga K "WrongKind")) rfl T.g_WrongKind rfl) pa_nil))) (pa_cons (pe_callB (call_isE3 hz hf) (by rfl) T.f_isinstance (by decide +kernel) (pa_cons (pv 3) (pa_cons (pe_glob (v := .ref (He.ga K "NoWeight")) rfl T.g_NoWeight rfl) pa_nil))) (pa_cons (pe_callB (call_isE3 hz hf) (by rfl) T.f_isinstance (by decide +kernel) (pa_cons (pv 3) (pa_cons (pe_glob (v := .ref (He.ga K "NoWord")) rfl T.g_NoWord rfl) pa_nil))) pa_nil))))))
      (pss_cons (ps_aug (i := 4) sc__law_told.nd rfl (Or.inl rfl) (pe_lstQ (pa_cons (pe_callB (call_isE3 hz hf) (by rfl) T.f_isinstance (by decide +kernel) (pa_cons (pv 3) (pa_cons (pe_glob (v := .ref (He.ga K "Unlike")) rfl T.g_Unlike rfl) pa_nil))) (pa_cons (pe_callB (call_isE3 hz hf) (by rfl) T.f_isinstance (by decide +kernel) (pa_cons (pv 3) (pa_cons (pe_glob (v := .ref (He.ga K "NoClosure")) rfl T.g_NoClosure rfl) pa_nil))) (pa_cons (pe_callB (call_isE3 hz hf) (by rfl) T.f_isinstance (by decide +kernel) (pa_cons (pv 3) (pa_cons (pe_glob (v := .ref (He.ga K "TooGreat")) rfl T.g_TooGreat rfl) pa_nil))) (pa_cons (pe_callB (call_isE3 hz hf) (by rfl) T.f_isinstance (by decide +kernel) (pa_cons (pv 3) (pa_cons (pe_glob (v := .ref (He.ga K "NoText")) rfl T.g_NoText rfl) pa_nil))) pa_nil))))) ip_ext)
      (pss_cons (ps_aug (i := 4) sc__law_told.nd rfl (Or.inl rfl) (pe_lstQ (pa_cons (pe_callB (call_isE3 hz hf) (by rfl) T.f_isinstance (by decide +kernel) (pa_cons (pv 3) (pa_cons (pe_glob (v := .ref (He.ga K "NoName")) rfl T.g_NoName rfl) pa_nil))) (pa_cons (pe_callB (call_isE3 hz hf) (by rfl) T.f_isinstance (by decide +kernel) (pa_cons (pv 3) (pa_cons (pe_glob (v := .ref (He.ga K "NoRow")) rfl T.g_NoRow rfl) pa_nil))) (pa_cons (pe_callB (call_isE3 hz hf) (by rfl) T.f_isinstance (by decide +kernel) (pa_cons (pv 3) (pa_cons (pe_bltn (v := .ty "ValueError") rfl T.f_ValueError (by decide +kernel) rfl) pa_nil))) pa_nil)))) ip_ext)
      (pss_one (ps_set (i := 2) sc__law_told.nd rfl (Or.inl rfl) (pe_tupQ (pa_cons pe_str (pa_cons (pv 4) pa_nil))))))))))
      (pss_one (ps_ret (pv 2))))), ?_⟩
    obtain ⟨form, n, k, s0, b, rest, hlen, hsp, hfm, hnk, hb1, hb2, hnm, hn, hsaid⟩ := hfit
    obtain ⟨dx, kd, hdi, hk⟩ := id hd
    refine ⟨_, rfl, d, dx, _, rfl, hdi, rfl, _, rfl, ?_⟩
    refine ⟨d, ls, md, G, cnt, row, form, n, k, s0, b, rest, res, rfl, hd, hG, hcnt, hlen, hsp, hfm, hnk, hb1, hb2, hnm, hn, hsaid, ?_, ?_, fun r e => absurd e (hnt r)⟩
    · intro new M e H' fr sd
      exact ⟨_, rfl, kput new M e H' fr sd⟩
    · intro c e H1 s1
      obtain ⟨kk, hc, kq⟩ := kno c e
      obtain ⟨hx, ec, b0, b1, b2, b3, b4, b5, b6, b7, b8, b9, b10, eb, i0, i1, i2, i3, i4, i5, i6, i7, i8, i9, i10⟩ := code_bits T hc
      refine ⟨true, hx, fun _ a ha => ?_, fun q => nomatch q⟩
      refine ⟨_, rfl, _, rfl, rfl, ec, _, _, b0, rfl, fun u h => h, i0, ?_⟩
      refine ⟨_, rfl, _, rfl, rfl, ec, _, _, b1, rfl, fun u h => h, i1, ?_⟩
      refine ⟨_, rfl, _, rfl, rfl, ec, _, _, b2, rfl, fun u h => h, i2, ?_⟩
      refine ⟨_, rfl, _, rfl, rfl, ec, _, _, b3, rfl, fun u h => h, i3, ?_⟩
      refine r_lstV (small (by simp)) fun p H2 hp s2 e2 => ?_
      refine ⟨_, rfl, ?_⟩
      refine ⟨_, rfl, _, rfl, rfl, ec, _, _, b4, rfl, fun u h => h, i4, ?_⟩
      refine ⟨_, rfl, _, rfl, rfl, ec, _, _, b5, rfl, fun u h => h, i5, ?_⟩
      refine ⟨_, rfl, _, rfl, rfl, ec, _, _, b6, rfl, fun u h => h, i6, ?_⟩
      refine ⟨_, rfl, _, rfl, rfl, ec, _, _, b7, rfl, fun u h => h, i7, ?_⟩
      refine r_lstV (small (by simp)) fun p3 H3 hp3 s3 e3 => ?_
      refine r_ext (s3 _ _ e2) e3 (small (by simp)) fun H4 k4 e4 => ?_
      refine ⟨_, rfl, ?_⟩
      refine ⟨_, rfl, _, rfl, rfl, ec, _, _, b8, rfl, fun u h => h, i8, ?_⟩
      refine ⟨_, rfl, _, rfl, rfl, ec, _, _, b9, rfl, fun u h => h, i9, ?_⟩
      refine ⟨_, rfl, _, rfl, rfl, ec, _, _, b10, rfl, fun u h => h, i10, ?_⟩
      refine r_lstV (small (by simp)) fun p5 H5 hp5 s5 e5 => ?_
      refine r_ext (s5 _ _ e4) e5 (small (by simp)) fun H6 k6 e6 => ?_
      have s16 : Same H1 H6 := fun c o ho => by
        have hne : c ≠ p := fun z => by rw [z, hp] at ho; cases ho
        exact k6 c o hne (s5 _ _ (k4 c o hne (s3 _ _ (s2 _ _ ho))))
      refine ⟨_, rfl, ?_⟩
      refine r_tup (ds := [.a (.str "refused"), .a (.ref p)]) (Reps.cons rfl (Reps.cons rfl Reps.nil)) (small (by simp)) fun v H7 s7 h7 => ?_
      refine ⟨_, rfl, kq p v H7 (s1.trans (s16.trans s7)) (same_none s1 hp) ⟨_, s7 _ _ e6, ?_⟩ h7⟩
      rw [eb]
      exact Reps.cons rfl (Reps.cons rfl (Reps.cons rfl (Reps.cons rfl (Reps.cons rfl (Reps.cons rfl (Reps.cons rfl (Reps.cons rfl (Reps.cons rfl (Reps.cons rfl (Reps.cons rfl Reps.nil))))))))))
end
end L2.Ww
set_option Elab.async false
set_option linter.all false
set_option maxRecDepth 100000
set_option maxHeartbeats 4000000
/-! The law's rows: they fit; what is kept stays right. -/
namespace L2.Ww
open PySem PySem.Spec PyProof.Rows
/-! ### a machine and what the law keeps of it -/
structure Good (ls : Str) (B : Nat) (M : Mach) (t : Trip) : Prop where
  wf : M.WF
  el : M.ls = ls
  n : t.n = M.st.length
  e : t.e = wdot M.st M.en
  val : BF.ValS (AccM M) t.r
  bd : ∀ x, t.r = .least x → x.natAbs ≤ B
theorem Good.mono {ls : Str} {B C : Nat} {M : Mach} {t : Trip} (h : Good ls B M t) (hl : B ≤ C) : Good ls C M t := ⟨h.wf, h.el, h.n, h.e, h.val, fun x e => Nat.le_trans (h.bd x e) hl⟩
def Kept (ls : Str) (B : Nat) (G : Str → Option Mach) (L : Str → Option Trip) : Prop := ∀ x, (G x = none ∧ L x = none) ∨ ∃ M t, G x = some M ∧ L x = some t ∧ Good ls B M t
theorem Kept.mono {ls : Str} {B C : Nat} {G : Str → Option Mach} {L : Str → Option Trip} (h : Kept ls B G L) (hl : B ≤ C) : Kept ls C G L := fun x => (h x).imp id fun ⟨M, t, a, b, g⟩ => ⟨M, t, a, b, g.mono hl⟩
theorem Kept.put {ls : Str} {B : Nat} {G : Str → Option Mach} {L : Str → Option Trip} (h : Kept ls B G L) {new : Str} {M : Mach} {t : Trip} (g : Good ls B M t) : Kept ls B (setF G new M) (setF L new t) := fun x => by
  unfold setF
  by_cases e : x = new
  · rw [if_pos e, if_pos e]; exact .inr ⟨M, t, rfl, rfl, g⟩
  · rw [if_neg e, if_neg e]; exact h x
theorem scaleR_some (x : Int) (r : BF.R) : scaleR (some x) r = BF.shiftR x r := by cases r <;> rfl
theorem addR_min (r q : BF.R) : addR r q = BF.minR r q := by cases r <;> cases q <;> rfl
theorem joinR_sum (r q : BF.R) : joinR r q = BF.sumR r q := by cases r <;> cases q <;> rfl
theorem closeR_star (r : BF.R) : closeR r = BF.starR r := by cases r <;> rfl
def stepB (B : Nat) : Nat := 2 * B + 10 ^ 30
theorem Good.scale {ls : Str} {B : Nat} {M : Mach} {t : Trip} (h : Good ls B M t) {x : Wt} (hx : WDr x) : Good ls (stepB B) (mScale x M) (tScale x t) := by
  refine ⟨mScale_wf h.wf x, h.el, h.n.trans (mScale_len M x).symm, ?_, ?_, ?_⟩
  · show wtimes t.e x = _
    rw [mScale_dot, h.e]
  · cases x with
    | none => exact mScale_none M
    | some x =>
      show BF.ValS _ (scaleR (some x) t.r)
      rw [scaleR_some]
      exact mScale_some M x h.val
  · intro y e
    cases x with
    | none => cases e
    | some x =>
      have e' : scaleR (some x) t.r = .least y := e
      cases hr : t.r with
      | none => rw [hr] at e'; cases e'
      | falls => rw [hr] at e'; cases e'
      | least w =>
        rw [hr] at e'
        have e2 : w + x = y := by injection e'
        have := h.bd w hr
        have := hx x rfl
        have : 8 * (10 ^ 27 + 1) ≤ 10 ^ 30 := by decide
        unfold stepB
        omega
theorem Good.turn {ls : Str} {B : Nat} {M : Mach} {t : Trip} (h : Good ls B M t) : Good ls (stepB B) (mTurn M) t :=
  ⟨mTurn_wf h.wf, h.el, h.n.trans h.wf.ends.symm, h.e.trans (mTurn_dot M).symm, mTurn_val h.wf h.val, fun x e => Nat.le_trans (h.bd x e) (by unfold stepB; omega)⟩
theorem Good.add {ls : Str} {B : Nat} {M N : Mach} {s t : Trip} (h : Good ls B M s) (k : Good ls B N t) (h20 : M.st.length + N.st.length ≤ 20) : Good ls (stepB B) (mAdd M N) (tAdd s t) := by
  have el : M.ls = N.ls := h.el.trans k.el.symm
  refine ⟨mAdd_wf h.wf k.wf el h20, h.el, ?_, ?_, ?_, ?_⟩
  · show s.n + t.n = (M.st ++ N.st).length
    rw [List.length_append, h.n, k.n]
  · show wplus s.e t.e = _
    rw [mAdd_dot h.wf, h.e, k.e]
  · show BF.ValS _ (addR s.r t.r)
    rw [addR_min]
    exact mAdd_val h.wf k.wf el h.val k.val
  · intro y e
    have e' : addR s.r t.r = .least y := e
    have hb : y.natAbs ≤ B := by
      cases hr : s.r with
      | falls => rw [hr] at e'; cases e'
      | none =>
        rw [hr] at e'
        cases hq : t.r with
        | falls => rw [hq] at e'; cases e'
        | none => rw [hq] at e'; cases e'
        | least z => rw [hq] at e'; have e2 : z = y := by injection e'
                     rw [← e2]; exact k.bd z hq
      | least w =>
        rw [hr] at e'
        cases hq : t.r with
        | falls => rw [hq] at e'; cases e'
        | none => rw [hq] at e'; have e2 : w = y := by injection e'
                  rw [← e2]; exact h.bd w hr
        | least z =>
          rw [hq] at e'
          have e2 : (if z < w then z else w) = y := by injection e'
          by_cases l : z < w
          · rw [if_pos l] at e2; rw [← e2]; exact k.bd z hq
          · rw [if_neg l] at e2; rw [← e2]; exact h.bd w hr
    unfold stepB
    omega
theorem Good.join {ls : Str} {B : Nat} {M N : Mach} {s t : Trip} (h : Good ls B M s) (k : Good ls B N t) (h20 : M.st.length + N.st.length ≤ 20) : Good ls (stepB B) (mJoin M N) (tJoin s t) := by
  have el : M.ls = N.ls := h.el.trans k.el.symm
  refine ⟨mJoin_wf h.wf k.wf el h20, h.el, ?_, ?_, ?_, ?_⟩
  · show s.n + t.n = (M.st ++ N.st.map _).length
    rw [List.length_append, List.length_map, h.n, k.n]
  · show wtimes s.e t.e = _
    rw [mJoin_dot, h.e, k.e]
  · show BF.ValS _ (joinR s.r t.r)
    rw [joinR_sum]
    exact mJoin_val h.wf k.wf el h.val k.val
  · intro y e
    have e' : joinR s.r t.r = .least y := e
    cases hr : s.r with
    | none => rw [hr] at e'; cases e'
    | falls =>
      rw [hr] at e'
      cases hq : t.r with
      | falls => rw [hq] at e'; cases e'
      | none => rw [hq] at e'; cases e'
      | least z => rw [hq] at e'; cases e'
    | least w =>
      rw [hr] at e'
      cases hq : t.r with
      | falls => rw [hq] at e'; cases e'
      | none => rw [hq] at e'; cases e'
      | least z =>
        rw [hq] at e'
        have e2 : w + z = y := by injection e'
        have := h.bd w hr
        have := k.bd z hq
        unfold stepB
        omega
theorem Good.close {ls : Str} {B : Nat} {M : Mach} {t : Trip} (h : Good ls B M t) (he : t.e = none) (h20 : M.st.length + 1 ≤ 20) : Good ls (stepB B) (mClose M) ⟨t.n + 1, closeR t.r, some 0⟩ := by
  have hd : wdot M.st M.en = none := h.e.symm.trans he
  refine ⟨mClose_wf h.wf h20, h.el, ?_, (mClose_dot h.wf hd).symm, ?_, ?_⟩
  · show t.n + 1 = (M.st ++ [some 0]).length
    rw [List.length_append, h.n]; rfl
  · show BF.ValS _ (closeR t.r)
    rw [closeR_star]
    exact mClose_val h.wf hd h.val
  · intro y e
    have e' : closeR t.r = .least y := e
    have : y = 0 := by
      cases hr : t.r with
      | none => rw [hr] at e'; injection e' with e2; exact e2.symm
      | falls => rw [hr] at e'; cases e'
      | least w =>
        rw [hr] at e'
        have e2 : (if w < 0 then BF.R.falls else .least 0) = .least y := e'
        by_cases l : w < 0
        · rw [if_pos l] at e2; cases e2
        · rw [if_neg l] at e2; injection e2 with e3; exact e3.symm
    subst this
    exact Nat.zero_le _
theorem Good.say {ls w : Str} {B : Nat} (hl : ls.length ≤ 3) (hw : WordOk ls w) : Good ls B (mSingle ls w) ⟨w.length + 1, .least 0, if w.length = 0 then some 0 else none⟩ :=
  ⟨mSingle_wf hl hw.le3, rfl, (mSingle_len ls w).symm, (mSingle_dot ls w).symm, mSingle_val hw.inl, fun x e => by injection e with e2; rw [← e2]; exact Nat.zero_le _⟩
theorem MB_of {M : Mach} {B : Nat} (h1 : ∀ x ∈ M.st, ∀ y, x = some y → y.natAbs ≤ B) (h2 : ∀ t ∈ M.tabs, ∀ r ∈ t, ∀ x ∈ r, ∀ y, x = some y → y.natAbs ≤ B) (h3 : ∀ x ∈ M.en, ∀ y, x = some y → y.natAbs ≤ B) : MB M B :=
  ⟨fun i a h => h1 _ (List.mem_of_getElem? (stF_some.mp h)) a rfl, fun i j c ⟨k, t, hk, he⟩ => by
    obtain ⟨r, h4, h5⟩ := entry_some.mp he
    exact h2 t (List.mem_of_getElem? hk) r (List.mem_of_getElem? h4) _ (List.mem_of_getElem? (stF_some.mp h5)) c rfl, fun i a h => h3 _ (List.mem_of_getElem? (stF_some.mp h)) a rfl⟩
/-! ### rows -/
theorem str_assoc (a b c : Str) : a ++ b ++ c = a ++ (b ++ c) := TL.ext_tl (by rw [TL.tl_append, TL.tl_append, TL.tl_append, TL.tl_append, List.append_assoc])
theorem NameOk.free {z : Str} (h : NameOk z) : 32 ∉ TL.tl z := fun hm => by have := h.small 32 hm; omega
theorem wS_free (x : Wt) : 32 ∉ TL.tl (wS x) := fun hm => by have := wS_mem hm; omega
theorem join_nil : Txt.join " " [] = ("" : Str) := rfl
section
variable {K : PySem.W.Frag} {ls : Str} {G : Str → Option Mach} {row form new text : Str} {res : SRes}
theorem fit_tail (hf : FormAt K form 1 0 0 true) (h32 : 32 ∉ TL.tl form) (hn : NameOk new) (hl : row.length ≤ 200000) (e : row = form ++ " " ++ (new ++ " " ++ text)) (hr : 1 = res.n) (hs : Said ls G form [new] text res) : Fit K ls G row res := by
  refine ⟨form, 1, 0, 0, true, new :: Txt.split text " ", hl, ?_, hf, by decide, fun _ => ?_, fun h => (by cases h), ?_, hr, ?_⟩
  · rw [e, split_cons h32, split_cons hn.free]
  · have := split_ne text
    cases hsp : Txt.split text " " with
    | nil => exact absurd hsp this
    | cons a l => simp
  · intro z hz
    cases List.mem_singleton.mp hz; exact hn
  · show Said ls G form [new] (Txt.join " " (Txt.split text " ")) res
    rw [join_split]; exact hs
theorem fit_words {ws : List Str} {n k s : Nat} (hf : FormAt K form n k s false) (hl : row.length ≤ 200000) (e : Txt.split row " " = form :: ws) (hnk : n + k ≤ 10) (hlen : ws.length = n + k + s) (hnm : ∀ z ∈ ws.take (n + k), NameOk z) (hr : n = res.n)
    (hs : Said ls G form (ws.take (n + k)) (Txt.join " " (ws.drop (n + k))) res) : Fit K ls G row res :=
  ⟨form, n, k, s, false, ws, hl, e, hf, hnk, fun h => (by cases h), fun _ => hlen, hnm, hr, hs⟩
theorem split3 {a b c : Str} (ha : 32 ∉ TL.tl a) (hb : 32 ∉ TL.tl b) (hc : 32 ∉ TL.tl c) : Txt.split (a ++ " " ++ b ++ " " ++ c) " " = [a, b, c] := by
  rw [show a ++ " " ++ b ++ " " ++ c = a ++ " " ++ (b ++ " " ++ c) by rw [str_assoc (a ++ " ") b, str_assoc (a ++ " ")], split_cons ha, split_cons hb, split_one hc]
theorem split4 {a b c d : Str} (ha : 32 ∉ TL.tl a) (hb : 32 ∉ TL.tl b) (hc : 32 ∉ TL.tl c) (hd : 32 ∉ TL.tl d) : Txt.split (a ++ " " ++ b ++ " " ++ c ++ " " ++ d) " " = [a, b, c, d] := by
  rw [show a ++ " " ++ b ++ " " ++ c ++ " " ++ d = a ++ " " ++ (b ++ " " ++ (c ++ " " ++ d)) by simp only [str_assoc], split_cons ha, split_cons hb, split_cons hc, split_one hd]
theorem len_app (a b : Str) : (a ++ b).length = a.length + b.length := by rw [TL.len_tl (a ++ b), TL.len_tl a, TL.len_tl b, TL.tl_append, List.length_append]
theorem split2 {a b : Str} (ha : 32 ∉ TL.tl a) (hb : 32 ∉ TL.tl b) : Txt.split (a ++ " " ++ b) " " = [a, b] := by rw [split_cons ha, split_one hb]
end
/-! ### the law's made machines -/
section
variable {P : Program} {w : World} {K : PySem.W.Frag} {mg : Str → Option Value} {base : Heap}
theorem fit_say (T : Txt w K mg) {ls wd new : Str} {G : Str → Option Mach} (hL : LetOk ls) (hw : WordOk ls wd) (hn : NameOk new) : Fit K ls G ("say" ++ " " ++ (new ++ " " ++ ("word " ++ wordT wd))) (.put new (mSingle ls wd)) := by
  refine fit_tail T.v_FORMS_say (by decide +kernel) hn ?_ rfl rfl (.put rfl (.say hL hw))
  have h1 : (wordT wd).length ≤ 3 := by unfold wordT; split; decide; exact hw.le3
  have h2 := hn.le8
  rw [len_app, len_app, len_app, len_app, len_app]
  have e1 : ("say" : Str).length = 3 := by decide +kernel
  have e2 : (" " : Str).length = 1 := len_sp
  have e3 : ("word " : Str).length = 5 := by decide +kernel
  omega
theorem fit_read (T : Txt w K mg) {ls new : Str} {M : Mach} {G : Str → Option Mach} (wM : M.WF) (hL : LetOk M.ls) (hW : MWOk M) (el : M.ls = ls) (hn : NameOk new) (hl : (machS M).length ≤ 100000) : Fit K ls G ("read" ++ " " ++ (new ++ " " ++ machS M)) (.put new M) := by
  refine fit_tail T.v_FORMS_read (by decide +kernel) hn ?_ rfl rfl (.put rfl (.read wM hL hW el))
  have h2 := hn.le8
  rw [len_app, len_app, len_app, len_app]
  have e1 : ("read" : Str).length = 4 := by decide +kernel
  have e2 : (" " : Str).length = 1 := len_sp
  omega
theorem len3 {a b c : Str} (ha : a.length ≤ 100) (hb : b.length ≤ 100) (hc : c.length ≤ 100) : (a ++ " " ++ b ++ " " ++ c).length ≤ 1000 := by
  rw [len_app, len_app, len_app, len_app]
  have e2 : (" " : Str).length = 1 := len_sp
  omega
theorem len4 {a b c d : Str} (ha : a.length ≤ 100) (hb : b.length ≤ 100) (hc : c.length ≤ 100) (hd : d.length ≤ 100) : (a ++ " " ++ b ++ " " ++ c ++ " " ++ d).length ≤ 2000 := by
  have := len3 ha hb hc
  rw [len_app, len_app]
  have e2 : (" " : Str).length = 1 := len_sp
  omega
theorem NameOk.short {z : Str} (h : NameOk z) : z.length ≤ 100 := Nat.le_trans h.le8 (by decide)
/-- scale, told -/
theorem fit_scale (T : Txt w K mg) {ls new one : Str} {x : Wt} {G : Str → Option Mach} (hx : WDr x) (hn : NameOk new) (ho : NameOk one) {res : SRes} (hr : 1 = res.n) (hs : Said ls G "scale" [new, one] (wS x) res) : Fit K ls G ("scale" ++ " " ++ new ++ " " ++ one ++ " " ++ wS x) res := by
  have hl : (wS x).length ≤ 100 := Nat.le_trans (wS_len hx.ok) (by decide)
  refine fit_words (n := 1) (k := 1) (s := 1) T.v_FORMS_scale (Nat.le_trans (len4 (by decide +kernel) hn.short ho.short hl) (by decide)) (split4 (by decide +kernel) hn.free ho.free (wS_free x)) (by decide) rfl (fun z hz => ?_) hr hs
  have : z ∈ [new, one] := hz
  simp only [List.mem_cons, List.not_mem_nil, or_false] at this
  rcases this with rfl | rfl
  · exact hn
  · exact ho
theorem fit_one {form : Str} (hf : FormAt K form 1 1 0 false) (hfl : form.length ≤ 100) (h32 : 32 ∉ TL.tl form) {ls new one : Str} {G : Str → Option Mach} (hn : NameOk new) (ho : NameOk one) {res : SRes} (hr : 1 = res.n) (hs : Said ls G form [new, one] "" res) : Fit K ls G (form ++ " " ++ new ++ " " ++ one) res := by
  refine fit_words (n := 1) (k := 1) (s := 0) hf (Nat.le_trans (len3 hfl hn.short ho.short) (by decide)) (split3 h32 hn.free ho.free) (by decide) rfl (fun z hz => ?_) hr hs
  have : z ∈ [new, one] := hz
  simp only [List.mem_cons, List.not_mem_nil, or_false] at this
  rcases this with rfl | rfl
  · exact hn
  · exact ho
theorem fit_two {form : Str} (hf : FormAt K form 1 2 0 false) (hfl : form.length ≤ 100) (h32 : 32 ∉ TL.tl form) {ls new one other : Str} {G : Str → Option Mach} (hn : NameOk new) (ho : NameOk one) (ht : NameOk other) {res : SRes} (hr : 1 = res.n)
    (hs : Said ls G form [new, one, other] "" res) : Fit K ls G (form ++ " " ++ new ++ " " ++ one ++ " " ++ other) res := by
  refine fit_words (n := 1) (k := 2) (s := 0) hf (Nat.le_trans (len4 hfl hn.short ho.short ht.short) (by decide)) (split4 h32 hn.free ho.free ht.free) (by decide) rfl (fun z hz => ?_) hr hs
  have : z ∈ [new, one, other] := hz
  simp only [List.mem_cons, List.not_mem_nil, or_false] at this
  rcases this with rfl | rfl | rfl
  · exact hn
  · exact ho
  · exact ht
/-- cheapest, asked -/
theorem fit_cheap (T : Txt w K mg) {ls one : Str} {G : Str → Option Mach} (ho : NameOk one) {r : BF.R} (hs : Said ls G "cheapest" [one] "" (.told r)) : Fit K ls G ("cheapest" ++ " " ++ one) (.told r) := by
  refine fit_words (n := 0) (k := 1) (s := 0) T.v_FORMS_cheapest ?_ (split2 (by decide +kernel) ho.free) (by decide) rfl (fun z hz => ?_) rfl hs
  · rw [len_app, len_app]
    have e1 : ("cheapest" : Str).length = 8 := by decide +kernel
    have e2 : (" " : Str).length = 1 := len_sp
    have := ho.le8
    omega
  · have : z ∈ [one] := hz
    simp only [List.mem_cons, List.not_mem_nil, or_false] at this
    subst this
    exact ho
end
/-- what is told of a made machine: kept or refused -/
inductive Got (ls : Str) (B : Nat) : MRes → LRes → Prop
  | ok {M : Mach} {t : Trip} : Good ls B M t → Got ls B (.ok M) (.ok t)
  | no {k : Nat} {c : Str} : Code k c → Got ls B (.no c) (.no k)
theorem got_made {ls : Str} {B : Nat} {form : Str} {A C : Mach} {s t : Trip} (hA : Good ls B A s) (hC : Good ls B C t) (hf : form = "add" ∨ form = "join") : ∃ m r, Made ls form [A, C] "" m ∧ LM form s t r ∧ Got ls (stepB B) m r := by
  have el : A.ls = C.ls := hA.el.trans hC.el.symm
  have en : s.n + t.n = A.st.length + C.st.length := by rw [hA.n, hC.n]
  by_cases h : A.st.length + C.st.length ≤ 20
  · rcases hf with rfl | rfl
    · exact ⟨_, _, .add hA.wf hC.wf el h, .add (by omega), .ok (hA.add hC h)⟩
    · exact ⟨_, _, .join hA.wf hC.wf el h, .join (by omega), .ok (hA.join hC h)⟩
  · rcases hf with rfl | rfl
    · exact ⟨_, _, .addN hA.wf hC.wf el (by omega), .addN (by omega), .no .great⟩
    · exact ⟨_, _, .joinN hA.wf hC.wf el (by omega), .joinN (by omega), .no .great⟩
theorem got_one {ls : Str} {B : Nat} {form : Str} {A : Mach} {s t : Trip} (hA : Good ls B A s) (hf : form = "turn" ∨ form = "close") : ∃ m r, Made ls form [A] "" m ∧ LM form s t r ∧ Got ls (stepB B) m r := by
  rcases hf with rfl | rfl
  · exact ⟨_, _, .turn hA.wf, .turn, .ok hA.turn⟩
  · by_cases he : s.e = none
    · have hd : wdot A.st A.en = none := hA.e.symm.trans he
      have := hA.n
      by_cases h : A.st.length + 1 ≤ 20
      · exact ⟨_, _, .close hA.wf hd h, .close he (by omega), .ok (hA.close he h)⟩
      · exact ⟨_, _, .closeN hA.wf hd (by omega), .closeN he (by omega), .no .great⟩
    · exact ⟨_, _, .closeE hA.wf (by rw [← hA.e]; exact he), .closeE he, .no .clo⟩
end L2.Ww
set_option Elab.async false
set_option linter.all false
set_option maxRecDepth 100000
set_option maxHeartbeats 4000000
/-! The law: a row drawn. -/
namespace L2.Ww
open PySem PySem.Spec PyProof.Rows
theorem SDct.fr {sp : Addr} {H H' : Hp} {p : Addr} {F : Str → Option D} {n : Nat} (h : SDct H p F n) (hs : StAt H sp) (f : FrS sp H H') (hp : p ≠ sp) : SDct H' p F n := by
  obtain ⟨kvs, e1, _⟩ := id h
  exact h.up ((f.1 p _ hp e1).trans e1.symm) (f.tup hs)
theorem lc_st {n : Nat} {sp : Addr} {H0 : Hp} {Dd : Addr} (hs0 : StAt H0 sp) (hD : H0 Dd = none) (hn : n ≤ sizeLine) (R : Str → Prop) {g : TG} {tt : TT} {te : TE} {vs : List Nat} {σ : St} {Qd : Hp → Prop}
    (hs : ∀ (i : Nat) H, i < n → FrS sp H0 H → ∀ (Kf : Hp → Prop) (Kt : V → Hp → Prop), (∀ z H4, FrS sp H H4 → R z → Kt (.str z) H4) →
      g (.int (i : Int)) (wipe σ vs) H fun σ2 H2 => wipe σ2 vs = wipe σ vs ∧ tt σ2 H2 fun b H3 => if b = true then te σ2 H3 Kt else Kf H3)
    (hd : ∀ Hf (zs : List Str), FrS sp H0 Hf → zs.length = n → (∀ z ∈ zs, R z) → Hf Dd = some (.lst (zs.map V.str)) → Qd Hf) :
    ∃ W : Nat → Nat → Hp → Prop, (∃ m, W 0 m (upd H0 Dd (.lst []))) ∧ ∀ i m H, W i m H →
      ((Itr 0 n).stop i H ∧ Qd H) ∨ ((Itr 0 n).go i H ∧ ∃ Nx : Hp → Prop, (∀ H', Nx H' → ∃ m', m' < m ∧ W (i + 1) m' H') ∧ ∀ x H', (Itr 0 n).yld i H x H' → g x (wipe σ vs) H' fun σ2 H2 => wipe σ2 vs = wipe σ vs ∧ tt σ2 H2 fun b H3 =>
        if b = true then te σ2 H3 fun y H4 => ∃ acc, H4 Dd = some (.lst acc) ∧ acc.length < sizeLine ∧ Nx (upd H4 Dd (.lst (acc ++ [y]))) else Nx H3) := by
  have hne : Dd ≠ sp := hs0.ne hD
  refine lc_it (Qd := Qd) (walk_range0 (n := n)) (fun i H => ∃ zs, FrS sp H0 H ∧ zs.length = i ∧ (∀ z ∈ zs, R z) ∧ H Dd = some (.lst (zs.map V.str))) ⟨[], FrS.of hs0 (Same.upd' hD), rfl, fun z hz => (nomatch hz), upd_same⟩ (fun _ _ _ _ => trivial) ?_ (fun H ⟨zs, f, hl, hr, e⟩ => hd H zs f hl hr e)
  rintro i x H H' hi ⟨zs, f, hl, hr, e⟩ ⟨rfl, rfl⟩
  refine hs i H' hi f _ _ fun z H4 f4 hz => ?_
  have e4 := f4.1 Dd _ hne e
  refine ⟨_, e4, by rw [List.length_map]; omega, zs ++ [z], (f.trans f4).write hs0 hD fun b hb => upd_ne hb, by rw [List.length_append, hl]; rfl, all_snoc hr hz, ?_⟩
  rw [List.map_append]
  exact upd_same
theorem lst_of_strs {H : Hp} {p : Addr} {zs : List Str} (h : H p = some (.lst (zs.map V.str))) : LstAt H p (strsD zs) := ⟨_, h, by unfold strsD; rw [show (zs.map fun z => D.a (.str z)) = (zs.map V.str).map D.a by rw [List.map_map] <;> rfl]; exact Reps.atoms.mpr rfl⟩
theorem tup_strs {H : Hp} {zs : List Str} {v : V} (h : Rep H (.t (strsD zs)) v) : ∃ p, v = .ref p ∧ H p = some (.tup (zs.map V.str)) := by
  obtain ⟨p, vs, rfl, hp, r⟩ := h
  unfold strsD at r
  rw [show (zs.map fun z => D.a (.str z)) = (zs.map V.str).map D.a by rw [List.map_map] <;> rfl, Reps.atoms] at r
  subst r
  exact ⟨p, rfl, hp⟩
theorem mach_len {M : Mach} (wM : M.WF) (hW : MWOk M) : (machS M).length ≤ 77058 := by
  have hn20 := wM.few
  have hen := wM.ends
  have htl : M.tabs.length ≤ 3 := by rw [wM.lt]; exact wM.let3
  have h3 := wM.let3
  have hst31 := line_len hW.st hn20
  have hen31 := line_len hW.en (by omega)
  have htab : ∀ t ∈ M.tabs, (tabS t).length ≤ 12840 := fun t ht => tab_len (n := 0) (fun r hr => ⟨by rw [wM.cols t ht r hr]; exact hn20, hW.tabs t ht r hr⟩) (by rw [wM.rows t ht]; exact hn20)
  generalize hps : ([M.ls, lineS M.st] ++ M.tabs.map tabS) ++ [lineS M.en] = ps
  have hpsl : ps.length = M.tabs.length + 3 := by rw [← hps]; simp
  have := join_len " | " 12840 ps fun p hp => by
    rw [← hps] at hp
    simp only [List.cons_append, List.nil_append, List.mem_cons, List.mem_append, List.mem_map, List.not_mem_nil, or_false] at hp
    rcases hp with rfl | rfl | ⟨t, ht, rfl⟩ | rfl
    · omega
    · omega
    · exact htab t ht
    · omega
  rw [len_bar, hpsl] at this
  unfold machS
  rw [hps]
  have h2 : (M.tabs.length + 3) * (12840 + 3) ≤ 6 * (12840 + 3) := Nat.mul_le_mul_right _ (by omega)
  omega
def formOf (x : Nat) : Str := (["read", "scale", "add", "join", "turn", "close", "read", "add", "say"][x]?).getD "say"
inductive Form : Str → Prop
  | read : Form "read"
  | say : Form "say"
  | scale : Form "scale"
  | add : Form "add"
  | join : Form "join"
  | turn : Form "turn"
  | close : Form "close"
theorem form_of {x : Nat} (h : x < 9) : Form (formOf x) := by
  have : x = 0 ∨ x = 1 ∨ x = 2 ∨ x = 3 ∨ x = 4 ∨ x = 5 ∨ x = 6 ∨ x = 7 ∨ x = 8 := by omega
  rcases this with rfl | rfl | rfl | rfl | rfl | rfl | rfl | rfl | rfl
  · exact .read
  · exact .scale
  · exact .add
  · exact .join
  · exact .turn
  · exact .close
  · exact .read
  · exact .add
  · exact .say
/-- the row, the name and what is due, told -/
def RowK (K : PySem.W.Frag) (sp : Addr) (ls : Str) (B : Nat) (G : Str → Option Mach) (H : Hp) (Q : VK) : Prop :=
  (∀ H' row new M t v, FrS sp H H' → NameOk new → Fit K ls G row (.put new M) → Good ls (stepB B) M t → Rep H' (.t [.a (.str row), .a (.str new), dTrip t]) v → Q v H') ∧
  ∀ H' row new kk c p v, FrS sp H H' → Code kk c → Fit K ls G row (.no c) → LstAt H' p ((bitsOf kk).map fun b => D.a (.bl b)) → p ≠ sp → H p = none → Rep H' (.t [.a (.str row), .a (.str new), .t [.a (.str "refused"), .a (.ref p)]]) v → Q v H'
def spLRow (K : PySem.W.Frag) : Sp := fun vs H Q _ => ∃ sp ls np kp names B G L cnt, vs = [.ref sp, .str ls, .ref np, .ref kp] ∧ StAt H sp ∧ LetOk ls ∧ LstAt H np (strsD names) ∧ np ≠ sp ∧ names ≠ [] ∧ names.length ≤ 9 ∧ (∀ z ∈ names, NameOk z) ∧
  SDct H kp (fun x => (L x).map dTrip) cnt ∧ kp ≠ sp ∧ Kept ls B G L ∧ RowK K sp ls B G H Q
theorem form_ne {f a : Str} (h : f ≠ a) : decide (V.str f = V.str a) = false := decide_eq_false fun e => h (by injection e)
section
variable {P : Program} {w : World} {K : PySem.W.Frag} {mg : Str → Option Value} {base : Heap}
abbrev s__law_row : Stmt := top 143
theorem sc__law_row : FnScope ["_law_state_here", "_law_letters_here", "_law_names", "_law_kept", "_law_form", "_law_new", "_law_one", "_law_other", "_law_machine", "_law_word", "_law_row_here", "_law_x", "_law_k"] ["_law_state_here", "_law_letters_here", "_law_names", "_law_kept"] (defScope s__law_row) := ⟨rfl, rfl, rfl, by decide +kernel, rfl, by decide +kernel, by decide +kernel⟩
theorem ok__law_row (T : Txt w K mg) : Cal P w K mg base CX0 5 "_law_row" (spLRow K) := by
  refine cal_ok T.d__law_row (fun _ _ _ _ _ _ us hl => match us, hl with | [_, _, _, _], _ => rfl) sc__law_row (fun vs H Q E h => ?_) (fun cdv A outer s f H vs Q E hr h => ?_)
  · obtain ⟨_, _, _, _, _, _, _, _, _, rfl, _⟩ := h; rfl
  · obtain ⟨sp, ls, np, kp, names, B, G, L, cnt, rfl, hs, hL, hnp, hnpn, hne, hn9, hno, hkp, hkpn, hk, k⟩ := h
    refine ⟨_, PSs.nox (pss_cons (ps_set (i := 4) sc__law_row.nd rfl (Or.inl rfl) (pe_ix (ix_listQ K) (pe_lstQ (pa_cons pe_str (pa_cons pe_str (pa_cons pe_str (pa_cons pe_str (pa_cons pe_str (pa_cons pe_str (pa_cons pe_str (pa_cons pe_str (pa_cons pe_str pa_nil)))))))))) (pe_c0 (ok__law_next T) hr (by decide) rfl (pa_cons (pv 0) (pa_cons pe_int pa_nil))) (fun _ _ => rfl)))
      (pss_cons (ps_asg (pe_lc (own := [("_law_k", 12)]) rfl sc__law_row.nd (pi_range1 rfl T.f_range (pa_cons pe_int pa_nil)) (blkOk_by (own := [("_law_k", 12)]) (N := ["_law_state_here", "_law_letters_here", "_law_names", "_law_kept", "_law_form", "_law_new", "_law_one", "_law_other", "_law_machine", "_law_word", "_law_row_here", "_law_x", "_law_k"]) (sc := defScope s__law_row) (by decide +kernel)) (fun _ _ _ _ _ => (pg_name (i := 12) sc__law_row.nd rfl (Or.inl rfl))) (fun _ _ _ _ _ => pts_nil) (fun _ _ _ _ _ => (pe_ix (ix_listQ K) (pv 2) (pe_c0 (ok__law_next T) hr (by decide) rfl (pa_cons (pv 0) (pa_cons (pe_callB (call_lenQ K) (by rfl) T.f_len PySem.boot_len (pa_cons (pv 2) pa_nil)) pa_nil))) (fun _ _ => rfl)))) (pg_lst (n := 3) rfl (pgs_cons (pg_name (i := 5) sc__law_row.nd rfl (Or.inl rfl)) (pgs_cons (pg_name (i := 6) sc__law_row.nd rfl (Or.inl rfl)) (pgs_cons (pg_name (i := 7) sc__law_row.nd rfl (Or.inl rfl)) pgs_nil)))))
      (pss_cons (ps_if (pt_cmpR op_eq (pv 4) pe_str (nomark _)) (pss_cons (ps_set (i := 8) sc__law_row.nd rfl (Or.inl rfl) (pe_c0 (ok__law_any_machine T) hr (by decide) rfl (pa_cons (pv 0) (pa_cons (pv 1) (pa_cons (pe_c0 (ok__law_rooms T) hr (by decide) rfl (pa_cons (pv 0) (pa_cons pe_int (pa_cons pe_int pa_nil)))) (pa_cons (pe_op op_add pe_int (pe_c0 (ok__law_next T) hr (by decide) rfl (pa_cons (pv 0) (pa_cons pe_int pa_nil)))) pa_nil))))))
      (pss_one (ps_ret (pe_tupQ (pa_cons (pe_op op_add_str (pe_op op_add_str (pe_op op_add_str pe_str (pv 5)) pe_str) (pe_c0 (ok__law_text T) hr (by decide) rfl (pa_cons (pv 8) pa_nil))) (pa_cons (pv 5) (pa_cons (pe_c0 (ok__law_read_in T) hr (by decide) rfl (pa_cons (pv 8) pa_nil)) pa_nil))))))) pss_nil)
      (pss_cons (ps_if (pt_cmpR op_eq (pv 4) pe_str (nomark _)) (pss_cons (ps_set (i := 9) sc__law_row.nd rfl (Or.inl rfl) (pe_join pe_str (pe_lc (own := [("_law_k", 12)]) rfl sc__law_row.nd (pi_range1 rfl T.f_range (pa_cons (pe_c0 (ok__law_next T) hr (by decide) rfl (pa_cons (pv 0) (pa_cons pe_int pa_nil))) pa_nil)) (blkOk_by (own := [("_law_k", 12)]) (N := ["_law_state_here", "_law_letters_here", "_law_names", "_law_kept", "_law_form", "_law_new", "_law_one", "_law_other", "_law_machine", "_law_word", "_law_row_here", "_law_x", "_law_k"]) (sc := defScope s__law_row) (by decide +kernel)) (fun _ _ _ _ _ => (pg_name (i := 12) sc__law_row.nd rfl (Or.inl rfl))) (fun _ _ _ _ _ => pts_nil) (fun _ _ _ _ _ => (pe_ix ix_str (pv 1) (pe_c0 (ok__law_next T) hr (by decide) rfl (pa_cons (pv 0) (pa_cons (pe_callB call_len_str (by rfl) T.f_len PySem.boot_len (pa_cons (pv 1) pa_nil)) pa_nil))) (fun _ _ => rfl))))))
      (pss_cons (ps_if (pt_cmpR op_eq (pv 9) pe_str (nomark _)) (pss_one (ps_ret (pe_tupQ (pa_cons (pe_op op_add_str (pe_op op_add_str pe_str (pv 5)) pe_str) (pa_cons (pv 5) (pa_cons (pe_tupQ (pa_cons pe_int (pa_cons pe_int (pa_cons pe_int pa_nil)))) pa_nil)))))) pss_nil)
      (pss_one (ps_ret (pe_tupQ (pa_cons (pe_op op_add_str (pe_op op_add_str (pe_op op_add_str pe_str (pv 5)) pe_str) (pv 9)) (pa_cons (pv 5) (pa_cons (pe_tupQ (pa_cons (pe_op op_add (pe_callB call_len_str (by rfl) T.f_len PySem.boot_len (pa_cons (pv 9) pa_nil)) pe_int) (pa_cons pe_int (pa_cons pe_non pa_nil)))) pa_nil)))))))) pss_nil)
      (pss_cons (ps_set (i := 10) sc__law_row.nd rfl (Or.inl rfl) (pe_op op_add_str (pe_op op_add_str (pe_op op_add_str (pe_op op_add_str (pv 4) pe_str) (pv 5)) pe_str) (pv 6)))
      (pss_cons (ps_set (i := 11) sc__law_row.nd rfl (Or.inl rfl) (pe_ix (ix_tupQ K) (pe_c0 (ok__law_costs T) hr (by decide) rfl (pa_cons (pv 0) (pa_cons (pe_c0 (ok__law_far T) hr (by decide) rfl (pa_cons (pv 0) pa_nil)) (pa_cons pe_int pa_nil)))) pe_int (fun _ _ => rfl)))
      (pss_cons (ps_if (pt_cmpR op_eq (pv 4) pe_str (nomark _)) (pss_one (ps_set (i := 10) sc__law_row.nd rfl (Or.inl rfl) (pe_op op_add_str (pe_op op_add_str (pv 10) pe_str) (pe_c0 (ok__law_shown T) hr (by decide) rfl (pa_cons (pv 11) pa_nil))))) pss_nil)
      (pss_cons (ps_if (pt_cmpR (op_in_seqQ K) (pv 4) (pe_tupQ (pa_cons pe_str (pa_cons pe_str pa_nil))) (by rfl)) (pss_one (ps_set (i := 10) sc__law_row.nd rfl (Or.inl rfl) (pe_op op_add_str (pe_op op_add_str (pv 10) pe_str) (pv 7)))) (pss_one (ps_set (i := 7) sc__law_row.nd rfl (Or.inl rfl) (pv 6))))
      (pss_cons (ps_if (PW.pt (pw_or (pt_cmp (pc_dnotin (hu_of hr) (pv 6) (pv 3))) (pw_or1 (pt_cmp (pc_dnotin (hu_of hr) (pv 7) (pv 3)))))) (pss_one (ps_ret (pe_tupQ (pa_cons (pv 10) (pa_cons (pv 5) (pa_cons (pe_c0 (ok__law_of T) hr (by decide) rfl (pa_cons pe_int pa_nil)) pa_nil)))))) pss_nil)
      (pss_cons (ps_if (pt_cmpR op_eq (pv 4) pe_str (nomark _)) (pss_one (ps_ret (pe_tupQ (pa_cons (pv 10) (pa_cons (pv 5) (pa_cons (pe_c0 (ok__law_scaled T) hr (by decide) rfl (pa_cons (pv 11) (pa_cons (pe_dget (hu_of hr) (pv 3) (pv 6) (fun _ _ => rfl)) pa_nil))) pa_nil)))))) pss_nil)
      (pss_one (ps_ret (pe_tupQ (pa_cons (pv 10) (pa_cons (pv 5) (pa_cons (pe_c0 (ok__law_made T) hr (by decide) rfl (pa_cons (pv 4) (pa_cons (pe_dget (hu_of hr) (pv 3) (pv 6) (fun _ _ => rfl)) (pa_cons (pe_dget (hu_of hr) (pv 3) (pv 7) (fun _ _ => rfl)) pa_nil)))) pa_nil)))))))))))))))), ?_⟩
    have hls3 := hL.le3
    have hlsp := hL.pos
    refine r_lst (ds := strsD ["read", "scale", "add", "join", "turn", "close", "read", "add", "say"]) (Reps.cons rfl (Reps.cons rfl (Reps.cons rfl (Reps.cons rfl (Reps.cons rfl (Reps.cons rfl (Reps.cons rfl (Reps.cons rfl (Reps.cons rfl Reps.nil))))))))) (small (by decide)) fun p H1 s1 hp hl => ?_
    refine ⟨_, rfl, sp, 9, rfl, hs.same s1, by decide, by decide, fun H2 x f2 hx => ?_⟩
    have hpn : p ≠ sp := hs.ne hp
    have hl2 := f2.lst (hs.same s1) hpn hl
    have f02 := (FrS.of hs s1).trans f2
    refine r_ixL x hl2 (d := .a (.str (formOf x))) (by
      have : x = 0 ∨ x = 1 ∨ x = 2 ∨ x = 3 ∨ x = 4 ∨ x = 5 ∨ x = 6 ∨ x = 7 ∨ x = 8 := by omega
      rcases this with rfl | rfl | rfl | rfl | rfl | rfl | rfl | rfl | rfl <;> rfl) fun v hv => ?_
    cases hv
    have hform := form_of hx
    generalize formOf x = form at hform
    have hnlen : 0 < names.length := List.length_pos_iff.mpr hne
    refine ⟨3, rfl, by decide, by decide, fun Dd hD => ?_⟩
    refine lc_st (n := (3 : Int).toNat) f02.2 hD (small (by decide)) (fun z => NameOk z) ?_ ?_
    · intro i H3 hi f3 Kf Kt ht
      have f03 := f02.trans f3
      have hnp3 := f03.lst hs hnpn hnp
      refine ⟨rfl, _, rfl, _, rfl, _, rfl, r_lenL hnp3 ⟨sp, (strsD names).length, rfl, f3.2, by unfold strsD; rw [List.length_map]; exact hnlen, by unfold strsD; rw [List.length_map]; omega, fun H4 y f4 hy => ?_⟩⟩
      have hy' : y < names.length := by unfold strsD at hy; rw [List.length_map] at hy; exact hy
      have hg : names[y]? = some names[y] := List.getElem?_eq_getElem hy'
      refine r_ixL y (f4.lst f3.2 hnpn hnp3) (d := .a (.str names[y])) (by unfold strsD; rw [List.getElem?_map, hg]; rfl) fun v hv => ?_
      cases hv
      exact ht _ H4 f4 (hno _ (List.getElem_mem hy'))
    · intro H3 zs f3 hzl hz e3
      have f03 := f02.trans f3
      obtain ⟨new, one, other, rfl⟩ : ∃ a b c, zs = [a, b, c] := by
        match zs, hzl with
        | [a, b, c], _ => exact ⟨a, b, c, rfl⟩
      have hnew : NameOk new := hz _ (by simp)
      have hone : NameOk one := hz _ (by simp)
      have hoth : NameOk other := hz _ (by simp)
      have n8 := hnew.le8
      have o8 := hone.le8
      have t8 := hoth.le8
      refine ⟨Dd, _, rfl, SqL.of e3, rfl, _, _, rfl, _, _, rfl, _, _, rfl, rfl, ?_⟩
      have hsp3 := f03.2
      cases hform with
      | read =>
        refine ⟨_, rfl, rfl, _, rfl, iteT ?_⟩
        refine ⟨_, rfl, _, rfl, _, rfl, sp, rfl, hsp3, fun H4 m f4 hm => ⟨_, rfl, sp, 4, rfl, f4.2, by decide, by decide, fun H5 th f5 hth => ⟨_, _, rfl, rfl, ?_⟩⟩⟩
        refine ⟨sp, ls, m, 2 + th, by rw [Int.natCast_add] <;> rfl, f5.2, hL, by omega, by omega, by omega, fun H6 M mv f6 hM hmv => ?_⟩
        have f06 := f03.trans (f4.trans (f5.trans f6))
        have hml := mach_len hM.wf hM.ok
        have hLM : LetOk M.ls := by rw [hM.ls]; exact hL
        have lr : ("read " : Str).length = 5 := by decide +kernel
        refine ⟨_, rfl, _, _, rfl, rfl, small (by omega), _, _, rfl, rfl, small (by simp only [len_app, len_sp]; omega), _, rfl, mv, M, rfl, hmv, hM.wf, hM.ok, hLM, fun H7 s7 => ?_⟩
        refine ⟨_, _, rfl, rfl, Nat.le_trans (show _ ≤ 100000 by simp only [len_app, len_sp]; omega) (by decide), _, rfl, _, rfl, mv, M, rfl, hmv.same s7, hM.wf, fun r hval hbd v8 H8 s8 h8 => ?_⟩
        refine r_tup (ds := [.a (.str ("read " ++ new ++ " " ++ machS M)), .a (.str new), dTrip ⟨M.st.length, r, wdot M.st M.en⟩]) (Reps.cons rfl (Reps.cons rfl (Reps.cons h8 Reps.nil))) (small (by simp)) fun v9 H9 s9 h9 => ?_
        have er : ("read " ++ new ++ " " ++ machS M : Str) = "read" ++ " " ++ (new ++ " " ++ machS M) := by
          rw [show ("read " : Str) = "read" ++ " " by decide +kernel]
          simp only [str_assoc]
        refine k.1 H9 _ new M ⟨M.st.length, r, wdot M.st M.en⟩ v9 (f06.trans (FrS.of f06.2 (s7.trans (s8.trans s9)))) hnew ?_ ⟨hM.wf, hM.ls, rfl, rfl, hval, fun y e => ?_⟩ h9
        · rw [er]
          exact fit_read T hM.wf hLM hM.ok hM.ls hnew (by omega)
        · have hb := hbd (8 * (10 ^ 27 + 1)) y (MB_of (fun x hx y e => hM.st x hx y e) (fun t ht r hr x hx y e => hM.tabs t ht r hr x hx y e) (fun x hx y e => hM.en x hx y e)) e
          have : 22 * (8 * (10 ^ 27 + 1)) ≤ 10 ^ 30 := by decide
          unfold stepB
          omega
      | say =>
        refine ⟨_, rfl, rfl, _, rfl, iteF ⟨_, rfl, rfl, _, rfl, iteT ?_⟩⟩
        have hlc : ls.cps.toList.length = ls.length := rfl
        refine ⟨⟨_, rfl⟩, _, rfl, sp, 4, rfl, hsp3, by decide, by decide, fun H4 m f4 hm => ⟨_, rfl, by omega, by omega, fun De hDe => ?_⟩⟩
        have f04 := f03.trans f4
        refine lc_st (n := (m : Int).toNat) f4.2 hDe (small (by omega)) (fun z => ∃ c ∈ ls.cps.toList, z = ⟨#[c]⟩) ?_ ?_
        · intro i H5 hi f5 Kf Kt ht
          refine ⟨rfl, _, rfl, _, rfl, _, rfl, ls, rfl, small (by omega), sp, ls.length, rfl, f5.2, hlsp, by omega, fun H6 y f6 hy => ?_⟩
          have hc : ls.cps.toList[y]? = some (ls.cps.toList[y]'(by omega)) := List.getElem?_eq_getElem (by omega)
          generalize ls.cps.toList[y]'(by omega) = c at hc
          exact ⟨ls, y, c, rfl, rfl, small (by omega), atI_nat hc, ht _ H6 f6 ⟨c, List.mem_of_getElem? hc, rfl⟩⟩
        · intro H5 ws f5 hwl hwr e5
          have f05 := f04.trans f5
          have hwl3 : ws.length ≤ 3 := by omega
          have hsum := sum_le ws 1 fun z hz => by
            obtain ⟨c, _, rfl⟩ := hwr z hz
            exact Nat.le_refl 1
          have hjl := join_len "" 1 ws fun z hz => by
            obtain ⟨c, _, rfl⟩ := hwr z hz
            exact Nat.le_refl 1
          have le0 : ("" : Str).length = 0 := rfl
          rw [le0, Nat.add_zero, Nat.mul_one] at hjl
          have hwo : WordOk ls (Txt.join "" ws) := ⟨fun c hc => by
            rcases join_mem "" ws hc with h | ⟨z, hz, h⟩
            · exact nomatch h
            · obtain ⟨c', hc', rfl⟩ := hwr z hz
              cases List.mem_singleton.mp h
              exact hc', by omega⟩
          refine ⟨_, De, ws, rfl, rfl, .inl (SqL.of e5), ?_, ?_⟩
          · have h1000 : 1000 ≤ sizeLine := by decide
            rw [le0]
            omega
          generalize Txt.join "" ws = wd at hwo
          have hw3 := hwo.le3
          have ls4 : ("say " : Str).length = 4 := by decide +kernel
          have ls6 : (" word -" : Str).length = 7 := by decide +kernel
          have ls7 : (" word " : Str).length = 6 := by decide +kernel
          refine ⟨_, rfl, rfl, _, rfl, ?_⟩
          by_cases h0 : wd.length = 0
          · have e2 := str_nil h0
            subst e2
            refine iteT ?_
            refine ⟨_, rfl, _, _, rfl, rfl, small (by omega), _, _, rfl, rfl, small (by simp only [len_app]; omega), _, rfl, ?_⟩
            refine r_tup (ds := [dN 1, .a (rV (.least 0)), dW (some 0)]) (Reps.cons rfl (Reps.cons rfl (Reps.cons rfl Reps.nil))) (small (by simp)) fun v6 H6 s6 h6 => ?_
            refine r_tup (ds := [.a (.str ("say " ++ new ++ " word -")), .a (.str new), dTrip ⟨1, .least 0, some 0⟩]) (Reps.cons rfl (Reps.cons rfl (Reps.cons h6 Reps.nil))) (small (by simp)) fun v7 H7 s7 h7 => ?_
            have er : ("say " ++ new ++ " word -" : Str) = "say" ++ " " ++ (new ++ " " ++ ("word " ++ wordT ⟨#[]⟩)) := by
              rw [show ("say " : Str) = "say" ++ " " by decide +kernel, show (" word -" : Str) = " " ++ ("word " ++ wordT ⟨#[]⟩) by decide +kernel]
              simp only [str_assoc]
            refine k.1 H7 _ new (mSingle ls ⟨#[]⟩) _ v7 (f05.trans (FrS.of f05.2 (s6.trans s7))) hnew ?_ (Good.say hls3 hwo) h7
            rw [er]
            exact fit_say T hL hwo hnew
          · have hne : ¬ (V.str wd = V.str "") := fun e => h0 (by injection e with e; rw [e]; rfl)
            rw [decide_eq_false hne]
            refine iteF ?_
            refine ⟨_, rfl, _, _, rfl, rfl, small (by omega), _, _, rfl, rfl, small (by simp only [len_app]; omega), _, rfl, _, _, rfl, rfl, small (by simp only [len_app]; omega), _, rfl, ?_⟩
            refine ⟨_, rfl, wd, rfl, small (by omega), _, _, rfl, rfl, ?_⟩
            refine r_tup (ds := [dN (wd.length + 1), .a (rV (.least 0)), dW none]) (Reps.cons (by show V.int _ = V.int _; rw [Int.natCast_add] <;> rfl) (Reps.cons rfl (Reps.cons rfl Reps.nil))) (small (by simp)) fun v6 H6 s6 h6 => ?_
            refine r_tup (ds := [.a (.str ("say " ++ new ++ " word " ++ wd)), .a (.str new), dTrip ⟨wd.length + 1, .least 0, none⟩]) (Reps.cons rfl (Reps.cons rfl (Reps.cons h6 Reps.nil))) (small (by simp)) fun v7 H7 s7 h7 => ?_
            have er : ("say " ++ new ++ " word " ++ wd : Str) = "say" ++ " " ++ (new ++ " " ++ ("word " ++ wordT wd)) := by
              rw [show wordT wd = wd from if_neg h0, show ("say " : Str) = "say" ++ " " by decide +kernel, show (" word " : Str) = " " ++ "word " by decide +kernel]
              simp only [str_assoc]
            have hg := Good.say (B := stepB B) hls3 hwo
            rw [if_neg h0] at hg
            refine k.1 H7 _ new (mSingle ls wd) _ v7 (f05.trans (FrS.of f05.2 (s6.trans s7))) hnew ?_ hg h7
            rw [er]
            exact fit_say T hL hwo hnew
      | scale =>
        have hfl : ("scale" : Str).length ≤ 9 := by decide +kernel
        refine ⟨_, rfl, rfl, _, rfl, iteF ⟨_, rfl, rfl, _, rfl, iteF ?_⟩⟩
        refine ⟨_, rfl, _, _, rfl, rfl, small (by simp only [len_app, len_sp]; omega), _, rfl, _, _, rfl, rfl, small (by simp only [len_app, len_sp]; omega), _, _, rfl, rfl, small (by simp only [len_app, len_sp]; omega), _, rfl, _, _, rfl, rfl, small (by simp only [len_app, len_sp]; omega), ?_⟩
        refine ⟨_, rfl, _, rfl, sp, rfl, hsp3, fun H4 far f4 hfar => ⟨sp, far, 1, rfl, f4.2, hfar, by decide, fun H5 xr xv f5 hxl hxw hxv => ?_⟩⟩
        obtain ⟨x1, rfl⟩ : ∃ a, xr = [a] := by
          match xr, hxl with
          | [a], _ => exact ⟨a, rfl⟩
        refine r_ixT 0 hxv rfl fun u hu => ?_
        cases rep_W hu
        have hx1 : WDr x1 := hxw x1 (by simp)
        have hxs := wS_len hx1.ok
        have f05 := f03.trans (f4.trans f5)
        have hkp5 := hkp.fr hs f05 hkpn
        refine ⟨_, rfl, rfl, _, rfl, iteT ?_⟩
        refine ⟨_, rfl, _, _, rfl, rfl, small (by simp only [len_app, len_sp]; omega), _, rfl, x1, rfl, hx1.ok, _, _, rfl, rfl, small (by simp only [len_app, len_sp]; omega), ?_⟩
        refine ⟨_, rfl, r_tup (ds := strsD ["add", "join"]) (Reps.cons rfl (Reps.cons rfl Reps.nil)) (small (by decide)) fun v6 H6 s6 h6 => ?_⟩
        obtain ⟨p6, rfl, hp6⟩ := tup_strs h6
        have f06 := f05.trans (FrS.of f05.2 s6)
        have hkp6 := hkp5.same s6
        refine r_inTb (b := false) (SqT.of hp6) rfl rfl (by decide +kernel) ⟨_, rfl, iteF ?_⟩
        refine ⟨_, rfl, ?_⟩
        rcases hk one with ⟨hg, hl_one⟩ | ⟨A', s0, hg, hl_one, gd⟩
        · refine ⟨_, rfl, _, rfl, kp, _, rfl, hkp6.gotN (x := one) (by show (L one).map dTrip = none; rw [hl_one]; rfl), _, rfl, iteT ?_⟩
          refine ⟨_, rfl, _, rfl, 8, rfl, fun p7 v7 H7 s7 hp7 hl7 h7 => ?_⟩
          refine r_tup (ds := [.a (.str ("scale" ++ " " ++ new ++ " " ++ one ++ " " ++ wS x1)), .a (.str new), .t [.a (.str "refused"), .a (.ref p7)]]) (Reps.cons rfl (Reps.cons rfl (Reps.cons h7 Reps.nil))) (small (by simp)) fun v8 H8 s8 h8 => ?_
          exact k.2 H8 _ new 8 "NoName" p7 v8 (f06.trans (FrS.of f06.2 (s7.trans s8))) .name (fit_scale T hx1 hnew hone rfl (.lack ⟨one, by simp, hg⟩)) (hl7.same s8) (f06.2.ne hp7) (f06.none hs hp7) h8
        · obtain ⟨mv, gm, rm⟩ := hkp6.gotS (x := one) (d := dTrip s0) (by show (L one).map dTrip = _; rw [hl_one]; rfl)
          refine ⟨_, rfl, _, rfl, kp, _, rfl, gm, _, rfl, iteF ⟨_, rfl, _, rfl, kp, _, rfl, gm, _, rfl, iteF ?_⟩⟩
          refine ⟨_, rfl, rfl, _, rfl, iteT ?_⟩
          refine ⟨_, rfl, _, rfl, _, rfl, _, rfl, _, rfl, kp, mv, rfl, gm, x1, mv, s0, rfl, rm, fun v7 H7 s7 h7 => ?_⟩
          refine r_tup (ds := [.a (.str ("scale" ++ " " ++ new ++ " " ++ one ++ " " ++ wS x1)), .a (.str new), dTrip (tScale x1 s0)]) (Reps.cons rfl (Reps.cons rfl (Reps.cons h7 Reps.nil))) (small (by simp)) fun v8 H8 s8 h8 => ?_
          exact k.1 H8 _ new (mScale x1 A') (tScale x1 s0) v8 (f06.trans (FrS.of f06.2 (s7.trans s8))) hnew (fit_scale T hx1 hnew hone rfl (.put (show [one].map G = [A'].map some by simp [hg]) (.scale hx1.ok gd.wf))) (gd.scale hx1) h8
      | add =>
        have hfl : ("add" : Str).length ≤ 9 := by decide +kernel
        refine ⟨_, rfl, rfl, _, rfl, iteF ⟨_, rfl, rfl, _, rfl, iteF ?_⟩⟩
        refine ⟨_, rfl, _, _, rfl, rfl, small (by simp only [len_app, len_sp]; omega), _, rfl, _, _, rfl, rfl, small (by simp only [len_app, len_sp]; omega), _, _, rfl, rfl, small (by simp only [len_app, len_sp]; omega), _, rfl, _, _, rfl, rfl, small (by simp only [len_app, len_sp]; omega), ?_⟩
        refine ⟨_, rfl, _, rfl, sp, rfl, hsp3, fun H4 far f4 hfar => ⟨sp, far, 1, rfl, f4.2, hfar, by decide, fun H5 xr xv f5 hxl hxw hxv => ?_⟩⟩
        obtain ⟨x1, rfl⟩ : ∃ a, xr = [a] := by
          match xr, hxl with
          | [a], _ => exact ⟨a, rfl⟩
        refine r_ixT 0 hxv rfl fun u hu => ?_
        cases rep_W hu
        have hx1 : WDr x1 := hxw x1 (by simp)
        have hxs := wS_len hx1.ok
        have f05 := f03.trans (f4.trans f5)
        have hkp5 := hkp.fr hs f05 hkpn
        refine ⟨_, rfl, rfl, _, rfl, iteF ?_⟩
        refine ⟨_, rfl, r_tup (ds := strsD ["add", "join"]) (Reps.cons rfl (Reps.cons rfl Reps.nil)) (small (by decide)) fun v6 H6 s6 h6 => ?_⟩
        obtain ⟨p6, rfl, hp6⟩ := tup_strs h6
        have f06 := f05.trans (FrS.of f05.2 s6)
        have hkp6 := hkp5.same s6
        refine r_inTb (b := true) (SqT.of hp6) rfl rfl (by decide +kernel) ⟨_, rfl, iteT ?_⟩
        refine ⟨_, rfl, _, _, rfl, rfl, small (by simp only [len_app, len_sp]; omega), _, rfl, _, _, rfl, rfl, small (by simp only [len_app, len_sp]; omega), ?_⟩
        rcases hk one with ⟨hg, hl_one⟩ | ⟨A', s0, hg, hl_one, gd⟩
        · refine ⟨_, rfl, _, rfl, kp, _, rfl, hkp6.gotN (x := one) (by show (L one).map dTrip = none; rw [hl_one]; rfl), _, rfl, iteT ?_⟩
          refine ⟨_, rfl, _, rfl, 8, rfl, fun p7 v7 H7 s7 hp7 hl7 h7 => ?_⟩
          refine r_tup (ds := [.a (.str ("add" ++ " " ++ new ++ " " ++ one ++ " " ++ other)), .a (.str new), .t [.a (.str "refused"), .a (.ref p7)]]) (Reps.cons rfl (Reps.cons rfl (Reps.cons h7 Reps.nil))) (small (by simp)) fun v8 H8 s8 h8 => ?_
          exact k.2 H8 _ new 8 "NoName" p7 v8 (f06.trans (FrS.of f06.2 (s7.trans s8))) .name (fit_two T.v_FORMS_add (by decide +kernel) (by decide +kernel) hnew hone hoth rfl (.lack ⟨one, by simp, hg⟩)) (hl7.same s8) (f06.2.ne hp7) (f06.none hs hp7) h8
        · obtain ⟨mv, gm, rm⟩ := hkp6.gotS (x := one) (d := dTrip s0) (by show (L one).map dTrip = _; rw [hl_one]; rfl)
          rcases hk other with ⟨hg2, hl_other⟩ | ⟨C', t0, hg2, hl_other, gd2⟩
          · refine ⟨_, rfl, _, rfl, kp, _, rfl, gm, _, rfl, iteF ⟨_, rfl, _, rfl, kp, _, rfl, hkp6.gotN (x := other) (by show (L other).map dTrip = none; rw [hl_other]; rfl), _, rfl, iteT ?_⟩⟩
            refine ⟨_, rfl, _, rfl, 8, rfl, fun p7 v7 H7 s7 hp7 hl7 h7 => ?_⟩
            refine r_tup (ds := [.a (.str ("add" ++ " " ++ new ++ " " ++ one ++ " " ++ other)), .a (.str new), .t [.a (.str "refused"), .a (.ref p7)]]) (Reps.cons rfl (Reps.cons rfl (Reps.cons h7 Reps.nil))) (small (by simp)) fun v8 H8 s8 h8 => ?_
            exact k.2 H8 _ new 8 "NoName" p7 v8 (f06.trans (FrS.of f06.2 (s7.trans s8))) .name (fit_two T.v_FORMS_add (by decide +kernel) (by decide +kernel) hnew hone hoth rfl (.lack ⟨other, by simp, hg2⟩)) (hl7.same s8) (f06.2.ne hp7) (f06.none hs hp7) h8
          · obtain ⟨mv2, gm2, rm2⟩ := hkp6.gotS (x := other) (d := dTrip t0) (by show (L other).map dTrip = _; rw [hl_other]; rfl)
            refine ⟨_, rfl, _, rfl, kp, _, rfl, gm, _, rfl, iteF ⟨_, rfl, _, rfl, kp, _, rfl, gm2, _, rfl, iteF ?_⟩⟩
            refine ⟨_, rfl, rfl, _, rfl, iteF ?_⟩
            obtain ⟨mres, lres, hmade, hlm, hgot⟩ := got_made (form := "add") gd gd2 (by simp)
            have hG2 : [one, other].map G = [A', C'].map some := by simp [hg, hg2]
            refine ⟨_, rfl, _, rfl, _, rfl, _, rfl, _, rfl, kp, mv, rfl, gm, _, rfl, _, rfl, kp, mv2, rfl, gm2, "add", mv, mv2, s0, t0, lres, rfl, rm, rm2, hlm, ?_, ?_⟩
            · rintro t' rfl v7 H7 s7 h7
              cases hgot with
              | ok hgood =>
                refine r_tup (ds := [.a (.str ("add" ++ " " ++ new ++ " " ++ one ++ " " ++ other)), .a (.str new), dTrip t']) (Reps.cons rfl (Reps.cons rfl (Reps.cons h7 Reps.nil))) (small (by simp)) fun v8 H8 s8 h8 => ?_
                exact k.1 H8 _ new _ t' v8 (f06.trans (FrS.of f06.2 (s7.trans s8))) hnew (fit_two T.v_FORMS_add (by decide +kernel) (by decide +kernel) hnew hone hoth rfl (.put hG2 hmade)) hgood h8
            · rintro kk rfl p7 v7 H7 s7 hp7 hl7 h7
              cases hgot with
              | no hcode =>
                refine r_tup (ds := [.a (.str ("add" ++ " " ++ new ++ " " ++ one ++ " " ++ other)), .a (.str new), .t [.a (.str "refused"), .a (.ref p7)]]) (Reps.cons rfl (Reps.cons rfl (Reps.cons h7 Reps.nil))) (small (by simp)) fun v8 H8 s8 h8 => ?_
                exact k.2 H8 _ new kk _ p7 v8 (f06.trans (FrS.of f06.2 (s7.trans s8))) hcode (fit_two T.v_FORMS_add (by decide +kernel) (by decide +kernel) hnew hone hoth rfl (.no hG2 hmade)) (hl7.same s8) (f06.2.ne hp7) (f06.none hs hp7) h8
      | join =>
        have hfl : ("join" : Str).length ≤ 9 := by decide +kernel
        refine ⟨_, rfl, rfl, _, rfl, iteF ⟨_, rfl, rfl, _, rfl, iteF ?_⟩⟩
        refine ⟨_, rfl, _, _, rfl, rfl, small (by simp only [len_app, len_sp]; omega), _, rfl, _, _, rfl, rfl, small (by simp only [len_app, len_sp]; omega), _, _, rfl, rfl, small (by simp only [len_app, len_sp]; omega), _, rfl, _, _, rfl, rfl, small (by simp only [len_app, len_sp]; omega), ?_⟩
        refine ⟨_, rfl, _, rfl, sp, rfl, hsp3, fun H4 far f4 hfar => ⟨sp, far, 1, rfl, f4.2, hfar, by decide, fun H5 xr xv f5 hxl hxw hxv => ?_⟩⟩
        obtain ⟨x1, rfl⟩ : ∃ a, xr = [a] := by
          match xr, hxl with
          | [a], _ => exact ⟨a, rfl⟩
        refine r_ixT 0 hxv rfl fun u hu => ?_
        cases rep_W hu
        have hx1 : WDr x1 := hxw x1 (by simp)
        have hxs := wS_len hx1.ok
        have f05 := f03.trans (f4.trans f5)
        have hkp5 := hkp.fr hs f05 hkpn
        refine ⟨_, rfl, rfl, _, rfl, iteF ?_⟩
        refine ⟨_, rfl, r_tup (ds := strsD ["add", "join"]) (Reps.cons rfl (Reps.cons rfl Reps.nil)) (small (by decide)) fun v6 H6 s6 h6 => ?_⟩
        obtain ⟨p6, rfl, hp6⟩ := tup_strs h6
        have f06 := f05.trans (FrS.of f05.2 s6)
        have hkp6 := hkp5.same s6
        refine r_inTb (b := true) (SqT.of hp6) rfl rfl (by decide +kernel) ⟨_, rfl, iteT ?_⟩
        refine ⟨_, rfl, _, _, rfl, rfl, small (by simp only [len_app, len_sp]; omega), _, rfl, _, _, rfl, rfl, small (by simp only [len_app, len_sp]; omega), ?_⟩
        rcases hk one with ⟨hg, hl_one⟩ | ⟨A', s0, hg, hl_one, gd⟩
        · refine ⟨_, rfl, _, rfl, kp, _, rfl, hkp6.gotN (x := one) (by show (L one).map dTrip = none; rw [hl_one]; rfl), _, rfl, iteT ?_⟩
          refine ⟨_, rfl, _, rfl, 8, rfl, fun p7 v7 H7 s7 hp7 hl7 h7 => ?_⟩
          refine r_tup (ds := [.a (.str ("join" ++ " " ++ new ++ " " ++ one ++ " " ++ other)), .a (.str new), .t [.a (.str "refused"), .a (.ref p7)]]) (Reps.cons rfl (Reps.cons rfl (Reps.cons h7 Reps.nil))) (small (by simp)) fun v8 H8 s8 h8 => ?_
          exact k.2 H8 _ new 8 "NoName" p7 v8 (f06.trans (FrS.of f06.2 (s7.trans s8))) .name (fit_two T.v_FORMS_join (by decide +kernel) (by decide +kernel) hnew hone hoth rfl (.lack ⟨one, by simp, hg⟩)) (hl7.same s8) (f06.2.ne hp7) (f06.none hs hp7) h8
        · obtain ⟨mv, gm, rm⟩ := hkp6.gotS (x := one) (d := dTrip s0) (by show (L one).map dTrip = _; rw [hl_one]; rfl)
          rcases hk other with ⟨hg2, hl_other⟩ | ⟨C', t0, hg2, hl_other, gd2⟩
          · refine ⟨_, rfl, _, rfl, kp, _, rfl, gm, _, rfl, iteF ⟨_, rfl, _, rfl, kp, _, rfl, hkp6.gotN (x := other) (by show (L other).map dTrip = none; rw [hl_other]; rfl), _, rfl, iteT ?_⟩⟩
            refine ⟨_, rfl, _, rfl, 8, rfl, fun p7 v7 H7 s7 hp7 hl7 h7 => ?_⟩
            refine r_tup (ds := [.a (.str ("join" ++ " " ++ new ++ " " ++ one ++ " " ++ other)), .a (.str new), .t [.a (.str "refused"), .a (.ref p7)]]) (Reps.cons rfl (Reps.cons rfl (Reps.cons h7 Reps.nil))) (small (by simp)) fun v8 H8 s8 h8 => ?_
            exact k.2 H8 _ new 8 "NoName" p7 v8 (f06.trans (FrS.of f06.2 (s7.trans s8))) .name (fit_two T.v_FORMS_join (by decide +kernel) (by decide +kernel) hnew hone hoth rfl (.lack ⟨other, by simp, hg2⟩)) (hl7.same s8) (f06.2.ne hp7) (f06.none hs hp7) h8
          · obtain ⟨mv2, gm2, rm2⟩ := hkp6.gotS (x := other) (d := dTrip t0) (by show (L other).map dTrip = _; rw [hl_other]; rfl)
            refine ⟨_, rfl, _, rfl, kp, _, rfl, gm, _, rfl, iteF ⟨_, rfl, _, rfl, kp, _, rfl, gm2, _, rfl, iteF ?_⟩⟩
            refine ⟨_, rfl, rfl, _, rfl, iteF ?_⟩
            obtain ⟨mres, lres, hmade, hlm, hgot⟩ := got_made (form := "join") gd gd2 (by simp)
            have hG2 : [one, other].map G = [A', C'].map some := by simp [hg, hg2]
            refine ⟨_, rfl, _, rfl, _, rfl, _, rfl, _, rfl, kp, mv, rfl, gm, _, rfl, _, rfl, kp, mv2, rfl, gm2, "join", mv, mv2, s0, t0, lres, rfl, rm, rm2, hlm, ?_, ?_⟩
            · rintro t' rfl v7 H7 s7 h7
              cases hgot with
              | ok hgood =>
                refine r_tup (ds := [.a (.str ("join" ++ " " ++ new ++ " " ++ one ++ " " ++ other)), .a (.str new), dTrip t']) (Reps.cons rfl (Reps.cons rfl (Reps.cons h7 Reps.nil))) (small (by simp)) fun v8 H8 s8 h8 => ?_
                exact k.1 H8 _ new _ t' v8 (f06.trans (FrS.of f06.2 (s7.trans s8))) hnew (fit_two T.v_FORMS_join (by decide +kernel) (by decide +kernel) hnew hone hoth rfl (.put hG2 hmade)) hgood h8
            · rintro kk rfl p7 v7 H7 s7 hp7 hl7 h7
              cases hgot with
              | no hcode =>
                refine r_tup (ds := [.a (.str ("join" ++ " " ++ new ++ " " ++ one ++ " " ++ other)), .a (.str new), .t [.a (.str "refused"), .a (.ref p7)]]) (Reps.cons rfl (Reps.cons rfl (Reps.cons h7 Reps.nil))) (small (by simp)) fun v8 H8 s8 h8 => ?_
                exact k.2 H8 _ new kk _ p7 v8 (f06.trans (FrS.of f06.2 (s7.trans s8))) hcode (fit_two T.v_FORMS_join (by decide +kernel) (by decide +kernel) hnew hone hoth rfl (.no hG2 hmade)) (hl7.same s8) (f06.2.ne hp7) (f06.none hs hp7) h8
      | turn =>
        have hfl : ("turn" : Str).length ≤ 9 := by decide +kernel
        refine ⟨_, rfl, rfl, _, rfl, iteF ⟨_, rfl, rfl, _, rfl, iteF ?_⟩⟩
        refine ⟨_, rfl, _, _, rfl, rfl, small (by simp only [len_app, len_sp]; omega), _, rfl, _, _, rfl, rfl, small (by simp only [len_app, len_sp]; omega), _, _, rfl, rfl, small (by simp only [len_app, len_sp]; omega), _, rfl, _, _, rfl, rfl, small (by simp only [len_app, len_sp]; omega), ?_⟩
        refine ⟨_, rfl, _, rfl, sp, rfl, hsp3, fun H4 far f4 hfar => ⟨sp, far, 1, rfl, f4.2, hfar, by decide, fun H5 xr xv f5 hxl hxw hxv => ?_⟩⟩
        obtain ⟨x1, rfl⟩ : ∃ a, xr = [a] := by
          match xr, hxl with
          | [a], _ => exact ⟨a, rfl⟩
        refine r_ixT 0 hxv rfl fun u hu => ?_
        cases rep_W hu
        have hx1 : WDr x1 := hxw x1 (by simp)
        have hxs := wS_len hx1.ok
        have f05 := f03.trans (f4.trans f5)
        have hkp5 := hkp.fr hs f05 hkpn
        refine ⟨_, rfl, rfl, _, rfl, iteF ?_⟩
        refine ⟨_, rfl, r_tup (ds := strsD ["add", "join"]) (Reps.cons rfl (Reps.cons rfl Reps.nil)) (small (by decide)) fun v6 H6 s6 h6 => ?_⟩
        obtain ⟨p6, rfl, hp6⟩ := tup_strs h6
        have f06 := f05.trans (FrS.of f05.2 s6)
        have hkp6 := hkp5.same s6
        refine r_inTb (b := false) (SqT.of hp6) rfl rfl (by decide +kernel) ⟨_, rfl, iteF ?_⟩
        refine ⟨_, rfl, ?_⟩
        rcases hk one with ⟨hg, hl_one⟩ | ⟨A', s0, hg, hl_one, gd⟩
        · refine ⟨_, rfl, _, rfl, kp, _, rfl, hkp6.gotN (x := one) (by show (L one).map dTrip = none; rw [hl_one]; rfl), _, rfl, iteT ?_⟩
          refine ⟨_, rfl, _, rfl, 8, rfl, fun p7 v7 H7 s7 hp7 hl7 h7 => ?_⟩
          refine r_tup (ds := [.a (.str ("turn" ++ " " ++ new ++ " " ++ one)), .a (.str new), .t [.a (.str "refused"), .a (.ref p7)]]) (Reps.cons rfl (Reps.cons rfl (Reps.cons h7 Reps.nil))) (small (by simp)) fun v8 H8 s8 h8 => ?_
          exact k.2 H8 _ new 8 "NoName" p7 v8 (f06.trans (FrS.of f06.2 (s7.trans s8))) .name (fit_one T.v_FORMS_turn (by decide +kernel) (by decide +kernel) hnew hone rfl (.lack ⟨one, by simp, hg⟩)) (hl7.same s8) (f06.2.ne hp7) (f06.none hs hp7) h8
        · obtain ⟨mv, gm, rm⟩ := hkp6.gotS (x := one) (d := dTrip s0) (by show (L one).map dTrip = _; rw [hl_one]; rfl)
          refine ⟨_, rfl, _, rfl, kp, _, rfl, gm, _, rfl, iteF ⟨_, rfl, _, rfl, kp, _, rfl, gm, _, rfl, iteF ?_⟩⟩
          refine ⟨_, rfl, rfl, _, rfl, iteF ?_⟩
          obtain ⟨mres, lres, hmade, hlm, hgot⟩ := got_one (form := "turn") (t := s0) gd (by simp)
          have hG2 : [one].map G = [A'].map some := by simp [hg]
          refine ⟨_, rfl, _, rfl, _, rfl, _, rfl, _, rfl, kp, mv, rfl, gm, _, rfl, _, rfl, kp, mv, rfl, gm, "turn", mv, mv, s0, s0, lres, rfl, rm, rm, hlm, ?_, ?_⟩
          · rintro t' rfl v7 H7 s7 h7
            cases hgot with
            | ok hgood =>
              refine r_tup (ds := [.a (.str ("turn" ++ " " ++ new ++ " " ++ one)), .a (.str new), dTrip t']) (Reps.cons rfl (Reps.cons rfl (Reps.cons h7 Reps.nil))) (small (by simp)) fun v8 H8 s8 h8 => ?_
              exact k.1 H8 _ new _ t' v8 (f06.trans (FrS.of f06.2 (s7.trans s8))) hnew (fit_one T.v_FORMS_turn (by decide +kernel) (by decide +kernel) hnew hone rfl (.put hG2 hmade)) hgood h8
          · rintro kk rfl p7 v7 H7 s7 hp7 hl7 h7
            cases hgot with
            | no hcode =>
              refine r_tup (ds := [.a (.str ("turn" ++ " " ++ new ++ " " ++ one)), .a (.str new), .t [.a (.str "refused"), .a (.ref p7)]]) (Reps.cons rfl (Reps.cons rfl (Reps.cons h7 Reps.nil))) (small (by simp)) fun v8 H8 s8 h8 => ?_
              exact k.2 H8 _ new kk _ p7 v8 (f06.trans (FrS.of f06.2 (s7.trans s8))) hcode (fit_one T.v_FORMS_turn (by decide +kernel) (by decide +kernel) hnew hone rfl (.no hG2 hmade)) (hl7.same s8) (f06.2.ne hp7) (f06.none hs hp7) h8
      | close =>
        have hfl : ("close" : Str).length ≤ 9 := by decide +kernel
        refine ⟨_, rfl, rfl, _, rfl, iteF ⟨_, rfl, rfl, _, rfl, iteF ?_⟩⟩
        refine ⟨_, rfl, _, _, rfl, rfl, small (by simp only [len_app, len_sp]; omega), _, rfl, _, _, rfl, rfl, small (by simp only [len_app, len_sp]; omega), _, _, rfl, rfl, small (by simp only [len_app, len_sp]; omega), _, rfl, _, _, rfl, rfl, small (by simp only [len_app, len_sp]; omega), ?_⟩
        refine ⟨_, rfl, _, rfl, sp, rfl, hsp3, fun H4 far f4 hfar => ⟨sp, far, 1, rfl, f4.2, hfar, by decide, fun H5 xr xv f5 hxl hxw hxv => ?_⟩⟩
        obtain ⟨x1, rfl⟩ : ∃ a, xr = [a] := by
          match xr, hxl with
          | [a], _ => exact ⟨a, rfl⟩
        refine r_ixT 0 hxv rfl fun u hu => ?_
        cases rep_W hu
        have hx1 : WDr x1 := hxw x1 (by simp)
        have hxs := wS_len hx1.ok
        have f05 := f03.trans (f4.trans f5)
        have hkp5 := hkp.fr hs f05 hkpn
        refine ⟨_, rfl, rfl, _, rfl, iteF ?_⟩
        refine ⟨_, rfl, r_tup (ds := strsD ["add", "join"]) (Reps.cons rfl (Reps.cons rfl Reps.nil)) (small (by decide)) fun v6 H6 s6 h6 => ?_⟩
        obtain ⟨p6, rfl, hp6⟩ := tup_strs h6
        have f06 := f05.trans (FrS.of f05.2 s6)
        have hkp6 := hkp5.same s6
        refine r_inTb (b := false) (SqT.of hp6) rfl rfl (by decide +kernel) ⟨_, rfl, iteF ?_⟩
        refine ⟨_, rfl, ?_⟩
        rcases hk one with ⟨hg, hl_one⟩ | ⟨A', s0, hg, hl_one, gd⟩
        · refine ⟨_, rfl, _, rfl, kp, _, rfl, hkp6.gotN (x := one) (by show (L one).map dTrip = none; rw [hl_one]; rfl), _, rfl, iteT ?_⟩
          refine ⟨_, rfl, _, rfl, 8, rfl, fun p7 v7 H7 s7 hp7 hl7 h7 => ?_⟩
          refine r_tup (ds := [.a (.str ("close" ++ " " ++ new ++ " " ++ one)), .a (.str new), .t [.a (.str "refused"), .a (.ref p7)]]) (Reps.cons rfl (Reps.cons rfl (Reps.cons h7 Reps.nil))) (small (by simp)) fun v8 H8 s8 h8 => ?_
          exact k.2 H8 _ new 8 "NoName" p7 v8 (f06.trans (FrS.of f06.2 (s7.trans s8))) .name (fit_one T.v_FORMS_close (by decide +kernel) (by decide +kernel) hnew hone rfl (.lack ⟨one, by simp, hg⟩)) (hl7.same s8) (f06.2.ne hp7) (f06.none hs hp7) h8
        · obtain ⟨mv, gm, rm⟩ := hkp6.gotS (x := one) (d := dTrip s0) (by show (L one).map dTrip = _; rw [hl_one]; rfl)
          refine ⟨_, rfl, _, rfl, kp, _, rfl, gm, _, rfl, iteF ⟨_, rfl, _, rfl, kp, _, rfl, gm, _, rfl, iteF ?_⟩⟩
          refine ⟨_, rfl, rfl, _, rfl, iteF ?_⟩
          obtain ⟨mres, lres, hmade, hlm, hgot⟩ := got_one (form := "close") (t := s0) gd (by simp)
          have hG2 : [one].map G = [A'].map some := by simp [hg]
          refine ⟨_, rfl, _, rfl, _, rfl, _, rfl, _, rfl, kp, mv, rfl, gm, _, rfl, _, rfl, kp, mv, rfl, gm, "close", mv, mv, s0, s0, lres, rfl, rm, rm, hlm, ?_, ?_⟩
          · rintro t' rfl v7 H7 s7 h7
            cases hgot with
            | ok hgood =>
              refine r_tup (ds := [.a (.str ("close" ++ " " ++ new ++ " " ++ one)), .a (.str new), dTrip t']) (Reps.cons rfl (Reps.cons rfl (Reps.cons h7 Reps.nil))) (small (by simp)) fun v8 H8 s8 h8 => ?_
              exact k.1 H8 _ new _ t' v8 (f06.trans (FrS.of f06.2 (s7.trans s8))) hnew (fit_one T.v_FORMS_close (by decide +kernel) (by decide +kernel) hnew hone rfl (.put hG2 hmade)) hgood h8
          · rintro kk rfl p7 v7 H7 s7 hp7 hl7 h7
            cases hgot with
            | no hcode =>
              refine r_tup (ds := [.a (.str ("close" ++ " " ++ new ++ " " ++ one)), .a (.str new), .t [.a (.str "refused"), .a (.ref p7)]]) (Reps.cons rfl (Reps.cons rfl (Reps.cons h7 Reps.nil))) (small (by simp)) fun v8 H8 s8 h8 => ?_
              exact k.2 H8 _ new kk _ p7 v8 (f06.trans (FrS.of f06.2 (s7.trans s8))) hcode (fit_one T.v_FORMS_close (by decide +kernel) (by decide +kernel) hnew hone rfl (.no hG2 hmade)) (hl7.same s8) (f06.2.ne hp7) (f06.none hs hp7) h8
end
end L2.Ww
set_option Elab.async false
set_option linter.all false
set_option maxRecDepth 100000
set_option maxHeartbeats 4000000
/-! The law. -/
namespace L2.Ww
open PySem PySem.Spec PyProof.Rows
theorem call_str_val {X : Cx} : CallR X (.type "str") (fun xs H Q => ∃ r : BF.R, xs = [rV r] ∧ (∀ x, r = .least x → x.natAbs.log2 < 1920) ∧ Q (.str (resS r)) H) := by
  intro pins s σ H xs us Q I r h
  obtain ⟨v, rfl, hb, q⟩ := h
  cases v with
  | none => exact SkE.call_str_str pins s σ H _ us Q I r ⟨_, rfl, q⟩
  | falls => exact SkE.call_str_str pins s σ H _ us Q I r ⟨_, rfl, q⟩
  | least x => exact call_str_int pins s σ H _ us Q I r ⟨_, rfl, hb x rfl, q⟩
/-- all but q stands -/
def Fr1 (q : Addr) (H H' : Hp) : Prop := ∀ b o, b ≠ q → H b = some o → H' b = some o
theorem Fr1.tup {q : Addr} {H H' : Hp} {F : Str → Option D} {n : Nat} (f : Fr1 q H H') (d : SDct H q F n) : TupLe H H' := fun p vs e => f p _ (fun e2 => by
  obtain ⟨kvs, e3, _⟩ := d
  rw [e2, e3] at e; cases e) e
theorem Fr1.lst {q p : Addr} {H H' : Hp} {F : Str → Option D} {n : Nat} {ds : List D} (f : Fr1 q H H') (d : SDct H q F n) (l : LstAt H p ds) : LstAt H' p ds := by
  obtain ⟨vs, e, r⟩ := l
  refine ⟨vs, f p _ (fun e2 => ?_) e, r.up (f.tup d)⟩
  obtain ⟨kvs, e3, _⟩ := d
  rw [e2, e3] at e; cases e
theorem Fr1.st {q p : Addr} {H H' : Hp} {F : Str → Option D} {n : Nat} (f : Fr1 q H H') (d : SDct H q F n) (l : StAt H p) : StAt H' p := by
  obtain ⟨xs, hl, e⟩ := l
  refine ⟨xs, hl, f p _ (fun e2 => ?_) e⟩
  obtain ⟨kvs, e3, _⟩ := d
  rw [e2, e3] at e; cases e
theorem Fr1.sdct {q p : Addr} {H H' : Hp} {F F' : Str → Option D} {n n' : Nat} (f : Fr1 q H H') (d : SDct H q F n) (h : SDct H p F' n') (hne : p ≠ q) : SDct H' p F' n' := by
  obtain ⟨kvs, e1, _⟩ := id h
  exact h.up ((f p _ hne e1).trans e1.symm) (f.tup d)
theorem Fr1.desk {K : PySem.W.Frag} {q d md : Addr} {ls : Str} {H H' : Hp} {F : Str → Option D} {n : Nat} (f : Fr1 q H H') (dd : SDct H q F n) (h : DeskIs K H d ls md) : DeskIs K H' d ls md := by
  obtain ⟨kvs, e3, _⟩ := dd
  obtain ⟨dx, k, e, a, adx, rfl, e2⟩ := h
  exact ⟨dx, _, f d _ (fun z => by rw [z, e3] at e; cases e) e, a, adx, rfl, f a _ (fun z => by rw [z, e3] at e2; cases e2) e2⟩
theorem FrS.desk {K : PySem.W.Frag} {sp d md : Addr} {ls : Str} {H H' : Hp} (hs : StAt H sp) (f : FrS sp H H') (h : DeskIs K H d ls md) : DeskIs K H' d ls md := by
  obtain ⟨xs, _, e3⟩ := hs
  obtain ⟨dx, k, e, a, adx, rfl, e2⟩ := h
  exact ⟨dx, _, f.1 d _ (fun z => by rw [z, e3] at e; cases e) e, a, adx, rfl, f.1 a _ (fun z => by rw [z, e3] at e2; cases e2) e2⟩
theorem FrS.sdct {sp p : Addr} {H H' : Hp} {F : Str → Option D} {n : Nat} (hs : StAt H sp) (f : FrS sp H H') (h : SDct H p F n) : SDct H' p F n := by
  refine h.fr hs f fun z => ?_
  obtain ⟨xs, _, e3⟩ := hs
  obtain ⟨kvs, e, _⟩ := h
  rw [z, e3] at e; cases e
theorem sqL_same {K : PySem.W.Frag} {H H' : Hp} {a : Addr} {xs : List V} (e : Same H H') (h : SqL K H a xs) : SqL K H' a xs := by
  rcases h with (h | ⟨o, h⟩) | h
  · exact .inl (.inl (e _ _ h))
  · exact .inl (.inr ⟨o, e _ _ h⟩)
  · exact .inr h
theorem FrS.same {sp : Addr} {H0 H H' : Hp} (h0 : H0 sp = Option.none) (s : Same H0 H) (f : FrS sp H H') : Same H0 H' := fun c o e => f.1 c o (fun z => by rw [z, h0] at e; cases e) (s c o e)
theorem rep_tup3 {H : Hp} {a b c : D} {v : V} (h : Rep H (.t [a, b, c]) v) : ∃ p x y z, v = .ref p ∧ H p = some (.tup [x, y, z]) ∧ Rep H a x ∧ Rep H b y ∧ Rep H c z := by
  obtain ⟨p, vs, rfl, hp, r⟩ := h
  obtain ⟨v1, r1, e1, h1, r⟩ := r
  obtain ⟨v2, r2, e2, h2, r⟩ := r
  obtain ⟨v3, r3, e3, h3, r⟩ := r
  cases r
  subst e3 e2 e1
  exact ⟨p, v1, v2, v3, rfl, hp, h1, h2, h3⟩
/-! ### what is due, as data -/
def pdRef (k : Nat) : PyData := .tuple [.str "refused", .list ((bitsOf k).map PyData.bool)]
theorem dp_bls (K : PySem.W.Frag) (H : Hp) : ∀ bs : List Bool, DpAll K H (bs.map V.bl) (bs.map PyData.bool)
  | [] => .nil
  | b :: bs => .cons (.bl b) (dp_bls K H bs)
theorem dp_ref {K : PySem.W.Frag} {H : Hp} {k : Nat} {p : Addr} {v : V} (hl : LstAt H p ((bitsOf k).map fun b => D.a (.bl b))) (h : Rep H (.t [.a (.str "refused"), .a (.ref p)]) v) : Dp K H v (pdRef k) := by
  obtain ⟨q, x, y, rfl, hq, hx, hy⟩ := rep_tup2 h
  cases hx
  cases hy
  obtain ⟨vs, e, r⟩ := hl
  have e5 : ((bitsOf k).map fun b => D.a (.bl b)) = ((bitsOf k).map V.bl).map D.a := by rw [List.map_map] <;> rfl
  rw [e5, Reps.atoms] at r
  subst r
  exact .tup (SqT.of hq) (.cons (.str _) (.cons (.lst (SqL.of e) (dp_bls K H _)) .nil))
theorem shp_ref {k : Nat} {c : Str} (h : Code k c) : PySem.SeqAt.shaped (pdRef k) = true := by cases h <;> decide +kernel
theorem eqv_ref {k : Nat} {c : Str} (h : Code k c) : PyData.eqv (pdRef k) (pdRef k) = true := by cases h <;> decide +kernel
/-! ### bounds -/
def bB : Nat → Nat
  | 0 => 0
  | i + 1 => stepB (bB i)
theorem bB_eq : ∀ i, bB i + 10 ^ 30 = 10 ^ 30 * 2 ^ i
  | 0 => by decide
  | i + 1 => by
    have := bB_eq i
    show stepB (bB i) + 10 ^ 30 = _
    unfold stepB
    have e : 10 ^ 30 * 2 ^ (i + 1) = 10 ^ 30 * 2 ^ i * 2 := by rw [Nat.pow_succ 2 i, Nat.mul_assoc]
    omega
theorem bB_log {i : Nat} (h : i ≤ 20) {x : Int} (hx : x.natAbs ≤ bB i) : x.natAbs.log2 < 1920 := by
  have h1 := bB_eq i
  have h2 : 2 ^ i ≤ 2 ^ 20 := Nat.pow_le_pow_right (by decide) h
  have h3 : 10 ^ 30 * 2 ^ i ≤ 10 ^ 30 * 2 ^ 20 := Nat.mul_le_mul_left _ h2
  have h4 : 10 ^ 30 * 2 ^ 20 < 2 ^ 130 := by decide
  by_cases h0 : x.natAbs = 0
  · rw [h0]; decide
  · have h5 : x.natAbs.log2 < 130 := (Nat.log2_lt h0).mpr (by omega)
    omega
def spLaw (K : PySem.W.Frag) : Sp := fun vs H Q _ => ∃ p ns, vs = [.ref p] ∧ SqL K H p ((ns : List Int).map V.int) ∧ ns.length ≤ 63 ∧ ∀ H', Q (.bl true) H'
/-- how the law stands before a round -/
structure Inv1 (K : PySem.W.Frag) (ls : Str) (sp np kp d md : Addr) (names : List Str) (i : Nat) (H : Hp) : Prop where
  st : StAt H sp
  nm : LstAt H np (strsD names)
  nn : np ≠ sp
  mq : md ≠ kp
  dk : DeskIs K H d ls md
  ks : kp ≠ sp
  ex : ∃ G L, Kept ls (bB i) G L ∧ SDct H md (fun x => (G x).map dMach) i ∧ SDct H kp (fun x => (L x).map dTrip) i
theorem SDct.mono {H : Hp} {p : Addr} {F : Str → Option D} {n m : Nat} (h : SDct H p F n) (hl : n ≤ m) : SDct H p F m := by
  obtain ⟨kvs, e, hn, r⟩ := h
  exact ⟨kvs, e, Nat.le_trans hn hl, r⟩
theorem setF_mapT {L : Str → Option Trip} {new : Str} {t : Trip} : setF (fun x => (L x).map dTrip) new (dTrip t) = fun x => (setF L new t x).map dTrip := by
  funext x
  unfold setF
  split <;> rfl
theorem bB_up (i : Nat) : bB i ≤ bB (i + 1) := by
  show bB i ≤ stepB (bB i)
  unfold stepB
  omega
theorem Inv1.same {K : PySem.W.Frag} {ls : Str} {sp np kp d md : Addr} {names : List Str} {i : Nat} {H H' : Hp} (h : Inv1 K ls sp np kp d md names i H) (s : Same H H') : Inv1 K ls sp np kp d md names i H' := by
  obtain ⟨G, L, hk, hG, hL⟩ := h.ex
  exact ⟨h.st.same s, h.nm.same s, h.nn, h.mq, h.dk.same s, h.ks, G, L, hk, hG.same s, hL.same s⟩
theorem Inv1.up {K : PySem.W.Frag} {ls : Str} {sp np kp d md : Addr} {names : List Str} {i : Nat} {H : Hp} (h : Inv1 K ls sp np kp d md names i H) : Inv1 K ls sp np kp d md names (i + 1) H := by
  obtain ⟨G, L, hk, hG, hL⟩ := h.ex
  exact ⟨h.st, h.nm, h.nn, h.mq, h.dk, h.ks, G, L, hk.mono (bB_up i), hG.mono (Nat.le_succ i), hL.mono (Nat.le_succ i)⟩
theorem r_lenSq {K : PySem.W.Frag} {H : Hp} {Q : VK} {p : Addr} {xs : List V} (h : SqL K H p xs) (k : Q (.int xs.length) H) : qLen K [.ref p] H Q := by
  unfold qLen
  exact ⟨p, xs, rfl, .inl h, k⟩
section
variable {P : Program} {w : World} {K : PySem.W.Frag} {mg : Str → Option Value} {base : Heap}
abbrev s_law : Stmt := top 144
theorem sc_law : FnScope ["_law_script", "_law_state_here", "_law_letters_here", "_law_names", "_law_desk", "_law_kept", "_law_k", "_law_line_here", "_law_row_here", "_law_new", "_law_due", "_law_answer"] ["_law_script"] (defScope s_law) := ⟨rfl, rfl, rfl, by decide +kernel, rfl, by decide +kernel, by decide +kernel⟩
theorem ok_law (T : Txt w K mg) {f : Addr} {fd : FuncData} (F : FunD K "law" "law" (defArgs (top 144)) (defBody (top 144)) (defScope (top 144)) [] [] f fd) : FnOk P w K mg base CX0 9 f fd ["_law_script"] (spLaw K) := by
  refine F.ok sc_law (fun vs H Q E h => ?_) (fun cdv A outer s H vs Q E hr h => ?_)
  · obtain ⟨_, _, rfl, _⟩ := h; rfl
  · obtain ⟨p, ns, rfl, hp, hn63, k⟩ := h
    refine ⟨_, PSs.nox (pss_cons (ps_set (i := 1) sc_law.nd rfl (Or.inl rfl) (pe_c0 (ok__law_state T) hr (by decide) rfl (pa_cons (pv 0) pa_nil)))
      (pss_cons (ps_set (i := 2) sc_law.nd rfl (Or.inl rfl) (pe_c0 (ok__law_letters T) hr (by decide) rfl (pa_cons (pv 1) pa_nil)))
      (pss_cons (ps_set (i := 3) sc_law.nd rfl (Or.inl rfl) (pe_c0 (ok__law_calls T) hr (by decide) rfl (pa_cons (pv 1) pa_nil)))
      (pss_cons (ps_set (i := 4) sc_law.nd rfl (Or.inl rfl) (pe_mkD (mk_Desk T) hr (by decide) rfl T.g_Desk (pa_cons (pe_mk00 T.m0_Costs rfl T.g_Costs) (pa_cons (pv 2) pa_nil))))
      (pss_cons (ps_set (i := 5) sc_law.nd rfl (Or.inl rfl) pe_dnewK)
      (pss_cons (ps_for PassesOwn.never rfl (pi_range1 rfl T.f_range (pa_cons (pe_callB (call_max2 rfl) (by rfl) T.f_max (by decide +kernel) (pa_cons pe_int (pa_cons (pe_callB (call_min2 rfl) (by rfl) T.f_min (by decide +kernel) (pa_cons (pe_callB (call_lenQ K) (by rfl) T.f_len PySem.boot_len (pa_cons (pv 0) pa_nil)) (pa_cons pe_int pa_nil))) pa_nil))) pa_nil)) (pg_name (i := 6) sc_law.nd rfl (Or.inl rfl))
      (pss_cons (ps_set (i := 7) sc_law.nd rfl (Or.inl rfl) (pe_c0 (ok__law_row T) hr (by decide) rfl (pa_cons (pv 1) (pa_cons (pv 2) (pa_cons (pv 3) (pa_cons (pv 5) pa_nil))))))
      (pss_cons (ps_asg (pv 7) (pg_tup (n := 3) rfl (pgs_cons (pg_name (i := 8) sc_law.nd rfl (Or.inl rfl)) (pgs_cons (pg_name (i := 9) sc_law.nd rfl (Or.inl rfl)) (pgs_cons (pg_name (i := 10) sc_law.nd rfl (Or.inl rfl)) pgs_nil)))))
      (pss_cons (ps_set (i := 11) sc_law.nd rfl (Or.inl rfl) (pe_c0 (ok__law_told T) hr (by decide) rfl (pa_cons (pv 4) (pa_cons (pv 8) pa_nil))))
      (pss_cons (ps_if (pt_cmpR op_eq (pe_ix (ix_tupQ K) (pv 10) pe_int (fun _ _ => rfl)) pe_str (nomark _)) (pss_cons (ps_if (pt_cmpR (op_neD hr.units) (pv 11) (pv 10) (nomark _)) (pss_one (ps_ret pe_bl)) pss_nil)
      (pss_one ps_continue)) pss_nil)
      (pss_cons (ps_dput (hu_of hr) (pv 5) (pv 9) (pv 10) rfl)
      (pss_cons (ps_if (pt_cmpR (op_neD hr.units) (pv 11) pe_str (nomark _)) (pss_one (ps_ret pe_bl)) pss_nil)
      (pss_one (ps_if (PW.pt (pw_and (pt_cmpR op_lt (pe_ix (ix_tupQ K) (pv 10) pe_int (fun _ _ => rfl)) pe_int (nomark _)) (pw_and1 (pt_cmpR op_ne (pe_m0X (ok_Desk_say T) takes0 hr (by decide) (pv 4) (pa_cons (pe_op op_add_str pe_str (pv 9)) pa_nil)) (pe_callTy call_str_val (by rfl) T.f_str (by decide +kernel) (pa_cons (pe_ix (ix_tupQ K) (pv 10) pe_int (fun _ _ => rfl)) pa_nil)) (nomark _))))) (pss_one (ps_ret pe_bl)) pss_nil)))))))))
      (pss_one (ps_ret pe_bl)))))))), ?_⟩
    refine ⟨_, rfl, p, ns, rfl, hp, hn63, fun sp H1 s1 hsp hst => ?_⟩
    refine ⟨_, rfl, sp, rfl, hst, fun H2 ls f2 hL => ?_⟩
    refine ⟨_, rfl, sp, rfl, f2.2, fun H3 np names f3 hnp hnn hne hn9 hno hnl => ?_⟩
    have f13 := f2.trans f3
    have s3 : Same H H3 := FrS.same hsp s1 f13
    intro ka kdx hka hkdx hkne
    have sk : Same H3 (upd (upd H3 kdx (.own ka)) ka (.ins (He.ga K "Costs") kdx [])) := (Same.upd' hkdx).trans (Same.upd' (by rw [upd_ne (fun e => hkne e.symm)]; exact hka))
    have ek : (upd (upd H3 kdx (.own ka)) ka (.ins (He.ga K "Costs") kdx [])) ka = some (.ins (He.ga K "Costs") kdx []) := upd_same
    generalize upd (upd H3 kdx (.own ka)) ka (.ins (He.ga K "Costs") kdx []) = H4 at sk ek
    refine ⟨_, rfl, fun d ddx hd hddx hdne => ?_⟩
    have sd : Same H4 (upd (upd H4 ddx (.own d)) d (.ins (He.ga K "Desk") ddx [])) := (Same.upd' hddx).trans (Same.upd' (by rw [upd_ne (fun e => hdne e.symm)]; exact hd))
    have ed : (upd (upd H4 ddx (.own d)) d (.ins (He.ga K "Desk") ddx [])) d = some (.ins (He.ga K "Desk") ddx []) := upd_same
    refine ⟨d, ddx, .ref ka, ls, rfl, ed, ⟨ka, kdx, rfl, sd _ _ ek⟩, fun md H6 f6 ed6 hmd hsd => ⟨rfl, ?_⟩⟩
    have s46 : Same H4 H6 := fun b o e => f6 b o (fun z => by rw [z, hd] at e; cases e) (sd b o e)
    intro kp hkp
    have sp7 : Same H6 (upd H6 kp (.dK [])) := Same.upd' hkp
    have hkd : SDct (upd H6 kp (.dK [])) kp (fun _ => none) 0 := SDct.nil hkp
    generalize upd H6 kp (.dK []) = H7 at sp7 hkd
    have s37 : Same H3 H7 := sk.trans (s46.trans sp7)
    have s7 : Same H H7 := s3.trans s37
    have hmk : md ≠ kp := fun e => by
      obtain ⟨kvs, e2, _⟩ := hsd
      rw [e, hkp] at e2; cases e2
    have hks : kp ≠ sp := fun e => by
      obtain ⟨xs, _, e2⟩ := f13.2.same (sk.trans s46)
      rw [← e, hkp] at e2; cases e2
    refine ⟨_, rfl, r_lenSq (sqL_same s7 hp) ⟨_, _, rfl, _, _, rfl, ?_⟩⟩
    rw [List.length_map]
    generalize hN : (if (if (20 : Int) < (ns.length : Int) then (20 : Int) else (ns.length : Int)) > 6 then (if (20 : Int) < (ns.length : Int) then (20 : Int) else (ns.length : Int)) else 6) = N
    have hN20 : N ≤ 20 := by rw [← hN]; split <;> split <;> omega
    have hN6 : 6 ≤ N := by rw [← hN]; split <;> split <;> omega
    refine ⟨N, rfl, by omega, by omega, for_it (walk_range0 (n := N.toNat)) (fun i σ H8 => ∃ y6 y7 y8 y9 y10 y11, σ = [some (.ref p), some (.ref sp), some (.str ls), some (.ref np), some (.ref d), some (.ref kp), y6, y7, y8, y9, y10, y11] ∧ Inv1 K ls sp np kp d md names i H8)
      ⟨none, none, none, none, none, none, rfl, f13.2.same s37, hnl.same s37, hnn, hmk, ⟨ddx, .ref ka, sp7 _ _ ed6, ka, kdx, rfl, sp7 _ _ (s46 _ _ ek)⟩, hks, fun _ => none, fun _ => none, fun _ => .inl ⟨rfl, rfl⟩, hsd.same sp7, hkd⟩ (fun _ _ _ _ _ => trivial) ?_ ?_⟩
    · rintro i x σ H8 H9 hi ⟨y6, y7, y8, y9, y10, y11, rfl, hI⟩ ⟨rfl, rfl⟩
      have hi20 : i < 20 := by omega
      obtain ⟨hst, hnm, _, _, hdk, _, G, L, hkept, hG, hLk⟩ := hI
      refine ⟨_, rfl, _, rfl, _, rfl, _, rfl, sp, ls, np, kp, names, bB i, G, L, i, rfl, hst, hL, hnm, hnn, hne, hn9, hno, hLk, hks, hkept, ?_, ?_⟩
      · rintro Ha row new M t v fa hnew hfit hgood hv
        obtain ⟨q, x1, x2, x3, rfl, hq, h1, h2, h3⟩ := rep_tup3 hv
        cases h1
        cases h2
        refine ⟨_, rfl, q, _, rfl, SqT.of hq, rfl, _, _, rfl, _, _, rfl, _, _, rfl, rfl, ?_⟩
        have hdka := FrS.desk hst fa hdk
        have hGa := FrS.sdct hst fa hG
        have hLa := FrS.sdct hst fa hLk
        have hnma := fa.lst hst hnn hnm
        refine ⟨_, rfl, _, rfl, d, ls, md, G, i, row, .put new M, rfl, hdka, hGa, by omega, hfit, (fun r e => by cases e), ?_, fun c e => by cases e⟩
        rintro new' M' e Hb fb hGb
        cases e
        have fb' : Fr1 md Ha Hb := fb
        have hdb : Rep Hb (dTrip t) x3 := h3.up (fb'.tup hGa)
        have hdkb := fb'.desk hGa hdka
        have hLb := fb'.sdct hGa hLa hmk.symm
        have hnmb := fb'.lst hGa hnma
        have hstb := fb'.st hGa fa.2
        refine ⟨_, rfl, r_ixT 0 hdb rfl fun u hu => ?_⟩
        cases hu
        refine ⟨rfl, _, rfl, iteF ?_⟩
        obtain ⟨Hc, dp, kc, tc, oc, dc⟩ := hLb.put (x := new) hdb (Nat.lt_of_lt_of_le hi20 (by decide))
        refine ⟨_, rfl, _, rfl, _, rfl, kp, Hc, rfl, dp, ?_⟩
        rw [setF_mapT] at dc
        have fc : Fr1 kp Hb Hc := fun b o hb e => by rw [oc b hb]; exact e
        have hdc := hdb.up tc
        have hdkc := fc.desk hLb hdkb
        have hGc := fc.sdct hLb hGb hmk
        have hIc : Inv1 K ls sp np kp d md names (i + 1) Hc := ⟨fc.st hLb hstb, fc.lst hLb hnmb, hnn, hmk, hdkc, hks, setF G new M, setF L new t, (hkept.mono (bB_up i)).put hgood, hGc, dc⟩
        refine ⟨_, rfl, _, _, .str _, .str _, by decide +kernel, by decide +kernel, _, rfl, ?_⟩
        rw [show PyData.eqv (.str "ok") (.str "ok") = true by decide +kernel]
        refine iteF ?_
        refine ⟨_, rfl, r_ixT 0 hdc rfl fun u hu => ?_⟩
        cases hu
        refine ⟨_, _, rfl, rfl, _, rfl, ite2 (fun hc => ?_) (fun hc => ?_)⟩
        · obtain ⟨ddx2, kd2, hdi2, hkc2⟩ := id hdkc
          have hfc : Fit K ls (setF G new M) ("cheapest" ++ " " ++ new) (.told t.r) := fit_cheap T hnew (.told (by unfold setF; rw [if_pos rfl]) hgood.wf (by rw [hgood.el]; exact hL.nd) hgood.val fun y e => bB_log (i := i + 1) (by omega) (hgood.bd y e))
          have ech : ("cheapest " ++ new : Str) = "cheapest" ++ " " ++ new := by rw [show ("cheapest " : Str) = "cheapest" ++ " " by decide +kernel]
          have lch : ("cheapest " : Str).length = 9 := by decide +kernel
          have n8 := hnew.le8
          rw [← ech] at hfc
          obtain ⟨form, n, kk, s0, b, rest, hlen, hsp2, hfm, hnk, hb1, hb2, hnms, hn, hsaid⟩ := hfc
          refine ⟨_, rfl, d, ddx2, _, rfl, hdi2, rfl, _, rfl, _, _, rfl, rfl, small (by omega), ?_⟩
          refine ⟨d, ls, md, setF G new M, i + 1, _, form, n, kk, s0, b, rest, .told t.r, rfl, hdkc, hGc, by omega, hlen, hsp2, hfm, hnk, hb1, hb2, hnms, hn, hsaid, (fun new M e => by cases e), (fun c e => by cases e), fun r e Hd sd => ?_⟩
          cases e
          refine ⟨_, rfl, r_ixT 1 (hdc.same sd) rfl fun u hu => ?_⟩
          cases hu
          refine ⟨t.r, rfl, fun y e => bB_log (i := i + 1) (by omega) (hgood.bd y e), rfl, _, rfl, ?_⟩
          rw [str_eq]
          exact iteF ⟨_, _, _, _, _, _, rfl, hIc.same sd⟩
        · exact ⟨_, _, _, _, _, _, rfl, hIc⟩
      · rintro Ha row new kk c pl v fa hcode hfit hlst hpne hpn hv
        obtain ⟨q, x1, x2, x3, rfl, hq, h1, h2, h3⟩ := rep_tup3 hv
        cases h1
        cases h2
        refine ⟨_, rfl, q, _, rfl, SqT.of hq, rfl, _, _, rfl, _, _, rfl, _, _, rfl, rfl, ?_⟩
        have hdka := FrS.desk hst fa hdk
        have hGa := FrS.sdct hst fa hG
        have hLa := FrS.sdct hst fa hLk
        have hnma := fa.lst hst hnn hnm
        have hIa : Inv1 K ls sp np kp d md names i Ha := ⟨fa.2, hnma, hnn, hmk, hdka, hks, G, L, hkept, hGa, hLa⟩
        refine ⟨_, rfl, _, rfl, d, ls, md, G, i, row, .no c, rfl, hdka, hGa, by omega, hfit, (fun r e => by cases e), (fun new M e => by cases e), fun c' e => ⟨kk, by cases e; exact hcode, ?_⟩⟩
        intro p2 v2 Hb sb hp2 hl2 h2'
        refine ⟨_, rfl, r_ixT 0 (h3.same sb) rfl fun u hu => ?_⟩
        cases hu
        refine ⟨rfl, _, rfl, iteT ?_⟩
        refine ⟨_, rfl, _, rfl, pdRef kk, pdRef kk, dp_ref hl2 h2', dp_ref (hlst.same sb) (h3.same sb), shp_ref hcode, shp_ref hcode, _, rfl, ?_⟩
        rw [eqv_ref hcode]
        exact iteF ⟨_, _, _, _, _, _, rfl, (hIa.same sb).up⟩
    · rintro σ H8 ⟨y6, y7, y8, y9, y10, y11, rfl, hI⟩
      exact k H8
end
end L2.Ww
set_option Elab.async false
set_option linter.all false
set_option maxRecDepth 100000
set_option maxHeartbeats 4000000
namespace L2.Ww
open PySem PySem.Spec PyProof.Rows
theorem law_fn {P : Program} {w : World} {K : PySem.W.Frag} {mg : Str → Option Value} (T : Txt w K mg) {fa : Addr} (hfa : mg ("law" : Str) = some (.ref fa)) :
    ∃ fd : FuncData, (∀ (s : Shared) (v : Value), BindsTo s fd ⟨[v], []⟩ [("_law_script", v)]) ∧ ∀ base : Heap, FnOk P w K mg base CX0 9 fa fd ["_law_script"] (spLaw K) := by
  obtain ⟨f, fd, hm, F⟩ := T.d_law
  have e := hfa.symm.trans hm
  cases e
  have b := FunD.bindsA (ps := ["_law_script"]) F (fun _ _ _ _ _ _ us hl => match us, hl with | [_], _ => rfl)
  exact ⟨fd, fun s v => b s [v] rfl, fun base => ok_law T F⟩
end L2.Ww
open PySem PySem.W PySem.Calls PyProof.Rows
theorem PySem.Challenge.cw_weighwalk_k96_whole_cheapest_at_a_desk_holds : PySem.Challenge.rw_weighwalk_k96_whole_cheapest_at_a_desk.Holds := by
  w_on; o_law
  refine HandSHeadRun.head_any (r := OpenLaw.row PySem.Challenge.rw_weighwalk_k96_whole_cheapest_at_a_desk) (q := view (OpenLaw.row PySem.Challenge.rw_weighwalk_k96_whole_cheapest_at_a_desk).prog [144]) (H := L2.Ww.Hd.hk) (ob := L2.Ww.Hd.ob) (M := 20000) (loose := L2.Ww.Hd.names) (d := HandSHeadRun.topDef (OpenLaw.row PySem.Challenge.rw_weighwalk_k96_whole_cheapest_at_a_desk).prog 144) (kwd := []) L2.Ww.Hd.ob_eq
    (by kernel_rfl) (fun s => by kernel_rfl) L2.Ww.Hd.run (by kernel_rfl) (by kernel_rfl) (by kernel_rfl) (by rfl) (by first | assumption | decide +kernel) (by decide +kernel) ⟨rfl, rfl, rfl, rfl, rfl, by decide +kernel⟩ ?hw ?hc
  case hw => w_witness2
  case hc =>
    refine L2.walk_ofE (l := PySem.Challenge.rw_weighwalk_k96_whole_cheapest_at_a_desk) (n := 63) (k := 9) (x := "_law_script") (CX := L2.CX0) rfl (by decide) (by kernel_rfl) ⟨rfl, by decide, by decide⟩ ?F (fun _ _ _ _ z => z)
    intro w mg fa h Y G hmg0
    obtain ⟨K, KX, c⟩ := Y
    have hmg : mg ("law" : PySem.Str) = some (.ref fa) := by
      have e : (HandSHeadRun.topDef (OpenLaw.row PySem.Challenge.rw_weighwalk_k96_whole_cheapest_at_a_desk).prog 144).name = ("law" : PySem.Str) := by kernel_rfl
      rw [← e]
      exact hmg0
    obtain ⟨fd, hb, hF⟩ := L2.Ww.law_fn (P := (PySem.Challenge.rw_weighwalk_k96_whole_cheapest_at_a_desk).prog) (w := w) (L2.Ww.Hd.txt_of KX G c) hmg
    exact ⟨K, fd, L2.Ww.spLaw K, KX, hb, fun H a ns hl _ hS => ⟨a, ns, rfl, hS, hl, fun _ => rfl⟩, fun base _ _ => hF base⟩
