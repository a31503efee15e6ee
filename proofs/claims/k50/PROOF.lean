import PyProof.Rows.All
import Wide.All
import OpenK.AllK
import Wide.FinOn
import HandS.ForList
import HandS.ForMost
import HandS.Zip
import HandS.Rev
import HandS.ClsMeth
import KE.GoesMore
import HandS.ForExc
import HandS.ExcInit
import HandS.Nested
import HandS.SetKeys
import HandS.TupAny
import HandS.TupLen
import HandS.Deep
import HandS.WideBits
import PyProof.DictMoreH
import PyProof.StrBlock2
import HandS.IsInst
import PySem.Challenge.RW_rootstamp_k50_whole_places_and_growths
import KE.KIntText
import HandS.RevTup
import HandS.EndTab
set_option Elab.async false
set_option maxRecDepth 100000
/-! Rootstamp, the plain law: stamps, terms, ways, papers, growths; no program in sight. -/
namespace Rs
open PySem L2
abbrev Stamp := Key
abbrev Term := List Key
def half (n : Nat) : Nat := 2 ^ (n - 1).log2
theorem half_pos (n : Nat) : 1 ≤ half n := Nat.one_le_two_pow
theorem half_lt {n : Nat} (h : 2 ≤ n) : half n < n := by
  have := Nat.log2_self_le (n := n - 1) (by omega)
  unfold half; omega
theorem half_ge {n : Nat} (h : 2 ≤ n) : n ≤ 2 * half n := by
  have := Nat.lt_log2_self (n := n - 1)
  rw [Nat.pow_succ] at this
  unfold half; omega
theorem half_eq {n e : Nat} (h : half n < e) (he : e ≤ n) : half e = half n := by
  have hp := half_pos n
  have q : (e - 1).log2 = (n - 1).log2 := by
    rw [Nat.log2_eq_iff (by omega)]
    have h1 : 2 ^ (n - 1).log2 ≤ e - 1 := by have : half n < e := h; unfold half at this; omega
    have h2 := Nat.lt_log2_self (n := n - 1)
    exact ⟨h1, by omega⟩
  unfold half; rw [q]
theorem half_le_pow {n d : Nat} (h2 : 2 ≤ n) (h : n ≤ 2 ^ (d + 1)) : half n ≤ 2 ^ d := by
  have q := half_lt h2
  unfold half at q ⊢
  have : (n - 1).log2 < d + 1 := (Nat.pow_lt_pow_iff_right (by decide : 1 < 2)).mp (Nat.lt_of_lt_of_le q h)
  exact Nat.pow_le_pow_right (by decide) (by omega)
/-- the ways: true is a turn to the right -/
def ways (p n : Nat) : List Bool := if h : n ≤ 1 then [] else if p < half n then false :: ways p (half n) else true :: ways (p - half n) (n - half n)
termination_by n
decreasing_by
  · exact half_lt (by omega)
  · have := half_pos n; omega
theorem ways_one {p n : Nat} (h : n ≤ 1) : ways p n = [] := by rw [ways, dif_pos h]
theorem ways_l {p n : Nat} (h : 2 ≤ n) (hp : p < half n) : ways p n = false :: ways p (half n) := by rw [ways, dif_neg (by omega), if_pos hp]
theorem ways_r {p n : Nat} (h : 2 ≤ n) (hp : ¬ p < half n) : ways p n = true :: ways (p - half n) (n - half n) := by rw [ways, dif_neg (by omega), if_neg hp]
theorem ways_len : ∀ (d : Nat) {p n : Nat}, n ≤ 2 ^ d → (ways p n).length ≤ d
  | 0, p, n, h => by rw [ways_one (by simpa using h)]; exact Nat.le_refl _
  | d + 1, p, n, h => by
    by_cases h1 : n ≤ 1
    · rw [ways_one h1]; exact Nat.zero_le _
    · have a := half_le_pow (by omega) h
      have b := half_ge (n := n) (by omega)
      by_cases hp : p < half n
      · rw [ways_l (by omega) hp]; exact Nat.succ_le_succ (ways_len d a)
      · rw [ways_r (by omega) hp]; exact Nat.succ_le_succ (ways_len d (by omega))
/-- a joint -/
def tEntry (e : Key) : Term := [.inr "entry", e]
def tJoint (l r : Key) : Term := [.inr "joint", l, r]
def tRow (n : Nat) (s : Key) : Term := [.inr "row", .inl n, s]
def jn (b : Bool) (s m : Key) : Term := if b then tJoint m s else tJoint s m
theorem tEntry_inj {a b : Key} (h : tEntry a = tEntry b) : a = b := by
  unfold tEntry at h; injection h with _ h; injection h
theorem tJoint_inj {a b c d : Key} (h : tJoint a b = tJoint c d) : a = c ∧ b = d := by
  unfold tJoint at h; injection h with _ h; injection h with h1 h; injection h with h2 _; exact ⟨h1, h2⟩
theorem tRow_inj {n m : Nat} {a b : Key} (h : tRow n a = tRow m b) : a = b := by
  unfold tRow at h; injection h with _ h; injection h with _ h; injection h
theorem jn_inj {b : Bool} {s m s' m' : Key} (h : jn b s m = jn b s' m') : s = s' := by
  cases b
  · exact (tJoint_inj h).1
  · exact (tJoint_inj h).2

/-! ### what a stamper has told -/
abbrev TR := Term → Key → Prop
def Fn (T : TR) : Prop := ∀ t s s', T t s → T t s' → s = s'
def InjOn (T : TR) (L : List Term) : Prop := ∀ a ∈ L, ∀ b ∈ L, ∀ s, T a s → T b s → a = b
theorem InjOn.sub {T : TR} {L L' : List Term} (h : InjOn T L) (hs : ∀ x ∈ L', x ∈ L) : InjOn T L' := fun a ha b hb => h a (hs a ha) b (hs b hb)
abbrev LeT (T T' : TR) : Prop := ∀ t s, T t s → T' t s

/-! ### papers of places -/
/-- the terms of a paper, the row's own left out; the last one not yet asked -/
def PT (T : TR) : List Bool → List Key → Key → List Term → Prop
  | [], [], e, ts => ts = [tEntry e]
  | b :: bs, m :: ms, e, ts => ∃ ts1 t s, PT T bs ms e ts1 ∧ ts1.getLast? = some t ∧ T t s ∧ ts = ts1 ++ [jn b s m]
  | _, _, _, _ => False
theorem PT.mono {T T' : TR} (l : LeT T T') : ∀ {bs : List Bool} {ms : List Key} {e : Key} {ts : List Term}, PT T bs ms e ts → PT T' bs ms e ts
  | [], [], _, _, h => h
  | _ :: _, _ :: _, _, _, ⟨ts1, t, s, h, a, b, c⟩ => ⟨ts1, t, s, h.mono l, a, l _ _ b, c⟩
theorem PT.len {T : TR} : ∀ {bs : List Bool} {ms : List Key} {e : Key} {ts : List Term}, PT T bs ms e ts → bs.length = ms.length
  | [], [], _, _, _ => rfl
  | _ :: _, _ :: _, _, _, ⟨_, _, _, h, _⟩ => congrArg (· + 1) h.len
theorem PT.tlen {T : TR} : ∀ {bs : List Bool} {ms : List Key} {e : Key} {ts : List Term}, PT T bs ms e ts → ts.length = bs.length + 1
  | [], [], _, _, h => by rw [show _ = _ from h]; rfl
  | _ :: _, _ :: _, _, _, ⟨ts1, _, _, h, _, _, c⟩ => by rw [c, List.length_append, h.tlen]; rfl
structure PTop (T : TR) (bs : List Bool) (ms : List Key) (e : Key) (ts : List Term) (s : Key) : Prop where
  pt : PT T bs ms e ts
  at_ : ∃ t, ts.getLast? = some t ∧ T t s
theorem PTop.mono {T T' : TR} (l : LeT T T') {bs : List Bool} {ms : List Key} {e : Key} {ts : List Term} {s : Key} (h : PTop T bs ms e ts s) : PTop T' bs ms e ts s :=
  ⟨h.pt.mono l, let ⟨t, a, b⟩ := h.at_; ⟨t, a, l _ _ b⟩⟩
theorem PTop.nil {T : TR} {ms : List Key} {e : Key} {ts : List Term} {s : Key} (h : PTop T [] ms e ts s) : ms = [] ∧ ts = [tEntry e] ∧ T (tEntry e) s := by
  obtain ⟨h1, t, h2, h3⟩ := h
  cases ms with
  | cons _ _ => exact h1.elim
  | nil =>
    have e1 : ts = [tEntry e] := h1
    subst e1
    cases h2
    exact ⟨rfl, rfl, h3⟩
theorem PTop.cons {T : TR} {b : Bool} {bs : List Bool} {ms : List Key} {e : Key} {ts : List Term} {s : Key} (h : PTop T (b :: bs) ms e ts s) :
    ∃ m ms1 ts1 s1, ms = m :: ms1 ∧ PTop T bs ms1 e ts1 s1 ∧ ts = ts1 ++ [jn b s1 m] ∧ T (jn b s1 m) s := by
  obtain ⟨h1, t, h2, h3⟩ := h
  cases ms with
  | nil => exact h1.elim
  | cons m ms1 =>
    obtain ⟨ts1, t1, s1, p, q, r, e1⟩ := h1
    subst e1
    rw [List.getLast?_append] at h2
    cases h2
    exact ⟨m, ms1, ts1, s1, rfl, ⟨p, t1, q, r⟩, rfl, h3⟩
/-- one paper, one entry -/
theorem PTop.uniq {T : TR} : ∀ {bs : List Bool} {ms ms' : List Key} {e e' : Key} {ts ts' : List Term} {s : Key}, PTop T bs ms e ts s → PTop T bs ms' e' ts' s → InjOn T (ts ++ ts') → e = e'
  | [], _, _, _, _, _, _, _, h, h', I => by
    obtain ⟨_, rfl, a⟩ := h.nil
    obtain ⟨_, rfl, b⟩ := h'.nil
    exact tEntry_inj (I _ (by simp) _ (by simp) _ a b)
  | b :: bs, _, _, _, _, _, _, _, h, h', I => by
    obtain ⟨m, ms1, ts1, s1, rfl, p, rfl, r⟩ := h.cons
    obtain ⟨m', ms1', ts1', s1', rfl, p', rfl, r'⟩ := h'.cons
    have q := jn_inj (I _ (by simp) _ (by simp) _ r r')
    subst q
    refine p.uniq p' (I.sub fun x hx => ?_)
    simp only [List.mem_append] at hx ⊢
    rcases hx with hx | hx
    · exact .inl (.inl hx)
    · exact .inr (.inl hx)

/-! ### papers of growth -/
inductive JT (T : TR) : Nat → Nat → List Key → List Term → Key → List Term → Key → Prop
  | same (n : Nat) (m : Key) : JT T n n [m] [] m [] m
  | left {n e : Nat} {ms : List Key} {m y o y' : Key} {yts ots : List Term} : e < n → e ≤ half n → JT T (half n) e ms yts y ots o → T (tJoint y m) y' → JT T n e (ms ++ [m]) (yts ++ [tJoint y m]) y' ots o
  | right {n e : Nat} {ms : List Key} {m y o y' o' : Key} {yts ots : List Term} : e < n → half n < e → JT T (n - half n) (e - half n) ms yts y ots o → T (tJoint m y) y' → T (tJoint m o) o' →
      JT T n e (m :: ms) (yts ++ [tJoint m y]) y' (ots ++ [tJoint m o]) o'
theorem JT.mono {T T' : TR} (l : LeT T T') {n e : Nat} {ms : List Key} {yts ots : List Term} {y o : Key} (h : JT T n e ms yts y ots o) : JT T' n e ms yts y ots o := by
  induction h with
  | same n m => exact .same n m
  | left a b _ c ih => exact .left a b ih (l _ _ c)
  | right a b _ c d ih => exact .right a b ih (l _ _ c) (l _ _ d)
theorem JT.le {T : TR} {n e : Nat} {ms : List Key} {yts ots : List Term} {y o : Key} (h : JT T n e ms yts y ots o) : e ≤ n := by
  cases h with
  | same => exact Nat.le_refl _
  | left a => omega
  | right a => omega
theorem JT.inv_same {T : TR} {n : Nat} {ms : List Key} {yts ots : List Term} {y o : Key} (h : JT T n n ms yts y ots o) : ms = [y] ∧ o = y := by
  cases h with
  | same => exact ⟨rfl, rfl⟩
  | left a => omega
  | right a => omega
theorem JT.inv_left {T : TR} {n e : Nat} {ms : List Key} {yts ots : List Term} {y o : Key} (h : JT T n e ms yts y ots o) (h1 : e < n) (h2 : e ≤ half n) :
    ∃ ms1 m yts1 y1, ms = ms1 ++ [m] ∧ yts = yts1 ++ [tJoint y1 m] ∧ JT T (half n) e ms1 yts1 y1 ots o ∧ T (tJoint y1 m) y := by
  cases h with
  | same => omega
  | left a b j t => exact ⟨_, _, _, _, rfl, rfl, j, t⟩
  | right a b => omega
theorem JT.inv_right {T : TR} {n e : Nat} {ms : List Key} {yts ots : List Term} {y o : Key} (h : JT T n e ms yts y ots o) (h1 : e < n) (h2 : half n < e) :
    ∃ ms1 m yts1 y1 ots1 o1, ms = m :: ms1 ∧ yts = yts1 ++ [tJoint m y1] ∧ ots = ots1 ++ [tJoint m o1] ∧ JT T (n - half n) (e - half n) ms1 yts1 y1 ots1 o1 ∧ T (tJoint m y1) y ∧ T (tJoint m o1) o := by
  cases h with
  | same => omega
  | left a b => omega
  | right a b j t u => exact ⟨_, _, _, _, _, _, rfl, rfl, rfl, j, t, u⟩
/-- one paper, one mark -/
theorem JT.uniq {T : TR} (F : Fn T) {n e : Nat} {ms : List Key} {yts ots : List Term} {y o : Key} (h : JT T n e ms yts y ots o) :
    ∀ {ms' : List Key} {yts' ots' : List Term} {o' : Key}, JT T n e ms' yts' y ots' o' → InjOn T (yts ++ yts') → o = o' := by
  induction h with
  | same n m =>
    intro ms' yts' ots' o' h' _
    exact h'.inv_same.2.symm
  | left a b _ c ih =>
    intro ms' yts' ots' o' h' I
    obtain ⟨ms1, m1, yts1, y1, rfl, rfl, j, t⟩ := h'.inv_left a b
    obtain ⟨rfl, rfl⟩ := tJoint_inj (I _ (by simp) _ (by simp) _ c t)
    refine ih j (I.sub fun x hx => ?_)
    simp only [List.mem_append] at hx ⊢
    rcases hx with hx | hx
    · exact .inl (.inl hx)
    · exact .inr (.inl hx)
  | right a b _ c d ih =>
    intro ms' yts' ots' o' h' I
    obtain ⟨ms1, m1, yts1, y1, ots1, o1, rfl, rfl, rfl, j, t, u⟩ := h'.inv_right a b
    obtain ⟨rfl, rfl⟩ := tJoint_inj (I _ (by simp) _ (by simp) _ c t)
    have q := ih j (I.sub fun x hx => by
      simp only [List.mem_append] at hx ⊢
      rcases hx with hx | hx
      · exact .inl (.inl hx)
      · exact .inr (.inl hx))
    subst q
    exact F _ _ _ d u
/-- a place under a head and under an elder one -/
theorem JT.place {T : TR} {n e : Nat} {ms : List Key} {yts ots : List Term} {y o : Key} (h : JT T n e ms yts y ots o) :
    ∀ {p : Nat} {ma mb : List Key} {ea eb : Key} {ta tb : List Term}, p < e → PTop T (ways p n) ma ea ta y → PTop T (ways p e) mb eb tb o → InjOn T (ta ++ tb ++ (yts ++ ots)) → ea = eb := by
  induction h with
  | same n m =>
    intro p ma mb ea eb ta tb _ A B I
    exact A.uniq B (I.sub fun x hx => List.mem_append_left _ hx)
  | @left n e ms m y o y' yts ots a b _ c ih =>
    intro p ma mb ea eb ta tb hp A B I
    rw [ways_l (by omega) (by omega)] at A
    obtain ⟨m1, ms1, ts1, s1, rfl, A1, rfl, r⟩ := A.cons
    obtain ⟨rfl, _⟩ := tJoint_inj (I (jn false s1 m1) (by simp) (tJoint y m) (by simp) _ r c)
    refine ih hp A1 B (I.sub fun x hx => ?_)
    simp only [List.mem_append] at hx ⊢
    rcases hx with (hx | hx) | (hx | hx)
    · exact .inl (.inl (.inl hx))
    · exact .inl (.inr hx)
    · exact .inr (.inl (.inl hx))
    · exact .inr (.inr hx)
  | @right n e ms m y o y' o' yts ots a b _ c d ih =>
    intro p ma mb ea eb ta tb hp A B I
    have he := half_eq b (by omega)
    have hpos := half_pos n
    by_cases hq : p < half n
    · rw [ways_l (by omega) hq] at A
      rw [ways_l (by omega) (by rw [he]; exact hq), he] at B
      obtain ⟨m1, ms1, ts1, s1, rfl, A1, rfl, r⟩ := A.cons
      obtain ⟨m2, ms2, ts2, s2, rfl, B1, rfl, r2⟩ := B.cons
      obtain ⟨rfl, _⟩ := tJoint_inj (I (jn false s1 m1) (by simp) (tJoint m y) (by simp) _ r c)
      obtain ⟨rfl, _⟩ := tJoint_inj (I (jn false s2 m2) (by simp) (tJoint s1 o) (by simp) _ r2 d)
      refine A1.uniq B1 (I.sub fun x hx => ?_)
      simp only [List.mem_append] at hx ⊢
      rcases hx with hx | hx
      · exact .inl (.inl (.inl hx))
      · exact .inl (.inr (.inl hx))
    · rw [ways_r (by omega) hq] at A
      rw [ways_r (by omega) (by rw [he]; exact hq), he] at B
      obtain ⟨m1, ms1, ts1, s1, rfl, A1, rfl, r⟩ := A.cons
      obtain ⟨m2, ms2, ts2, s2, rfl, B1, rfl, r2⟩ := B.cons
      obtain ⟨_, rfl⟩ := tJoint_inj (I (jn true s1 m1) (by simp) (tJoint m y) (by simp) _ r c)
      obtain ⟨_, rfl⟩ := tJoint_inj (I (jn true s2 m2) (by simp) (tJoint m o) (by simp) _ r2 d)
      refine ih (by omega) A1 B1 (I.sub fun x hx => ?_)
      simp only [List.mem_append] at hx ⊢
      rcases hx with (hx | hx) | (hx | hx)
      · exact .inl (.inl (.inl hx))
      · exact .inl (.inr (.inl hx))
      · exact .inr (.inl (.inl hx))
      · exact .inr (.inr (.inl hx))
/-- growth under a head and under an elder one -/
theorem JT.trans {T : TR} (F : Fn T) {a b : Nat} {ms : List Key} {yts ots : List Term} {y o : Key} (h : JT T a b ms yts y ots o) :
    ∀ {c : Nat} {m2 m3 : List Key} {yt2 ot2 yt3 ot3 : List Term} {o2 o3 : Key}, 1 ≤ c → c ≤ b → JT T a c m2 yt2 y ot2 o2 → JT T b c m3 yt3 o ot3 o3 → InjOn T ((yt2 ++ ot2) ++ (yt3 ++ ot3) ++ (yts ++ ots)) → o2 = o3 := by
  induction h with
  | same n m =>
    intro c m2 m3 yt2 ot2 yt3 ot3 o2 o3 _ _ A B I
    refine A.uniq F B (I.sub fun x hx => ?_)
    simp only [List.mem_append] at hx ⊢
    rcases hx with hx | hx
    · exact .inl (.inl (.inl hx))
    · exact .inl (.inr (.inl hx))
  | @left n e ms m y o y' yts ots a b _ t ih =>
    intro c m2 m3 yt2 ot2 yt3 ot3 o2 o3 h1 hc A B I
    obtain ⟨ms1, m1, yts1, y1, rfl, rfl, j, u⟩ := A.inv_left (by omega) (by omega)
    obtain ⟨rfl, _⟩ := tJoint_inj (I (tJoint y1 m1) (by simp) (tJoint y m) (by simp) _ u t)
    refine ih h1 hc j B (I.sub fun x hx => ?_)
    simp only [List.mem_append] at hx ⊢
    rcases hx with ((hx | hx) | (hx | hx)) | (hx | hx)
    · exact .inl (.inl (.inl (.inl hx)))
    · exact .inl (.inl (.inr hx))
    · exact .inl (.inr (.inl hx))
    · exact .inl (.inr (.inr hx))
    · exact .inr (.inl (.inl hx))
    · exact .inr (.inr hx)
  | @right n e ms m y o y' o' yts ots a b j0 t t' ih =>
    intro c m2 m3 yt2 ot2 yt3 ot3 o2 o3 h1 hc A B I
    have he := half_eq b (by omega)
    have hpos := half_pos n
    by_cases hce : c = e
    · subst hce
      obtain ⟨_, rfl⟩ := B.inv_same
      refine A.uniq F (.right a b j0 t t') (I.sub fun x hx => ?_)
      simp only [List.mem_append] at hx ⊢
      rcases hx with hx | hx
      · exact .inl (.inl (.inl hx))
      · exact .inr (.inl hx)
    · by_cases hch : c ≤ half n
      · obtain ⟨ms1, m1, yts1, y1, rfl, rfl, j, u⟩ := A.inv_left (by omega) hch
        obtain ⟨ms2, m2, yts2, y2, rfl, rfl, j2, u2⟩ := B.inv_left (by omega) (by omega)
        rw [he] at j2
        obtain ⟨rfl, _⟩ := tJoint_inj (I (tJoint y1 m1) (by simp) (tJoint m y) (by simp) _ u t)
        obtain ⟨rfl, _⟩ := tJoint_inj (I (tJoint y2 m2) (by simp) (tJoint y1 o) (by simp) _ u2 t')
        refine j.uniq F j2 (I.sub fun x hx => ?_)
        simp only [List.mem_append] at hx ⊢
        rcases hx with hx | hx
        · exact .inl (.inl (.inl (.inl hx)))
        · exact .inl (.inr (.inl (.inl hx)))
      · obtain ⟨ms1, m1, yts1, y1, ots1, o1, rfl, rfl, rfl, j, u, v⟩ := A.inv_right (by omega) (by omega)
        obtain ⟨ms2, m2, yts2, y2, ots2, o2', rfl, rfl, rfl, j2, u2, v2⟩ := B.inv_right (by omega) (by omega)
        rw [he] at j2
        obtain ⟨rfl, rfl⟩ := tJoint_inj (I (tJoint m1 y1) (by simp) (tJoint m y) (by simp) _ u t)
        obtain ⟨rfl, rfl⟩ := tJoint_inj (I (tJoint m2 y2) (by simp) (tJoint m1 o) (by simp) _ u2 t')
        have q := ih (c := c - half n) (by omega) (by omega) j j2 (I.sub fun x hx => by
          simp only [List.mem_append] at hx ⊢
          rcases hx with ((hx | hx) | (hx | hx)) | (hx | hx)
          · exact .inl (.inl (.inl (.inl hx)))
          · exact .inl (.inl (.inr (.inl hx)))
          · exact .inl (.inr (.inl (.inl hx)))
          · exact .inl (.inr (.inr (.inl hx)))
          · exact .inr (.inl (.inl hx))
          · exact .inr (.inr (.inl hx)))
        subst q
        exact F _ _ _ v v2
end Rs
set_option Elab.async false
set_option maxRecDepth 100000
set_option maxHeartbeats 4000000
/-! Rootstamp, further rules: zip(reversed(list), reversed(tuple)). -/
namespace Rs
open PySem PySem.Spec PyProof.Rows L2

section
variable {prog : Program} {w : World} {A : Around} {E : Value → Shared → Prop} {s : Shared}
theorem nextOf_rev_item {it l : Addr} {i : Nat} {items : Array Value} {x : Value} {Q : Value → Shared → Prop} (hit : s.heap.IsRevIter it l (i : Int)) (hl : s.heap.IsList l items) (hx : items[i]? = some x)
    (hQ : ∀ h', h'.IsRevIter it l ((i : Int) - 1) → Heap.SameBut it s.heap h' → Q x { s with heap := h' }) : wpAny (model prog w) A (Builtin.SmallTypes.nextOf (.ref it)) Q E s := by
  obtain ⟨o, ho, hc, hd⟩ := id hit
  obtain ⟨ol, hol, _, nl, hdl⟩ := hl
  unfold Builtin.SmallTypes.nextOf
  refine wpAny_bind (wpAny_callSpecial?_slot (name := Str.ofString "__next__") hit.typeIs F.slot_lri_next
    (wpAny_call_entry F.slot_lri_next hit.typeIs F.entry_lri_next ?_ (F.args_lri_next_1 _)))
  unfold Builtin.«list_reverseiterator.__next__»
  refine wpAny_bind (wpAny_of_eq (a := (Value.ref it, [])) rfl ?_)
  try dsimp only
  refine wpAny_bind (wpAny_field ho hd (x := rawInt (i : Int)) rfl ?_)
  show wpAny _ _ (if (i : Int) < 0 then _ else _) _ _ s
  rw [if_neg (by omega)]
  show wpAny _ _ (field (.ref it) 0 >>= _) _ _ s
  refine wpAny_bind (wpAny_field ho hd (x := .ref l) rfl ?_)
  show wpAny _ _ (seqItems? (.ref l) >>= _) _ _ s
  refine wpAny_bind (wpAny_seqItems hol hdl ?_)
  simp only [Int.toNat_natCast, hx]
  refine wpAny_bind (wpAny_setField ho hd (by simp) ?_)
  first
  | refine wpAny_pure ⟨x, rfl, wpAny_pure (hQ _ ?_ (Heap.SameBut.update ..))⟩
  | refine wpAny_bind (wpAny_pure (wpAny_pure ⟨x, rfl, wpAny_pure (hQ _ ?_ (Heap.SameBut.update ..))⟩))
  exact ⟨_, Heap.get?_update_self _ ho (Obj.isFreed_of_fields (Obj.data_mapFields hd _)), (Obj.cls_mapFields ..).trans hc, by
    rw [Obj.data_mapFields hd]; simp⟩
theorem nextOf_rev_end {it l : Addr} {Q : Value → Shared → Prop} (hh : A.handled = none) (hit : s.heap.IsRevIter it l (-1))
    (hE : ∀ h' e, Heap.ExtBut it s.heap h' → (∃ o, h'.get? e = some o ∧ o.cls = .type "StopIteration") → E (.ref e) { s with heap := h' }) : wpAny (model prog w) A (Builtin.SmallTypes.nextOf (.ref it)) Q E s := by
  obtain ⟨o, ho, hc, hd⟩ := id hit
  unfold Builtin.SmallTypes.nextOf
  refine wpAny_bind (wpAny_callSpecial?_slot (name := Str.ofString "__next__") hit.typeIs F.slot_lri_next
    (wpAny_call_entry F.slot_lri_next hit.typeIs F.entry_lri_next ?_ (F.args_lri_next_1 _)))
  unfold Builtin.«list_reverseiterator.__next__»
  refine wpAny_bind (wpAny_of_eq (a := (Value.ref it, [])) rfl ?_)
  try dsimp only
  refine wpAny_bind (wpAny_field ho hd (x := rawInt (-1)) rfl ?_)
  show wpAny _ _ (if (-1 : Int) < 0 then _ else _) _ _ s
  rw [if_pos (by decide)]
  refine wpAny_bind (wpAny_rule ?_)
  first
  | show wpAny _ _ (newExc (.type "StopIteration") [] >>= _) _ _ _
  | (refine wpAny_bind ?_; show wpAny _ _ (newExc (.type "StopIteration") [] >>= _) _ _ _)
  refine wpAny_bind ?_
  simp only [newExc, newTuple]
  refine wpAny_bind (wpAny_newObj_type ?_ (by size_fits))
  refine wpAny_bind (m := firstArgMember _ _) (wpAny_of_eq (a := Value.none) (by first | rfl | (simp only [firstArgMember]; rfl)) ?_)
  refine wpAny_newObj_type ?_ (by size_fits)
  simp only [raiseNew]
  refine wpAny_bind (wpAny_handled ?_)
  first | rw [show A.in1.handled = none from hh] | rw [hh]
  refine wpAny_bind (wpAny_pure (wpAny_throw ?_))
  exact hE _ _ (((Heap.ExtBut.refl _ _).push _).push _) ⟨_, Heap.get?_push_size _ rfl, rfl⟩
theorem nextOf_rt_item {it t : Addr} {i : Nat} {items : Array Value} {x : Value} {Q : Value → Shared → Prop} (hit : RT.IsRt s.heap it t (i : Int)) (ht : IsTup s.heap t items) (hx : items[i]? = some x) (hsz : items.size ≤ sizeLine)
    (hQ : ∀ h', RT.IsRt h' it t ((i : Int) - 1) → Heap.SameBut it s.heap h' → Q x { s with heap := h', toks := s.toks + 1 }) : wpAny (model prog w) A (Builtin.SmallTypes.nextOf (.ref it)) Q E s := by
  obtain ⟨o, ho, hc, hd⟩ := id hit
  have hi : i < items.size := (Array.getElem?_eq_some_iff.mp hx).1
  have hT : s.TypeIs (.ref t) "tuple" := RT.IsTup.typeOf' ht
  rw [sizeLine_eq] at hsz
  unfold Builtin.SmallTypes.nextOf
  refine wpAny_bind (wpAny_callSpecial?_slot (name := Str.ofString "__next__") hit.typeIs RT.slot_rt_next
    (wpAny_call_entry RT.slot_rt_next hit.typeIs RT.entry_rt_next ?_ (RT.args_rt_next _)))
  unfold Builtin.«reversed.__next__»
  refine wpAny_bind (wpAny_of_eq (a := (Value.ref it, [])) rfl ?_)
  try dsimp only
  refine wpAny_bind (wpAny_field ho hd (x := .ref t) rfl ?_)
  try dsimp only
  refine wpAny_bind (wpAny_field ho hd (x := rawInt (i : Int)) rfl ?_)
  show wpAny _ _ (if (i : Int) < 0 then _ else _) _ _ s
  rw [if_neg (by omega)]
  try dsimp only
  refine wpAny_bind (wpAny_specialOf hT RT.get_tuple ?_)
  try dsimp only
  try rw [if_neg (by decide)]
  try dsimp only
  refine wpAny_bind (wpAny_mkInt ?_)
  refine wpAny_bind (wpAny_attempt ?_)
  have fin : seqIndex? (i : Int) items.size = some i := seqIndex_of (by omega) (by omega)
  refine PyProof.Rows.getItem_tuple (s := { s with toks := s.toks + 1 }) ht (by omega) (by omega) fin hx ?_
  try dsimp only
  refine wpAny_bind (wpAny_field (s := { s with toks := s.toks + 1 }) ho hd (x := rawInt (i : Int)) rfl ?_)
  try dsimp only
  refine wpAny_bind (wpAny_setField (s := { s with toks := s.toks + 1 }) ho hd (by simp) ?_)
  first
  | refine wpAny_pure ⟨x, rfl, wpAny_pure (hQ _ ?_ (Heap.SameBut.update ..))⟩
  | refine wpAny_bind (wpAny_pure (wpAny_pure ⟨x, rfl, wpAny_pure (hQ _ ?_ (Heap.SameBut.update ..))⟩))
  exact ⟨_, Heap.get?_update_self _ ho (Obj.isFreed_of_fields (Obj.data_mapFields hd _)), (Obj.cls_mapFields ..).trans hc, by
    rw [Obj.data_mapFields hd]; simp⟩
theorem nextOf_rt_end {it t : Addr} {Q : Value → Shared → Prop} (hh : A.handled = none) (hit : RT.IsRt s.heap it t (-1))
    (hE : ∀ h' e, Heap.ExtBut it s.heap h' → (∃ o, h'.get? e = some o ∧ o.cls = .type "StopIteration") → E (.ref e) { s with heap := h' }) : wpAny (model prog w) A (Builtin.SmallTypes.nextOf (.ref it)) Q E s := by
  obtain ⟨o, ho, hc, hd⟩ := id hit
  unfold Builtin.SmallTypes.nextOf
  refine wpAny_bind (wpAny_callSpecial?_slot (name := Str.ofString "__next__") hit.typeIs RT.slot_rt_next
    (wpAny_call_entry RT.slot_rt_next hit.typeIs RT.entry_rt_next ?_ (RT.args_rt_next _)))
  unfold Builtin.«reversed.__next__»
  refine wpAny_bind (wpAny_of_eq (a := (Value.ref it, [])) rfl ?_)
  try dsimp only
  refine wpAny_bind (wpAny_field ho hd (x := .ref t) rfl ?_)
  try dsimp only
  refine wpAny_bind (wpAny_field ho hd (x := rawInt (-1)) rfl ?_)
  show wpAny _ _ (if (-1 : Int) < 0 then _ else _) _ _ s
  rw [if_pos (by decide)]
  try dsimp only
  refine wpAny_bind (wpAny_rule ?_)
  refine wpAny_bind ?_
  wp_delta
  refine wpAny_bind (wpAny_setField ho hd (by simp) ?_)
  have ho2 := Heap.get?_update_self (Obj.mapFields (·.setIfInBounds 1 (rawInt (-1)))) ho (Obj.isFreed_of_fields (Obj.data_mapFields hd _))
  refine wpAny_setField (s := { s with heap := s.heap.update it (Obj.mapFields (·.setIfInBounds 1 (rawInt (-1)))) }) ho2 (Obj.data_mapFields hd _) (by simp) ?_
  try dsimp only
  first
  | show wpAny _ _ (newExc (.type "StopIteration") [] >>= _) _ _ _
  | (refine wpAny_bind ?_; show wpAny _ _ (newExc (.type "StopIteration") [] >>= _) _ _ _)
  | (refine wpAny_bind ?_; wp_delta; show wpAny _ _ (newExc (.type "StopIteration") [] >>= _) _ _ _)
  refine wpAny_bind ?_
  simp only [newExc, newTuple]
  refine wpAny_bind (wpAny_newObj_type ?_ (by size_fits))
  refine wpAny_bind (m := firstArgMember _ _) (wpAny_of_eq (a := Value.none) (by first | rfl | (simp only [firstArgMember]; rfl)) ?_)
  refine wpAny_newObj_type ?_ (by size_fits)
  simp only [raiseNew]
  refine wpAny_bind (wpAny_handled ?_)
  first | rw [show A.in1.handled = none from hh] | rw [hh]
  refine wpAny_bind (wpAny_pure (wpAny_throw ?_))
  refine hE _ _ ?_ ⟨_, Heap.get?_push_size _ rfl, rfl⟩
  refine ((?_ : Heap.ExtBut it s.heap _).push _).push _
  exact fun b ob hb e => (Heap.get?_update_other _ _ (Ne.symm hb)).trans ((Heap.get?_update_other _ _ (Ne.symm hb)).trans e)
end
theorem Draws.listRev {prog : Program} {w : World} {A : Around} (hh : A.handled = none) (it l : Addr) (hne : l ≠ it) (items : Array Value) :
    Draws prog w A it [it, l] items.size (fun i v => items[items.size - 1 - i]? = some v) (fun i h => i ≤ items.size ∧ h.IsRevIter it l ((items.size : Int) - 1 - (i : Int)) ∧ h.IsList l items) where
  live := fun _ _ st => let ⟨o, ho, _⟩ := st.2.1; ⟨o, ho⟩
  frame := fun _ _ _ st hk => ⟨st.1, st.2.1.at fun o e => hk it (by simp) o e, st.2.2.at fun o e => hk l (by simp) o e⟩
  item := fun i s Q E hi st hQ => by
    have e : (items.size : Int) - 1 - (i : Int) = ((items.size - 1 - i : Nat) : Int) := by omega
    have hit := st.2.1
    rw [e] at hit
    have hx : items[items.size - 1 - i]? = some (items[items.size - 1 - i]'(by omega)) := Array.getElem?_eq_getElem (by omega)
    refine nextOf_rev_item hit st.2.2 hx fun h' hit' hs' => ?_
    have e2 : ((items.size - 1 - i : Nat) : Int) - 1 = (items.size : Int) - 1 - ((i + 1 : Nat) : Int) := by omega
    rw [e2] at hit'
    exact hQ _ h' s.toks hx ⟨hi, hit', st.2.2.at fun o eo => (hs'.2 l hne).trans eo⟩ hs'
  done := fun s Q E st hE => by
    have e : (items.size : Int) - 1 - (items.size : Int) = -1 := by omega
    have hit := st.2.1
    rw [e] at hit
    exact nextOf_rev_end hh hit hE
theorem Draws.tupRev {prog : Program} {w : World} {A : Around} (hh : A.handled = none) (it t : Addr) (hne : t ≠ it) (items : Array Value) (hz : items.size ≤ sizeLine) :
    Draws prog w A it [it, t] items.size (fun i v => items[items.size - 1 - i]? = some v) (fun i h => i ≤ items.size ∧ RT.IsRt h it t ((items.size : Int) - 1 - (i : Int)) ∧ IsTup h t items) where
  live := fun _ _ st => let ⟨o, ho, _⟩ := st.2.1; ⟨o, ho⟩
  frame := fun _ _ _ st hk => ⟨st.1, st.2.1.at fun o e => hk it (by simp) o e, let ⟨o, ho, r⟩ := st.2.2; ⟨o, hk t (by simp) o ho, r⟩⟩
  item := fun i s Q E hi st hQ => by
    have e : (items.size : Int) - 1 - (i : Int) = ((items.size - 1 - i : Nat) : Int) := by omega
    have hit := st.2.1
    rw [e] at hit
    have hx : items[items.size - 1 - i]? = some (items[items.size - 1 - i]'(by omega)) := Array.getElem?_eq_getElem (by omega)
    refine nextOf_rt_item hit st.2.2 hx hz fun h' hit' hs' => ?_
    have e2 : ((items.size - 1 - i : Nat) : Int) - 1 = (items.size : Int) - 1 - ((i + 1 : Nat) : Int) := by omega
    rw [e2] at hit'
    exact hQ _ h' _ hx ⟨hi, hit', let ⟨o, ho, r⟩ := st.2.2; ⟨o, (hs'.2 t hne).trans ho, r⟩⟩ hs'
  done := fun s Q E st hE => by
    have e : (items.size : Int) - 1 - (items.size : Int) = -1 := by omega
    have hit := st.2.1
    rw [e] at hit
    exact nextOf_rt_end hh hit hE

/-! ### zip of two iterators that are made already -/
abbrev zrT (h : Heap) (i1 i2 : Addr) : Heap := h.push { cls := .type "tuple", data := .seq #[.ref i1, .ref i2] }
abbrev zrO (h : Heap) (i1 i2 : Addr) : Heap := (zrT h i1 i2).push { cls := .type "tuple", data := .seq #[.none, .none] }
abbrev zrZ (h : Heap) (i1 i2 : Addr) : Heap := (zrO h i1 i2).push { cls := .type "zip", data := .fields #[.none, .bool false, .bool false, .ref h.objs.size, .ref (zrT h i1 i2).objs.size] }
theorem meets_zip_newR (i1 i2 l t : Addr) (k1 k2 : Int) :
    Meets (Builtin.«zip.__new__» ⟨[.type "zip", .ref i1, .ref i2], []⟩) (fun _ R s => (s.heap.IsRevIter i1 l k1 ∧ RT.IsRt s.heap i2 t k2) ∧
      R (.ok (.ret (.ref (zrO s.heap i1 i2).objs.size))) { s with heap := zrZ s.heap i1 i2 }) :=
  .of_wp fun prog w A R s h => by
    obtain ⟨hp, g, d, tk, os⟩ := s; obtain ⟨⟨h1, h2⟩, h⟩ := h
    have hsub := sub_zip
    have q1 : ∀ {A' : Around} {E : Value → Shared → Prop} {Q : Value → Shared → Prop}, Q (.ref i1) ⟨hp, g, d, tk, os⟩ → wpAny (model prog w) A' (pyIter (.ref i1)) Q E ⟨hp, g, d, tk, os⟩ :=
      fun q => wpAny_pyIter_revIter (s := ⟨hp, g, d, tk, os⟩) h1 q
    have q2 : ∀ {A' : Around} {E : Value → Shared → Prop} {Q : Value → Shared → Prop}, Q (.ref i2) ⟨hp, g, d, tk, os⟩ → wpAny (model prog w) A' (pyIter (.ref i2)) Q E ⟨hp, g, d, tk, os⟩ :=
      fun q => RT.iter_rt (s := ⟨hp, g, d, tk, os⟩) h2 q
    wp_walk using q1, q2
    exact ⟨_, rfl, h⟩
section
variable {prog : Program} {w : World} {A : Around} {E : Value → Shared → Prop} {s : Shared}
theorem call_zipR {i1 i2 l t : Addr} {k1 k2 : Int} {Q : Value → Shared → Prop} (h1 : s.heap.IsRevIter i1 l k1) (h2 : RT.IsRt s.heap i2 t k2)
    (h : ∀ h', IsZip h' (s.heap.objs.size + 2) s.heap.objs.size (s.heap.objs.size + 1) .none → IsTupOf2 h' s.heap.objs.size (.ref i1) (.ref i2) →
      IsTupOf2 h' (s.heap.objs.size + 1) .none .none → h'.objs.size = s.heap.objs.size + 3 →
      (∀ c o, s.heap.get? c = some o → h'.get? c = some o) → Q (.ref (s.heap.objs.size + 2)) { s with heap := h' }) :
    wpAny (model prog w) A (call (.type "zip") [.ref i1, .ref i2]) Q E s := by
  refine callType_new F.called_zip (by decide) (F.typeCall_zip_2 _ _) (F.newCall_zip_2 _ _) (fun obj => F.args_object_init_3 obj _ _) F.entry_zip_new
    (meets_zip_newR i1 i2 l t k1 k2) ⟨⟨h1, h2⟩, ?_⟩
  have zT : (zrT s.heap i1 i2).objs.size = s.heap.objs.size + 1 := by rw [Heap.size_push]
  have zO : (zrO s.heap i1 i2).objs.size = s.heap.objs.size + 2 := by rw [Heap.size_push, zT]
  have zZ : (zrZ s.heap i1 i2).objs.size = s.heap.objs.size + 3 := by rw [Heap.size_push, zO]
  have gZ : (zrZ s.heap i1 i2).get? (zrO s.heap i1 i2).objs.size = some { cls := .type "zip", data := .fields #[.none, .bool false, .bool false, .ref s.heap.objs.size, .ref (zrT s.heap i1 i2).objs.size] } := Heap.get?_push_size _ rfl
  have gO : (zrZ s.heap i1 i2).get? (zrT s.heap i1 i2).objs.size = some { cls := .type "tuple", data := .seq #[.none, .none] } := Heap.get?_push_of_some _ (Heap.get?_push_size _ rfl)
  have gT : (zrZ s.heap i1 i2).get? s.heap.objs.size = some { cls := .type "tuple", data := .seq #[.ref i1, .ref i2] } := Heap.get?_push_of_some _ (Heap.get?_push_of_some _ (Heap.get?_push_size _ rfl))
  rw [zO, zT] at gZ
  rw [zT] at gO
  show _ ∧ _
  rw [zO]
  exact ⟨⟨_, gZ, rfl⟩, h _ gZ gT gO zZ fun c o e => Heap.get?_push_of_some _ (Heap.get?_push_of_some _ (Heap.get?_push_of_some _ e))⟩
end

/-! ### zip(reversed(a list), reversed(a tuple)), both of n items -/
def ItzR (K : PySem.W.Frag) (a b : Addr) (n : Nat) : It :=
  ⟨fun i H => i < n ∧ ∃ (xs ys : List V), SqL K H a xs ∧ SqT K H b ys ∧ xs.length = n ∧ ys.length = n,
    fun i H v H' => ∃ T x y, v = .ref T ∧ H T = none ∧ H' = upd H T (.tup [x, y]) ∧ (∀ xs, SqL K H a xs → xs[n - 1 - i]? = some x) ∧ ∀ ys, SqT K H b ys → ys[n - 1 - i]? = some y,
    fun i H => n ≤ i ∧ ∃ (xs ys : List V), SqL K H a xs ∧ SqT K H b ys ∧ xs.length = n ∧ ys.length = n⟩
theorem turn_zipR {P : Program} {w : World} {K : PySem.W.Frag} {elts : List Expr} {kk : Nat} {tpos : Pos} {a b z TI TO i1 i2 : Addr} {n : Nat} (S : ZipSep2 z TI TO i1 i2 [i1, a] [i2, b]) (ha1 : a ≠ i1) (hb2 : b ≠ i2) :
    Turn P w K (.Tuple elts kk tpos) (ItzR K a b n) [z, TI, TO, i1, i2] z (fun i h => i ≤ n ∧ IsZip h z TI TO .none ∧ IsTupOf2 h TI (.ref i1) (.ref i2) ∧ (∃ x y, IsTupOf2 h TO x y) ∧ h.IsRevIter i1 a ((n : Int) - 1 - (i : Nat)) ∧ RT.IsRt h i2 b ((n : Int) - 1 - (i : Nat))) where
  mem := by simp
  obj := fun i h st c hc => by
    obtain ⟨_, hz, hTI, ⟨x, y, hTO⟩, ⟨o1, e1, _, d1⟩, ⟨o2, e2, _, d2⟩⟩ := st
    have e' : c = z ∨ c = TI ∨ c = TO ∨ c = i1 ∨ c = i2 := by simpa using hc
    rcases e' with q | q | q | q | q
    · rw [q]; exact ⟨_, hz, fun v q => nomatch q⟩
    · rw [q]; exact ⟨_, hTI, fun v q => nomatch q⟩
    · rw [q]; exact ⟨_, hTO, fun v q => nomatch q⟩
    · rw [q]; exact ⟨o1, e1, fun v q => by rw [d1] at q; cases q⟩
    · rw [q]; exact ⟨o2, e2, fun v q => by rw [d2] at q; cases q⟩
  keep := fun i h h' st k => by
    obtain ⟨hi, hz, hTI, ⟨x, y, hTO⟩, h1, h2⟩ := st
    exact ⟨hi, k z (by simp) _ hz, k TI (by simp) _ hTI, ⟨x, y, k TO (by simp) _ hTO⟩, h1.at fun o q => k i1 (by simp) o q, h2.at fun o q => k i2 (by simp) o q⟩
  item := by
    intro X hP hw hK hc i pins s σ H E I hf st hg
    subst hP hw hK
    obtain ⟨hi, hz, hTI, ⟨x0, y0, hTO⟩, h1, h2⟩ := st
    obtain ⟨hin, xs, ys, hqx, hqy, lx, ly⟩ := hg
    obtain ⟨its, rv, p, hz1⟩ := I.list hqx
    obtain ⟨its2, rv2, p2, hz2⟩ := I.tuple hqy
    have n1 : its.toArray.size = n := by rw [List.size_toArray, ← rv.length, lx]
    have n2 : its2.toArray.size = n := by rw [List.size_toArray, ← rv2.length, ly]
    have hzl : z < s.heap.objs.size := Heap.lt_size hz
    have hh : X.A.in1.handled = none := I.ok.hd hc
    have D1 := Draws.listRev (prog := X.prog) (w := X.w) hh i1 a ha1 its.toArray
    have D2 := Draws.tupRev (prog := X.prog) (w := X.w) hh i2 b hb2 its2.toArray (by rw [n2, ← ly]; exact hz2)
    rw [n1] at D1
    rw [n2] at D2
    refine wpAny_pyNext_zipD2_item S D1 D2 hz hTI hTO (i := i) ⟨hi, h1, p.isList⟩ ⟨hi, h2, p2⟩ hin hin fun x1 x2 h' tk y1 y2 z' TO' s1 s2 hT hsz hk => ?_
    obtain ⟨xv, hxv⟩ : ∃ x, xs[n - 1 - i]? = some x := ⟨_, List.getElem?_eq_getElem (by omega)⟩
    obtain ⟨yv, hyv⟩ : ∃ y, ys[n - 1 - i]? = some y := ⟨_, List.getElem?_eq_getElem (by omega)⟩
    obtain ⟨u, hu, ru⟩ := rv.get hxv
    obtain ⟨u2, hu2, ru2⟩ := rv2.get hyv
    have ex : x1 = u := by
      have q : its[n - 1 - i]? = some x1 := by simpa using y1
      rw [hu] at q; exact (Option.some.inj q).symm
    have ey : x2 = u2 := by
      have q : its2[n - 1 - i]? = some x2 := by simpa using y2
      rw [hu2] at q; exact (Option.some.inj q).symm
    subst ex ey
    refine ⟨_, rfl, wpAny_letOwnedTupleGo_zip (s := { s with heap := h', toks := tk }) z' fun h'' z'' sb => ?_⟩
    have hT2 : h''.get? s.heap.objs.size = some { cls := .type "tuple", data := .seq #[x1, x2] } := (sb.2 _ (Nat.ne_of_gt hzl)).trans hT
    have new : ObjOk X.prog X.w (upd H s.heap.objs.size (.tup [xv, yv])) h'' s.heap.objs.size (.tup [xv, yv]) :=
      ⟨by show 2 ≤ sizeLine; decide, [x1, x2], .cons ru (.cons ru2 .nil), ⟨_, hT2, rfl, _, rfl⟩⟩
    have I1 : Inv X pins σ (upd H s.heap.objs.size (.tup [xv, yv])) { s with heap := h'', toks := tk } :=
      I.turnedNew (t' := tk) (ch := [z, TI, TO, i1, i2]) (fun c o hb q => (sb.2 c (fun q' => hb (by simp [q']))).trans (hk c o (fun q' => hb (by simp [q'])) (fun q' => hb (by simp [q'])) (fun q' => hb (by simp [q'])) (fun q' => hb (by simp [q'])) q)) hf (Nat.le_refl _) new
    obtain ⟨_, s1', _⟩ := s1
    obtain ⟨_, s2', _⟩ := s2
    refine ⟨.ref s.heap.objs.size, _, I1, rfl, ⟨_, xv, yv, rfl, I.hok.fresh (Nat.le_refl _), rfl, fun l hl => by rw [I.list_inj hl hqx]; exact hxv, fun l hl => by rw [I.tuple_inj hl hqy]; exact hyv⟩, ⟨hin, z'', ?_, ⟨x1, x2, ?_⟩, ?_, ?_⟩, fun c hcm => ?_⟩
    · exact (sb.2 _ S.TIz).trans (hk _ _ S.TIz S.TITO S.TIi1 S.TIi2 hTI)
    · exact (sb.2 _ S.TOz).trans TO'
    · exact s1'.at fun o q => (sb.2 _ (Ne.symm S.zi1)).trans q
    · exact s2'.at fun o q => (sb.2 _ (Ne.symm S.zi2)).trans q
    · have hlt : c < s.heap.objs.size := by
        have e' : c = z ∨ c = TI ∨ c = TO ∨ c = i1 ∨ c = i2 := by simpa using hcm
        rcases e' with q | q | q | q | q
        · rw [q]; exact hzl
        · rw [q]; exact Heap.lt_size hTI
        · rw [q]; exact Heap.lt_size hTO
        · rw [q]; obtain ⟨_, e1, _⟩ := h1; exact Heap.lt_size e1
        · rw [q]; obtain ⟨_, e2, _⟩ := h2; exact Heap.lt_size e2
      rw [upd_ne (Nat.ne_of_lt hlt)]
      exact (hf c hcm).1
  done := by
    intro X hP hw hK hc i pins s σ H E I hf st hg
    subst hP hw hK
    obtain ⟨hi, hz, hTI, ⟨x0, y0, hTO⟩, h1, h2⟩ := st
    obtain ⟨hin, xs, ys, hqx, hqy, lx, ly⟩ := hg
    obtain ⟨its, rv, p, hz1⟩ := I.list hqx
    obtain ⟨its2, rv2, p2, hz2⟩ := I.tuple hqy
    have n1 : its.toArray.size = n := by rw [List.size_toArray, ← rv.length, lx]
    have n2 : its2.toArray.size = n := by rw [List.size_toArray, ← rv2.length, ly]
    have hh : X.A.in1.handled = none := I.ok.hd hc
    have D1 := Draws.listRev (prog := X.prog) (w := X.w) hh i1 a ha1 its.toArray
    have D2 := Draws.tupRev (prog := X.prog) (w := X.w) hh i2 b hb2 its2.toArray (by rw [n2, ← ly]; exact hz2)
    rw [n1] at D1
    rw [n2] at D2
    refine wpAny_pyNext_zipD2_end S D1 D2 hz hTI hTO (i := i) ⟨hi, h1, p.isList⟩ ⟨hi, h2, p2⟩ hi hi (.inl (Nat.le_antisymm hi hin)) fun h' tk hk => ⟨rfl, I.turnedL (t' := tk) (ch := [z, TI, TO, i1, i2]) (fun c o hb q =>
      hk c o (fun q' => hb (by simp [q'])) (fun q' => hb (by simp [q'])) (fun q' => hb (by simp [q'])) (fun q' => hb (by simp [q'])) q) hf⟩
  self := fun A i s Q E st h => wpAny_pyIter_zip st.2.1 h
def iZipR (K : PySem.W.Frag) (ta tb : TE) : TI := fun σ H R => ta σ H fun v H1 => ∃ (a : Addr) (xs : List V), v = .ref a ∧ SqL K H1 a xs ∧
  tb σ H1 fun u H2 => ∃ (b : Addr) (ys : List V), u = .ref b ∧ SqL K H2 a xs ∧ SqT K H2 b ys ∧ xs.length = ys.length ∧ R (ItzR K a b xs.length) H2
theorem pi_zipR {X : Cx} {e e2 : Expr} {ta tb : TE} {p p1 p2 q1 q2 pos tpos : Pos} {elts : List Expr} {kk : Nat} (hg : Gl X "zip") (hm : X.mg "zip" = none) (hg2 : Gl X "reversed") (hm2 : X.mg "reversed" = none) (ha : PE X e ta) (hb : PE X e2 tb)
    (hs1 : starEach [e] X.env = (false, eval e X.env) :: starEach [] X.env := by rfl) (hs2 : starEach [e2] X.env = (false, eval e2 X.env) :: starEach [] X.env := by rfl)
    (hs : starEach [.Call (.Name "reversed" p1) [e] [] q1, .Call (.Name "reversed" p2) [e2] [] q2] X.env = (false, eval (.Call (.Name "reversed" p1) [e] [] q1) X.env) :: starEach [.Call (.Name "reversed" p2) [e2] [] q2] X.env := by rfl)
    (hs3 : starEach [.Call (.Name "reversed" p2) [e2] [] q2] X.env = (false, eval (.Call (.Name "reversed" p2) [e2] [] q2) X.env) :: starEach [] X.env := by rfl)
    (hpl : (backTo pos (starEach [.Call (.Name "reversed" p2) [e2] [] q2] X.env)).any (·.1) = false := by rfl) :
    PI X (.Tuple elts kk tpos) (.Call (.Name "zip" p) [.Call (.Name "reversed" p1) [e] [] q1, .Call (.Name "reversed" p2) [e2] [] q2] [] pos) (iZipR X.K ta tb) := by
  refine ⟨fun pins s σ H R I h => ?_⟩
  refine Call_ (ld_blt I hg hm PyProof.Rows.boot_zip (PyProof.Rows.callWith_type1 (args_cons (Call_ (ld_blt I hg2 hm2 PyProof.Rows.boot_reversed (PyProof.Rows.callWith_type1 (args_cons (thn (ha.run pins s σ H _ I h) fun u s1 hh => args_nil ?_) hs1) hs1 rfl))) hs) hs hpl))
  obtain ⟨v, H1, I1, r1, a, xs, ev, hqx, q⟩ := hh
  subst ev
  obtain rfl : u = Value.ref a := r1
  obtain ⟨its, rv, p', hz⟩ := I1.list hqx
  have hl1 := rv.length
  refine call_reversed_list p'.isList ?_
  have hi1 : (s1.heap.push (revObj a ((its.toArray.size : Int) - 1))).get? s1.heap.objs.size = some (revObj a ((its.toArray.size : Int) - 1)) := Heap.get?_push_size _ rfl
  have I2 : Inv X ((s1.heap.objs.size, revObj a ((its.toArray.size : Int) - 1)) :: pins) σ H1 { s1 with heap := s1.heap.push (revObj a ((its.toArray.size : Int) - 1)), toks := s1.toks } :=
    ClX.pin_new I1 (fun b o e => Heap.get?_push_of_some _ e) (Nat.le_refl _) hi1 (fun v z => nomatch z)
  have fp1 := I1.fpOk (H' := H1) (b := s1.heap.objs.size) (Nat.le_refl _) (I1.hok.fresh (Nat.le_refl _))
  have ha1 : a ≠ s1.heap.objs.size := by
    obtain ⟨o, _, ho, _⟩ := p'
    exact Nat.ne_of_lt (Heap.lt_size ho)
  refine args_cons (Call_ (ld_blt I2 hg2 hm2 PyProof.Rows.boot_reversed (PyProof.Rows.callWith_type1 (args_cons (thn (hb.run _ _ σ H1 _ I2 q) fun u2 s2 hh => args_nil ?_) hs2) hs2 rfl))) hs3
  obtain ⟨v2, H2, I3, r2, b, ys, ev2, hqx2, hqy, hlen, q⟩ := hh
  subst ev2
  obtain rfl : u2 = Value.ref b := r2
  have pat : s2.heap.get? s1.heap.objs.size = some (revObj a ((its.toArray.size : Int) - 1)) := ClX.pin_at I3
  have pun : H2 s1.heap.objs.size = none := ClX.pin_un I3
  obtain ⟨its2, rv2, p2', hz2⟩ := I3.tuple hqy
  have hl2 := rv2.length
  have hn := line63
  refine RT.call_reversed_tup p2' (fun A E Q k => len_tuple p2' (by simp only [List.size_toArray] <;> omega) k) (args_nil ?_)
  have e1 : ((its.toArray.size : Nat) : Int) - 1 = (xs.length : Int) - 1 - ((0 : Nat) : Int) := by simp only [List.size_toArray]; omega
  have e2 : ((its2.toArray.size : Nat) : Int) - 1 = (xs.length : Int) - 1 - ((0 : Nat) : Int) := by simp only [List.size_toArray]; omega
  have hlt1 : s1.heap.objs.size < s2.heap.objs.size := Heap.lt_size pat
  have hb2 : b < s2.heap.objs.size := by
    obtain ⟨o, ho, _⟩ := p2'
    exact Heap.lt_size ho
  have ha2 : a < s2.heap.objs.size := by
    obtain ⟨its0, _, ⟨o, _, ho, _⟩, _⟩ := I3.list hqx2
    exact Heap.lt_size ho
  have hbi : b ≠ s1.heap.objs.size := fun z => by
    obtain ⟨o, ho, hc, _⟩ := p2'
    rw [z, pat] at ho
    cases ho
    have hc : Value.type "list_reverseiterator" = Value.type "tuple" := hc
    exact absurd hc (by decide)
  have J0 := ClX.unpin I3
  have fp2 := J0.fpOk (H' := H2) (b := s2.heap.objs.size) (Nat.le_refl _) (J0.hok.fresh (Nat.le_refl _))
  refine call_zipR (s := { s2 with heap := s2.heap.push (RT.rtObj b ((its2.toArray.size : Int) - 1)), toks := s2.toks + 1 + 1 }) (i1 := s1.heap.objs.size) (i2 := s2.heap.objs.size) (l := a) (t := b) (k1 := (its.toArray.size : Int) - 1) (k2 := (its2.toArray.size : Int) - 1)
    ⟨_, Heap.get?_push_of_some _ pat, rfl, rfl⟩ ⟨_, Heap.get?_push_size _ rfl, rfl, rfl⟩ fun h' gz gT gO hsz hk => wpAny_pyIter_zip gz ?_
  have s3 : (s2.heap.push (RT.rtObj b ((its2.toArray.size : Int) - 1))).objs.size = s2.heap.objs.size + 1 := Heap.size_push ..
  dsimp only at gz gT gO hsz hk ⊢
  rw [s3] at gz gT gO ⊢
  have J1 : Inv X pins σ H2 { s2 with heap := h', toks := s2.toks + 1 + 1 } := J0.kept (t' := s2.toks + 1 + 1) fun c o z => hk c o (Heap.get?_push_of_some _ z)
  have freshH : ∀ c, s2.heap.objs.size ≤ c → FpOk X pins H2 c := fun c hc => J0.fpOk hc (J0.hok.fresh hc)
  refine ⟨s2.heap.objs.size + 1 + 2, [s2.heap.objs.size + 1 + 2, s2.heap.objs.size + 1, s2.heap.objs.size + 1 + 1, s1.heap.objs.size, s2.heap.objs.size], _, _, H2, rfl, J1,
    turn_zipR (a := a) (b := b) (i1 := s1.heap.objs.size) (i2 := s2.heap.objs.size) (TI := s2.heap.objs.size + 1) (TO := s2.heap.objs.size + 1 + 1) (n := xs.length) ?_ ha1 (Nat.ne_of_lt hb2), ⟨Nat.zero_le _, gz, gT, ⟨_, _, gO⟩, ?_, ?_⟩, fun c hcm => ?_, q⟩
  · have h1 : s1.heap.objs.size ≠ s2.heap.objs.size + 1 := Nat.ne_of_lt (Nat.lt_succ_of_lt hlt1)
    have h2 : s1.heap.objs.size ≠ s2.heap.objs.size + 1 + 1 := Nat.ne_of_lt (Nat.lt_succ_of_lt (Nat.lt_succ_of_lt hlt1))
    have h3 : s1.heap.objs.size ≠ s2.heap.objs.size + 1 + 2 := Nat.ne_of_lt (Nat.lt_succ_of_lt (Nat.lt_succ_of_lt (Nat.lt_succ_of_lt hlt1)))
    have z : ∀ {c d : Addr}, c < d → c ≠ d := fun h => Nat.ne_of_lt h
    have z' : ∀ {c d : Addr}, d < c → c ≠ d := fun h => Nat.ne_of_gt h
    have up : ∀ {c : Addr} (k : Nat), c < s2.heap.objs.size → c < s2.heap.objs.size + k := fun k h => Nat.lt_of_lt_of_le h (Nat.le_add_right _ _)
    refine ⟨z (Nat.lt_add_of_pos_right (by decide)), z (Nat.lt_add_one (s2.heap.objs.size + 1 + 1)), z (Nat.lt_add_one _), h1.symm, by simp, ?_, ?_, z' (Nat.lt_add_one _), by simp, ?_, ?_, ?_, ?_⟩
    · simp only [List.mem_cons, List.not_mem_nil, or_false, not_or]
      exact ⟨h3.symm, z' (up 3 ha2)⟩
    · simp only [List.mem_cons, List.not_mem_nil, or_false, not_or]
      exact ⟨h2.symm, z' (up 2 ha2)⟩
    · simp only [List.mem_cons, List.not_mem_nil, or_false, not_or]
      exact ⟨z' (Nat.lt_add_of_pos_right (n := s2.heap.objs.size) (k := 3) (by decide)), z' (up 3 hb2)⟩
    · simp only [List.mem_cons, List.not_mem_nil, or_false, not_or]
      exact ⟨z' (Nat.lt_add_of_pos_right (n := s2.heap.objs.size) (k := 2) (by decide)), z' (up 2 hb2)⟩
    · simp only [List.mem_cons, List.not_mem_nil, or_false, not_or]
      exact ⟨Nat.ne_of_lt hlt1, hbi.symm⟩
    · simp only [List.mem_cons, List.not_mem_nil, or_false, not_or]
      exact ⟨Nat.ne_of_gt hlt1, z' ha2⟩
  · rw [← e1]
    exact ⟨_, hk _ _ (Heap.get?_push_of_some _ pat), rfl, rfl⟩
  · rw [← e2]
    exact ⟨_, hk _ _ (Heap.get?_push_size _ rfl), rfl, rfl⟩
  · have e' : c = s2.heap.objs.size + 1 + 2 ∨ c = s2.heap.objs.size + 1 ∨ c = s2.heap.objs.size + 1 + 1 ∨ c = s1.heap.objs.size ∨ c = s2.heap.objs.size := by simpa using hcm
    rcases e' with z | z | z | z | z
    · rw [z]; exact freshH _ (Nat.le_trans (Nat.le_succ _) (Nat.le_add_right _ 2))
    · rw [z]; exact freshH _ (Nat.le_succ _)
    · rw [z]; exact freshH _ (Nat.le_trans (Nat.le_succ _) (Nat.le_succ _))
    · rw [z]; exact ⟨pun, fp1.2⟩
    · rw [z]; exact freshH _ (Nat.le_refl _)
/-- a loop over it -/
theorem for_zipR {K : PySem.W.Frag} {a b : Addr} {xs ys : List V} {n : Nat} {g : TG} {tb : TS} {D : Ends} {σ : L2.St} {H : Hp} (hx : xs.length = n) (hy : ys.length = n) (Pv : Nat → L2.St → Hp → Prop) (h0 : Pv 0 σ H) (hq : ∀ i σ H, Pv i σ H → SqL K H a xs ∧ SqT K H b ys)
    (hs : ∀ (i : Nat) (x y : V) (T : Addr) (σ : L2.St) (H : Hp), i < n → xs[n - 1 - i]? = some x → ys[n - 1 - i]? = some y → Pv i σ H → H T = none → g (.ref T) σ (upd H T (.tup [x, y])) fun σ2 H2 => tb { D with nx := Pv (i + 1), ct := Pv (i + 1), bk := D.nx } σ2 H2) (hd : ∀ σ H, Pv n σ H → D.nx σ H) :
    ∃ W : Nat → Nat → L2.St → Hp → Prop, (∃ m, W 0 m σ H) ∧ ∀ i m σ H, W i m σ H →
      ((ItzR K a b n).stop i H ∧ D.nx σ H) ∨ ((ItzR K a b n).go i H ∧ ∃ N : L2.St → Hp → Prop, (∀ σ' H', N σ' H' → ∃ m', m' < m ∧ W (i + 1) m' σ' H') ∧ ∀ v H', (ItzR K a b n).yld i H v H' → g v σ H' fun σ2 H2 => tb { D with nx := N, ct := N, bk := D.nx } σ2 H2) := by
  refine ⟨fun i m σ H => m = n - i ∧ i ≤ n ∧ Pv i σ H, ⟨n, rfl, Nat.zero_le _, h0⟩, ?_⟩
  rintro i m σ H ⟨rfl, hi, p⟩
  obtain ⟨qx, qy⟩ := hq i σ H p
  by_cases hlt : i < n
  · refine .inr ⟨⟨hlt, xs, ys, qx, qy, hx, hy⟩, Pv (i + 1), fun σ' H' p' => ⟨n - (i + 1), by omega, rfl, hlt, p'⟩, fun v H' y => ?_⟩
    obtain ⟨T, x', y', rfl, hT, rfl, f1, f2⟩ := y
    exact hs i x' y' T σ H hlt (f1 xs qx) (f2 ys qy) p hT
  · have e : i = n := by omega
    subst e
    exact .inl ⟨⟨Nat.le_refl _, xs, ys, qx, qy, hx, hy⟩, hd σ H p⟩
end Rs
set_option Elab.async false
set_option linter.all false
set_option maxRecDepth 100000
set_option maxHeartbeats 4000000
/-! Rootstamp, further rules: setdefault with tuple keys; text * n; an own class's inherited __init__; functions that leave their maker. -/
namespace Rs
open PySem PySem.Spec PyProof.Rows L2

/-! ### d.setdefault(t, z), d a dict of tuple keys -/
section
variable {X : Cx} {pins : List (Addr × Obj)} {σ : L2.St} {H : Hp} {s : Shared} {a b : Addr} {d : V} {r : Value} {k : List Key} {A : Around} {E : Value → Shared → Prop}
theorem d_setdT {kvs : List (List Key × V)} {Q : Value → Shared → Prop} (hu : A.units + 1 < cLine) (I : Inv X pins σ H s) (e : H a = some (.dT kvs)) (eb : H b = some (.tup (k.map kV))) (rd : RelV d r) (hl : kvs.length < sizeLine)
    (h1 : ∀ v, valV kvs k = some v → ∀ (w' : Value) (s' : Shared), Inv X pins σ H s' → RelV v w' → Q w' s') (h2 : valV kvs k = none → ∀ (w' : Value) (s' : Shared), Inv X pins σ (upd H a (.dT (putK kvs k d))) s' → RelV d w' → Q w' s') :
    wpAny (model X.prog X.w) A (call (.builtin "dict.setdefault") [.ref a, .ref b, r]) Q E s := by
  obtain ⟨z, hd, xs, rel, dd⟩ := dt_of I.hok e
  have hz : xs.length ≤ sizeLine := by rw [← Paired.length rel]; exact z
  refine call_setdefault_heap (hsz := hz) (tupleKind_room_in1 hu) (key_of I.hok eb) hd dd (fun p hp => ?_) fun hn h' dd' hs => ?_
  · have q := rel.val k
    rw [hp] at q
    cases q0 : valV kvs k with
    | none =>
      rw [q0] at q
      exact (show False from q).elim
    | some v0 =>
      rw [q0] at q
      exact h1 v0 q0 _ _ (I.tok _) q
  · have q := rel.val k
    rw [hn] at q
    cases q0 : valV kvs k with
    | some v0 =>
      rw [q0] at q
      exact (show False from q).elim
    | none =>
      have hl2 : (putK kvs k d).length ≤ sizeLine := by have := length_putK kvs k d; omega
      obtain ⟨o, es, ep, hq, g2, g3, g4, _, g5⟩ := dd'
      refine h2 q0 _ _ (d_write (t' := _) I (by rw [e]; exact True.intro) hs ⟨o, hq⟩ ⟨hl2, hd, _, (rel.put k eb rd).keeps fun c ys ec => ?_, o, es, ep, hq, g2, g3, g4, g5⟩) rd
      rw [upd_ne (ne_of ec e (fun z => nomatch z))]
      exact ec
end
def tDSetdT (td ty tx : TE) : TE := fun σ H Q => td σ H fun x H1 => ∃ a, x = .ref a ∧ IsD H1 a ∧ ty σ H1 fun y H2 => tx σ H2 fun z H3 => ∃ (kvs : List (List Key × V)) (k : List Key) (b : Addr), H3 a = some (.dT kvs) ∧ y = .ref b ∧ H3 b = some (.tup (k.map kV)) ∧ kvs.length < sizeLine ∧
  (∀ v, valV kvs k = some v → Q v H3) ∧ (valV kvs k = none → Q z (upd H3 a (.dT (putK kvs k z))))
section
variable {X : Cx} {o e f : Expr} {td ty tx : TE} {apos cpos : Pos}
theorem pe_dsetdT (hu : X.A.units + 1 < cLine) (ho : PE X o td) (he : PE X e ty) (hf : PE X f tx) (m : M2 X o "setdefault" apos e f cpos) : PE X (.Call (.Attribute o "setdefault" apos) [e, f] [] cpos) (tDSetdT td ty tx) := by
  refine ⟨fun pins s σ H Q I h => ?_⟩
  refine wpAny_Call_method m.base m.few m.line PySem.F.plainAttrs_dict PySem.F.slot_dict_setdefault PySem.F.type_dict_setdefault (thn (ho.run pins s σ H _ I h) fun u s1 ⟨x, H1, I1, rx, a, ex, d, q1⟩ => ?_)
  subst ex
  obtain rfl : u = Value.ref a := rx
  obtain ⟨t1, t2, _⟩ := isD_at I1 d
  refine ⟨t1, t2, ?_⟩
  rw [m.trees]
  refine Calls.callWith_builtin rfl (Calls.evalArgs_plain (Calls.spliced_cons (thn (he.run pins s1 σ H1 _ I1 q1) fun iv s2 ⟨y, H2, I2, ry, q2⟩ =>
    Calls.spliced_cons (thn (hf.run pins s2 σ H2 _ I2 q2) fun fv s3 ⟨z, H3, I3, rz, kvs, k, b, ea, ey, eb, hl, q3, q4⟩ => Calls.spliced_nil ?_))))
  subst ey
  obtain rfl : iv = Value.ref b := ry
  exact d_setdT hu I3 ea eb rz hl (fun v hv w' s4 I4 rw' => ⟨v, _, I4, rw', q3 v hv⟩) fun hn w' s4 I4 rw' => ⟨z, _, I4, rw', q4 hn⟩
end

/-! ### one sign * n -/
theorem foldl_signs (c : Nat) : ∀ (n : Nat) (acc : Array Nat), ((List.replicate n #[c]).foldl (· ++ ·) acc).size = acc.size + n
  | 0, acc => rfl
  | n + 1, acc => by
    rw [List.replicate_succ, List.foldl_cons, foldl_signs c n]
    simp only [Array.size_append]
    show acc.size + 1 + n = _
    omega
theorem mul_len (c : Nat) (n : Nat) : (Txt.mul ⟨#[c]⟩ (n : Int)).length = n := by
  unfold Txt.mul
  by_cases h0 : n = 0
  · subst h0; rfl
  · rw [if_neg (by omega)]
    by_cases h1 : n = 1
    · subst h1; rfl
    · rw [if_neg (by
        have e1 : ((n : Int) == 1) = false := beq_eq_false_iff_ne.mpr (by omega)
        rw [e1]; exact Bool.false_ne_true)]
      show ((List.replicate (n : Int).toNat #[c]).foldl (· ++ ·) #[]).size = n
      rw [foldl_signs, Int.toNat_natCast]
      exact Nat.zero_add n
theorem op_repS {X : Cx} : OpR X (binaryOp .Mult) (fun x y H Q => ∃ (c n : Nat), x = .str ⟨#[c]⟩ ∧ y = .int (n : Int) ∧ n ≤ 16000000 ∧ Q (.str (Txt.mul ⟨#[c]⟩ (n : Int))) H) := by
  intro pins s σ H x y v u Q I rx ry h
  obtain ⟨c, n, rfl, rfl, hn, q⟩ := h
  obtain ⟨t, rfl⟩ := rx
  obtain ⟨t', rfl⟩ := ry
  have l1 : (⟨#[c]⟩ : Str).length = 1 := rfl
  refine SB.mul ⟨?_, fun h1 _ => ?_, fun h1 _ => ?_⟩ fun t' k => ⟨.str _, H, I.tok _, ⟨_, rfl⟩, q⟩
  · rw [decide_eq_false (by omega), decide_eq_false (by omega)] <;> rfl
  · rw [l1]
    have hn1 : (1 : Int) ≤ (n : Int) := by omega
    have : (n : Int) * 1 ≤ 2 ^ 63 - 1 := by omega
    have q1 : (1 : Int) ≤ (2 ^ 63 - 1) / (n : Int) := (Int.le_ediv_iff_mul_le (by omega)).mpr (by omega)
    omega
  · rw [l1]
    have : sizeLine = 16777216 := sizeLine_eq
    show Builtin.Str.tooLong _ = false
    unfold Builtin.Str.tooLong
    exact decide_eq_false (by omega)

/-! ### S.__init__(self, ..), S an own class whose __init__ is ValueError's -/
structure InhI (K : PySem.W.Frag) (mg : Str → Option Value) (x : Str) (S : Addr) : Prop where
  g : mg x = some (.ref S)
  rd : PySem.W.readsIn K S (.type "type") = true
  ga : PySem.W.specialIn K (.ref S) "__getattribute__" = some (some (.builtin "type.__getattribute__"))
  vI : PySem.W.findCls K (.ref S) (.type "type") "__init__" = some (.val (.builtin "ValueError.__init__"))
theorem pe_cinit {X : Cx} {e : Expr} {es : List Expr} {ta : TA} {x : Str} {S : Addr} {p1 p2 pos : Pos} {pl : Sem Bool} (T : InhI X.K X.mg x S) (hg : Gl X x) (ha : PA X (e :: es) ta)
    (hc : eval (.Call (.Attribute (.Name x p1) "__init__" p2) (e :: es) [] pos) X.env = (do
      let ov ← eval (.Name x p1) X.env
      standAt p2.atName
      let (f, first) ← holding [ov] (getMethod ov "__init__" pl)
      callWith pos f first (backTo pos (starEach (e :: es) X.env)) (backToKw pos (keywordEach [] X.env))) := by rfl)
    (hdb : (x == ("__debug__" : Str)) = false := by decide)
    (he : starEach (e :: es) X.env = (false, eval e X.env) :: starEach es X.env := by rfl) (hpl : (backTo pos (starEach es X.env)).any (·.1) = false := by rfl) :
    PE X (.Call (.Attribute (.Name x p1) "__init__" p2) (e :: es) [] pos) (tVeI X.K ta) := by
  refine ⟨fun pins s σ H Q I h => ?_⟩
  refine PySem.W.methodCall_KW (ld_glob I hg T.g ?_ hdb) hc
  refine PySem.W.method_cls I.kIn T.ga (PySem.W.cls_value I.kIn T.rd T.vI (by decide +kernel) ?_)
  show wpAny _ _ (callWith pos (Value.builtin "ValueError.__init__") [] (backTo pos (starEach (e :: es) X.env)) []) _ _ _
  refine PyProof.Rows.callWith_method1 (thn (ha.run pos pins _ σ H _ (I.tok _) h) fun us s1 ⟨vs, H1, I1, r1, a, C, ws, ev, hl, T', ea, q⟩ => ?_) he hpl
  subst ev
  cases r1 with
  | @cons _ u0 _ ur ra rw' =>
    obtain rfl : u0 = Value.ref a := ra
    have hlen : ur.length ≤ sizeLine := by
      rw [← Paired.length rw', sizeLine_eq]
      omega
    exact oinit_ok T' I1 ea hlen fun s' J => ⟨.non, H1, J, rfl, q⟩

/-! ### cells that are tracked -/
def CellO (c : Addr) (v : V) : HO := .ext fun h => ∃ u, L2.RelV v u ∧ h.IsCell c (some u)
theorem cellO_at {P : Program} {w : World} {H : Hp} {h : Heap} {c : Addr} {v : V} (hok : HOk P w H h) (e : H c = some (CellO c v)) : ∃ u, L2.RelV v u ∧ h.IsCell c (some u) := by
  obtain ⟨z, _, _⟩ := hok c _ e
  exact z
theorem cellO_ok {P : Program} {w : World} {H : Hp} {h : Heap} {c : Addr} {v : V} {u : Value} (r : L2.RelV v u) (hc : h.IsCell c (some u)) : ObjOk P w H h c (CellO c v) := by
  obtain ⟨o, ho, hd⟩ := hc
  exact ⟨⟨u, r, o, ho, hd⟩, ⟨o, ho⟩, fun h1 h2 ⟨u', r', o', ho', hd'⟩ st => ⟨u', r', o', st _ ho', hd'⟩⟩
theorem cellO_own {c x : Addr} {v : V} : CellO c v ≠ .own x := fun z => by unfold CellO at z; cases z
theorem cellO_tup {c : Addr} {v : V} {xs : List V} : CellO c v ≠ .tup xs := fun z => by unfold CellO at z; cases z
theorem cellO_frz {c : Addr} {v : V} {o : Obj} {u : HO} : CellO c v ≠ .frz o u := fun z => by unfold CellO at z; cases z
theorem cellO_tbl {c : Addr} {v : V} {ps : Array Value} : CellO c v ≠ .tbl ps := fun z => by unfold CellO at z; cases z
def addC (L : List (Addr × V)) (H : Hp) : Hp := fun b => match L.lookup b with
  | some v => some (CellO b v)
  | none => H b
def delC (L : List (Addr × V)) (H : Hp) : Hp := fun b => match L.lookup b with
  | some _ => none
  | none => H b
theorem addC_none {L : List (Addr × V)} {H : Hp} {b : Addr} (h : L.lookup b = none) : addC L H b = H b := by unfold addC; rw [h]
theorem addC_some {L : List (Addr × V)} {H : Hp} {b : Addr} {v : V} (h : L.lookup b = some v) : addC L H b = some (CellO b v) := by unfold addC; rw [h]
theorem delC_none {L : List (Addr × V)} {H : Hp} {b : Addr} (h : L.lookup b = none) : delC L H b = H b := by unfold delC; rw [h]
theorem delC_some {L : List (Addr × V)} {H : Hp} {b : Addr} {v : V} (h : L.lookup b = some v) : delC L H b = none := by unfold delC; rw [h]
/-- the tracked cells are still there in H -/
def CellsIn (L : List (Addr × V)) (H : Hp) : Prop := ∀ a v, L.lookup a = some v → H a = some (CellO a v)
theorem CellsIn.out {L : List (Addr × V)} {H : Hp} (c : CellsIn L H) {b : Addr} {o : HO} (e : H b = some o) (n : ∀ v, o ≠ CellO b v) : L.lookup b = none := by
  cases q : L.lookup b with
  | none => rfl
  | some v =>
    have := c b v q
    rw [e] at this
    exact absurd (Option.some.inj this) (n v)
theorem CellsIn.free {L : List (Addr × V)} {H : Hp} (c : CellsIn L H) {b : Addr} (e : H b = none) : L.lookup b = none := by
  cases q : L.lookup b with
  | none => rfl
  | some v =>
    have := c b v q
    rw [e] at this
    cases this
theorem delC_of {L : List (Addr × V)} {H : Hp} {b : Addr} {o : HO} (e : delC L H b = some o) : H b = some o ∧ L.lookup b = none := by
  cases q : L.lookup b with
  | none => rw [delC_none q] at e; exact ⟨e, rfl⟩
  | some v => rw [delC_some q] at e; cases e
theorem hok_del {P : Program} {w : World} {L : List (Addr × V)} {H : Hp} {h : Heap} (c : CellsIn L H) (ok : HOk P w H h) : HOk P w (delC L H) h := fun b o e => by
  obtain ⟨e1, e2⟩ := delC_of e
  refine (ok b o e1).stay (fun _ _ _ q => q) (fun d q => ?_) fun d xs q => ?_
  · rw [delC_none (c.out q fun v z => cellO_own z.symm)]; exact q
  · rw [delC_none (c.out q fun v z => cellO_tup z.symm)]; exact q

/-- what a function with tracked cells makes of its own promise -/
theorem run_cells {P : Program} {w : World} {K : PySem.W.Frag} {mg : Str → Option Value} {base : Heap} {k : Nat} {f : Addr} {F : NdefX.NF} {ps fr : List Str} {sp : List (Option V) → Sp} (o : NdefX.NOk P w K mg base CX0 k f F ps fr sp)
    {A : Around} {outer : List Env} {s : Shared} {H : Hp} {us : List Value} {vs : List V} {L : List (Addr × V)} {ws : List (Option V)} {Q : VK} {E : XK} (hr : Room k A) (e0 : Env0 P w K mg base A outer s H) (hf : H f = some (NdefX.FnO f F)) (hc : H F.c = some (LamX.CodeO F.c F.qual))
    (c : CellsIn L H) (hlen : ws.length = fr.length) (hall : ∀ y a, F.cl.lookup y = some a → ∃ v, L.lookup a = some v) (hinj : ∀ x y a, F.cl.lookup x = some a → F.cl.lookup y = some a → x = y)
    (hhas : ∀ (i : Nat) (y : Str), fr[i]? = some y → ∃ a, F.cl.lookup y = some a ∧ ∀ v, ws[i]? = some (some v) → L.lookup a = some v) (r : Vals vs us)
    (q : sp ws vs (delC L H) (fun v H' => Q v (addC L H')) E0) : codeAny (model P w) A (.call (.ref f) ⟨us, []⟩) (CR CX0 outer P w H s Q E) s := by
  have hok0 := hok_del c e0.hok
  have e1 : Env0 P w K mg base A outer s (delC L H) := ⟨e0.frames, e0.mod, fun b ob e => ⟨(e0.bs b ob e).1, by rw [delC_none (c.free (e0.bs b ob e).2)]; exact (e0.bs b ob e).2⟩, e0.bsz, e0.funs, fun b hb => by rw [delC_none (c.free (e0.frf b hb))]; exact e0.frf b hb, hok0, e0.bare⟩
  have nf : ∀ v, NdefX.FnO f F ≠ CellO f v := fun v z => by
    obtain ⟨od, sl, doc, pm, ctv, g1⟩ := NdefX.fnO_at e0.hok hf
    have hf2 := hf
    rw [z] at hf2
    obtain ⟨u, _, ob, g2, g3⟩ := cellO_at e0.hok hf2
    rw [g1] at g2
    cases g2
    cases g3
  have hf1 : delC L H f = some (NdefX.FnO f F) := by rw [delC_none (c.out hf nf)]; exact hf
  have nc : ∀ v, LamX.CodeO F.c F.qual ≠ CellO F.c v := fun v z => by
    obtain ⟨⟨oc, vs, t, g1, g2, _⟩, _, _⟩ := e0.hok _ _ hc
    have hc2 := hc
    rw [z] at hc2
    obtain ⟨u, _, ob, g3, g4⟩ := cellO_at e0.hok hc2
    rw [g1] at g3
    cases g3
    rw [g2] at g4
    cases g4
  have hc1 : delC L H F.c = some (LamX.CodeO F.c F.qual) := by rw [delC_none (c.out hc nc)]; exact hc
  have C : NdefX.CellsAt F.cl fr ws s.heap (delC L H) := by
    refine ⟨hlen, fun y a e => ?_, hinj, fun i y e => ?_⟩
    · obtain ⟨v, hv⟩ := hall y a e
      obtain ⟨u, _, hu⟩ := cellO_at e0.hok (c a v hv)
      exact ⟨delC_some hv, _, hu⟩
    · obtain ⟨a, ha, hw⟩ := hhas i y e
      exact ⟨a, ha, fun v ev => cellO_at e0.hok (c a v (hw v ev))⟩
  refine codeAny_mono (o.run A outer s (delC L H) us vs ws _ E0 hr e1 hf1 hc1 C r q) fun r s' hq => ?_
  cases r with
  | error e => exact (show False from hq).elim
  | ok fl =>
    cases fl with
    | next => exact False.elim hq
    | brk => exact False.elim hq
    | cont => exact False.elim hq
    | ret u =>
      obtain ⟨v, H', os, bare, un, hok', rv, q'⟩ := hq
      have cellK : ∀ a v, L.lookup a = some v → ∃ u, L2.RelV v u ∧ s'.heap.IsCell a (some u) := fun a v hv => by
        obtain ⟨u, ru, ob, ho, hd⟩ := cellO_at e0.hok (c a v hv)
        refine ⟨u, ru, ob, un.keep a ob ho (delC_some hv) (fun z => ?_) (by simp), hd⟩
        have := e0.frf a z
        rw [c a v hv] at this
        cases this
      have goneC : ∀ a v, L.lookup a = some v → H' a = none := fun a v hv => by
        obtain ⟨u, ru, ob, ho, hd⟩ := cellO_at e0.hok (c a v hv)
        exact un.free a ob ho (delC_some hv) (by simp)
      refine ⟨v, addC L H', os, bare, ⟨fun b ob e n hb hx => un.keep b ob e (by rw [delC_none (c.free n)]; exact n) hb hx, fun b ob e n hb hx => un.slot b ob e (by rw [delC_none (c.free n)]; exact n) hb hx, fun b ob e n hx => ?_, un.there, fun b xs e => ?_, fun b ob x e => ?_, fun b ps e => ?_⟩, fun b ob e => ?_, rv, q'⟩
      · rw [addC_none (c.free n)]
        exact un.free b ob e (by rw [delC_none (c.free n)]; exact n) hx
      · have l := c.out e fun v z => cellO_tup z.symm
        rw [addC_none l]
        exact un.tups b xs (by rw [delC_none l]; exact e)
      · have l := c.out e fun v z => cellO_frz z.symm
        rw [addC_none l]
        exact un.frzs b ob x (by rw [delC_none l]; exact e)
      · have l := c.out e fun v z => cellO_tbl z.symm
        rw [addC_none l]
        exact un.tbls b ps (by rw [delC_none l]; exact e)
      · cases l : L.lookup b with
        | some v' =>
          rw [addC_some l] at e
          cases e
          obtain ⟨u', ru, hc'⟩ := cellK b v' l
          exact cellO_ok ru hc'
        | none =>
          rw [addC_none l] at e
          have keepL : ∀ {d : Addr} {o' : HO}, H' d = some o' → L.lookup d = none := fun {d o'} z => by
            cases y : L.lookup d with
            | none => rfl
            | some v' => rw [goneC d v' y] at z; cases z
          exact (hok' b ob e).stay (fun _ _ _ z => z) (fun d z => by rw [addC_none (keepL z)]; exact z) fun d xs z => by rw [addC_none (keepL z)]; exact z
end Rs
set_option Elab.async false
set_option linter.all false
set_option maxRecDepth 100000
set_option maxHeartbeats 4000000
/-! Rootstamp, further rules: a def that hands back a function of its own (its cells are tracked from then on); a lambda that is handed back. -/
namespace Rs
open PySem PySem.Spec PyProof.Rows L2
section
variable {P : Program} {w : World} {K : PySem.W.Frag} {mg : Str → Option Value} {base : Heap}
/-- as fn_of, for a def that ends by handing back v, the cells L tracked from then on -/
theorem fn_leave {k : Nat} {f : Addr} {name qual : Str} {params : Arguments} {body : List Stmt} {scope : Scope} {dV kV doc pm cdv ct oc : Value} {an od : Option Addr}
    {osl : Array (Option Value)} {N ps : List Str} {sp : Sp} (lk : K.lookup f = some ⟨oc, od, .func (PySem.W.fnOf name qual params body scope dV kV doc pm an cdv ct), osl⟩) (hcd : PySem.W.codeIn K cdv qual = true) (S : FnScope N ps scope)
    (len : ∀ vs H Q E, sp vs H Q E → vs.length = ps.length)
    (hbody : ∀ (A : Around) (outer : List Env) (s : Shared) (H : Hp) (vs : List V) (Q : VK) (E : XK), Room k (A.deeper (envOfC qual scope s.heap.objs.size f cdv)) → sp vs H Q E →
      ∀ s1 : Shared, Inv (cxOf CX0 P w K mg base N qual scope f cdv A outer s H E) [] (start N vs) H s1 →
      wpAny (model P w) (A.deeper (envOfC qual scope s.heap.objs.size f cdv)) (execs body (envOfC qual scope s.heap.objs.size f cdv))
        (fun fl s' => ∃ (u : Value) (v : V) (σ' : L2.St) (H' : Hp), fl = .ret u ∧ Inv (cxOf CX0 P w K mg base N qual scope f cdv A outer s H E) [] σ' H' s' ∧ L2.RelV v u ∧
          ∃ L : List (Addr × V), (∀ a v, L.lookup a = some v → ∃ (y : Str) (j : Nat), (cellsFrom (s.heap.objs.size + 1) scope.names []).lookup y = some a ∧ N[j]? = some y ∧ scope.names.lookup y = some .cell ∧ σ'[j]? = some (some v)) ∧ Q v (addC L H'))
        (cxOf CX0 P w K mg base N qual scope f cdv A outer s H E).xe s1) :
    FnOk P w K mg base CX0 (k + 1) f (PySem.W.fnOf name qual params body scope dV kV doc pm an cdv ct) ps sp := by
  refine ⟨len, fun A outer s H args us vs Q E hr e0 hb r hsp => ?_⟩
  have hl := len _ _ _ _ hsp
  have KX : K.In s.heap := e0.mod.kin.keeps fun b o e => (e0.bs b o e).1
  have lim : s.heap.NoLimit := e0.mod.nolimit.keeps fun b o e => (e0.bs b o e).1
  have hkind : ∀ y ∈ ps.zip us, scope.names.lookup y.1 = some .local ∨ (scope.names.lookup y.1 = some .cell ∧ ((cellsFrom (s.heap.objs.size + 1) scope.names []).lookup y.1).isSome = true) := fun ⟨n, v⟩ hy => by
    rcases S.par n (List.of_mem_zip hy).1 with q | q
    · exact .inl q
    · exact .inr ⟨q, PySem.W.cellsFrom_some _ _ _ (.inl q)⟩
  refine codeAny_call_function hr.depth (KX _ _ lk) rfl S.co S.gen rfl (PySem.W.codeRec_of KX hcd) (hb _ _ _ _ ?_)
  refine wpAny_newFunctionEnv_cells S.kind hkind fun env he s1 x => ?_
  subst he
  refine ⟨lim.keeps x.toInCall.keep, codeAny_func ?_⟩
  have I : Inv (cxOf CX0 P w K mg base N qual scope f cdv A outer s H E) [] (start N vs) H s1 := inv_start S hr.hd e0 hl r x
  refine wpAny_mono (hbody A outer s H vs Q E (hr.deeper _) hsp s1 I) (fun fl s' hs => ?_) fun e s' hs => hs
  obtain ⟨u, v, σ', H', rfl, J, rv, L, hL, q⟩ := hs
  have lcell : ∀ a v, L.lookup a = some v → H' a = none ∧ s.heap.objs.size ≤ a ∧ ∃ u, L2.RelV v u ∧ s'.heap.IsCell a (some u) := fun a v hv => by
    obtain ⟨y, j, h1, h2, h3, h4⟩ := hL a v hv
    refine ⟨J.freeC y a h1, J.ok.cab y a rfl h1, ?_⟩
    obtain ⟨m, hn, hl⟩ := J.loc
    obtain ⟨u', ru, l⟩ := hl j y v h2 h4 (.inr (.inl h3))
    rcases l with ⟨z, _⟩ | ⟨_, c, hc, hcell⟩
    · have z' : scope.names.lookup y = some .local := z
      rw [h3] at z'
      cases z'
    · have hc' : (cellsFrom (s.heap.objs.size + 1) scope.names []).lookup y = some c := hc
      rw [h1] at hc'
      cases hc'
      exact ⟨u', ru, hcell⟩
  have out : ∀ {b : Addr} {o : HO}, H' b = some o → L.lookup b = none := fun {b o} e => by
    cases z : L.lookup b with
    | none => rfl
    | some v => rw [(lcell b v z).1] at e; cases e
  have old : ∀ {b : Addr} {o : Obj}, s.heap.get? b = some o → L.lookup b = none := fun {b o} e => by
    cases z : L.lookup b with
    | none => rfl
    | some v => exact absurd (Nat.lt_of_lt_of_le (Heap.lt_size e) (lcell b v z).2.1) (Nat.lt_irrefl _)
  have un := J.base
  refine ⟨v, addC L H', J.os, J.bare, ⟨un.keep, un.slot, fun b ob e n hx => ?_, un.there, fun b xs e => ?_, fun b ob x e => ?_, fun b ps e => ?_⟩, fun b ob e => ?_, rv, q⟩
  · rw [addC_none (old e)]
    exact un.free b ob e n hx
  · have z := un.tups b xs e
    rw [addC_none (out z)]
    exact z
  · have z := un.frzs b ob x e
    rw [addC_none (out z)]
    exact z
  · obtain ⟨more, z⟩ := un.tbls b ps e
    exact ⟨more, by rw [addC_none (out z)]; exact z⟩
  · cases l : L.lookup b with
    | some v' =>
      rw [addC_some l] at e
      cases e
      obtain ⟨_, _, u', ru, hc'⟩ := lcell b v' l
      exact cellO_ok ru hc'
    | none =>
      rw [addC_none l] at e
      exact (J.hok b ob e).stay (fun _ _ _ z => z) (fun d z => by rw [addC_none (out z)]; exact z) fun d xs z => by rw [addC_none (out z)]; exact z
end
section
variable {X : Cx} {st1 st2 : Stmt} {t1 t2 : TS} {i : Nat} {x : Str} {p p2 : Pos} {s : Shared} {σ : L2.St} {H : Hp} {R : V → L2.St → Hp → Prop}
theorem leave_end (hN : X.N[i]? = some x) (hv : Vis X.env.scope x) (I : Inv X [] σ H s) (h : ∃ v, σ[i]? = some (some v) ∧ ((∀ x c, X.env.cells.lookup x = some c → H c = none) → R v σ H)) (hd : (x == ("__debug__" : Str)) = false := by decide) (hcd : (x == ("__classdict__" : Str)) = false := by decide) :
    wpAny (model X.prog X.w) X.A (execs [.Return (some (.Name x p)) p2] X.env) (fun fl s' => ∃ (u : Value) (v : V) (σ' : L2.St) (H' : Hp), fl = .ret u ∧ Inv X [] σ' H' s' ∧ L2.RelV v u ∧ R v σ' H') X.xe s := by
  obtain ⟨v, hs, hr⟩ := h
  refine wpAny_execs_cons (wpAny_Return_some (thn ((pe_var (pos := p) hN hv hd hcd).run [] s σ H (fun y H1 => y = v ∧ H1 = H) I ⟨v, hs, rfl, rfl⟩) fun u s1 ⟨y, H1, I1, r1, e1, e2⟩ => ?_))
  subst e1 e2
  exact ⟨u, _, σ, _, rfl, I1, r1, hr I1.freeC⟩
theorem leave2 (h1 : PS X st1 t1) (hN : X.N[i]? = some x) (hv : Vis X.env.scope x) (I : Inv X [] σ H s) (h : t1 { nx := fun σ' H' => ∃ v, σ'[i]? = some (some v) ∧ ((∀ x c, X.env.cells.lookup x = some c → H' c = none) → R v σ' H'), rt := fun _ _ => False } σ H)
    (hd : (x == ("__debug__" : Str)) = false := by decide) (hcd : (x == ("__classdict__" : Str)) = false := by decide) :
    wpAny (model X.prog X.w) X.A (execs [st1, .Return (some (.Name x p)) p2] X.env) (fun fl s' => ∃ (u : Value) (v : V) (σ' : L2.St) (H' : Hp), fl = .ret u ∧ Inv X [] σ' H' s' ∧ L2.RelV v u ∧ R v σ' H') X.xe s := by
  refine wpAny_execs_cons (thn (h1.run [] s σ H _ I h) fun f s1 q => ?_)
  cases f with
  | next =>
    obtain ⟨σ1, H1, I1, q1⟩ := q
    exact leave_end hN hv I1 q1 hd hcd
  | ret v => obtain ⟨_, _, _, _, _, z⟩ := q; exact z.elim
  | brk => obtain ⟨_, _, _, z⟩ := q; exact z.elim
  | cont => obtain ⟨_, _, _, z⟩ := q; exact z.elim
theorem leave3 (h1 : PS X st1 t1) (h2 : PS X st2 t2) (hN : X.N[i]? = some x) (hv : Vis X.env.scope x) (I : Inv X [] σ H s)
    (h : t1 { nx := t2 { nx := fun σ' H' => ∃ v, σ'[i]? = some (some v) ∧ ((∀ x c, X.env.cells.lookup x = some c → H' c = none) → R v σ' H'), rt := fun _ _ => False }, rt := fun _ _ => False } σ H)
    (hd : (x == ("__debug__" : Str)) = false := by decide) (hcd : (x == ("__classdict__" : Str)) = false := by decide) :
    wpAny (model X.prog X.w) X.A (execs [st1, st2, .Return (some (.Name x p)) p2] X.env) (fun fl s' => ∃ (u : Value) (v : V) (σ' : L2.St) (H' : Hp), fl = .ret u ∧ Inv X [] σ' H' s' ∧ L2.RelV v u ∧ R v σ' H') X.xe s := by
  refine wpAny_execs_cons (thn (h1.run [] s σ H _ I h) fun f s1 q => ?_)
  cases f with
  | next =>
    obtain ⟨σ1, H1, I1, q1⟩ := q
    exact leave2 h2 hN hv I1 q1 hd hcd
  | ret v => obtain ⟨_, _, _, _, _, z⟩ := q; exact z.elim
  | brk => obtain ⟨_, _, _, z⟩ := q; exact z.elim
  | cont => obtain ⟨_, _, _, z⟩ := q; exact z.elim
end

/-! ### a lambda that is handed back -/
/-- at f: the lambda of these words, its code object at F.c -/
def LamO (f : Addr) (F : NdefX.NF) (body : Expr) : HO := .ext fun h => ∃ (pm ctv : Value), h.get? f = some (PySem.W.kla_obj F.name F.qual F.params body F.scope F.cl pm F.c ctv)
theorem lamO_at {P : Program} {w : World} {H : Hp} {h : Heap} {f : Addr} {F : NdefX.NF} {body : Expr} (hok : HOk P w H h) (e : H f = some (LamO f F body)) : ∃ (pm ctv : Value), h.get? f = some (PySem.W.kla_obj F.name F.qual F.params body F.scope F.cl pm F.c ctv) := by
  obtain ⟨z, _, _⟩ := hok f _ e
  exact z
section
variable {X : Cx} {pins : List (Addr × Obj)} {σ : L2.St} {H : Hp} {s : Shared}
theorem inv_lam {F : NdefX.NF} {body : Expr} {t' : Nat} {pm ctv : Value} (I : Inv X pins σ H s) :
    Inv X pins σ (upd H s.heap.objs.size (LamO s.heap.objs.size F body)) { s with heap := s.heap.push (PySem.W.kla_obj F.name F.qual F.params body F.scope F.cl pm F.c ctv), toks := t' } := by
  refine I.laid (a := s.heap.objs.size) (fun b u e => Heap.get?_push_of_some _ e) (Nat.le_refl _) ?_
  have e : (s.heap.push (PySem.W.kla_obj F.name F.qual F.params body F.scope F.cl pm F.c ctv)).get? s.heap.objs.size = some (PySem.W.kla_obj F.name F.qual F.params body F.scope F.cl pm F.c ctv) := Heap.get?_push_size _ rfl
  exact ⟨⟨pm, ctv, e⟩, ⟨_, e⟩, fun h1 h2 ⟨p, t, z⟩ st => ⟨p, t, st _ z⟩⟩
def tLamV (P : Addr) (mk : Addr → NdefX.NF) (body : Expr) : TE := fun _ H Q => H P = some (.tbl #[]) ∧ ∀ (f c' : Addr) (H1 : Hp), LamX.ExtN H H1 → H f = none → H1 f = some (LamO f (mk c') body) → H1 c' = some (LamX.CodeO c' (mk c').qual) → Q (.ref f) H1
/-- the lambda as a value; the table of code objects is empty ahead of it -/
theorem pe_lamV {c P : Addr} {params : Arguments} {body : Expr} {scope : Scope} {pos : Pos} (TB : LamX.TabB X.base X.mg c P) (hcode : X.env.code = .ref c) (hdef : defaultsOf params X.env = ([], []))
    (hfree : ∀ y ∈ scope.names, y.2 = .free → X.env.scope.names.lookup y.1 = some .cell ∨ X.env.scope.names.lookup y.1 = some .free) :
    PE X (.Lambda params body scope pos) (tLamV P (fun c' => ⟨"<lambda>", X.env.qual ++ "<lambda>", params, [], scope, cloFrom X.env.cells scope.names [], c'⟩) body) := by
  refine ⟨fun pins s σ H Q I h => ?_⟩
  obtain ⟨hP, h⟩ := h
  have hfr : ∀ y ∈ scope.names, y.2 = .free → ∃ c, X.env.cells.lookup y.1 = some c := fun y hy e => (hfree y hy e).elim (fun z => I.ok.has _ (.inl z)) fun z => I.ok.has _ (.inr z)
  have bP : s.heap.BuiltinsAt X.mg P := TB.bm.keeps I.bk
  have hP' : s.heap.get? P = some { cls := .none, data := .fields #[] } := I.hok P _ hP
  refine PySem.W.kla_eval hdef ?_
  have hc : codeAmong pos (#[] : Array Value).toList = none := rfl
  refine PySem.W.kla_makeFunction (mg := X.mg) (c := c) (P := P) (ps := #[]) (closure_ok hfr) I.ok.glob (I.mod.glob.keeps I.bk) hcode (TB.code.keeps I.bk) hP' True.intro hc TB.gP bP fun c' ctv h' tk hx hge hlt hrec htb => ?_
  obtain ⟨c2, oc, vs, t, e2, hoc, hd, hv⟩ := hrec
  cases e2
  have nC : H c' = none := I.hok.fresh hge
  have I1 := LamX.inv_table (t' := tk) (more := #[rawInt pos.line, rawInt pos.col, .ref c']) (h' := h') I hP (fun b o hb e => hx b o hb e) htb hge ⟨oc, vs, t, hoc, hd, hv⟩
  have nF := I1.hok.fresh (Nat.le_refl _)
  have I2 := inv_lam (F := ⟨"<lambda>", X.env.qual ++ "<lambda>", params, [], scope, cloFrom X.env.cells scope.names [], c'⟩) (body := body) (t' := tk) (pm := (X.mg "__name__").getD .none) (ctv := ctv) I1
  refine ⟨.ref h'.objs.size, _, I2, rfl, h h'.objs.size c' _ (fun b o e n => ?_) (I.hok.fresh (Nat.le_trans hge (Nat.le_of_lt hlt))) upd_same ?_⟩
  · have e1 : (upd (upd H P (.tbl (#[] ++ #[rawInt pos.line, rawInt pos.col, .ref c']))) c' (LamX.CodeO c' (X.env.qual ++ "<lambda>"))) b = some o := by
      rw [upd_ne (ne_of_none e nC), upd_ne (fun z => n #[] (Option.some.inj (e.symm.trans (by rw [z]; exact hP))))]
      exact e
    exact (upd_ne (ne_of_none e1 nF)).trans e1
  · exact (upd_ne (Nat.ne_of_lt hlt)).trans upd_same
end
/-- the lambda called -/
theorem lam_run {P : Program} {w : World} {K : PySem.W.Frag} {mg : Str → Option Value} {base : Heap} {N ps : List Str} {F : NdefX.NF} {f : Addr} {k : Nat} {body : Expr} {te : TE} {A : Around} {outer : List Env} {s : Shared} {H : Hp} {us : List Value} {vs : List V} {Q : VK} {E : XK}
    (S : NdefX.NScope N ps [] F.scope) (hcl : F.cl = []) (hb : ∀ (pm ctv : Value) (us : List Value), us.length = ps.length → bindArgs (PySem.W.kla_fn F.name F.qual F.params body F.scope F.cl pm (.ref F.c) ctv) ⟨us, []⟩ = pure (ps.zip us)) (hl : vs.length = ps.length)
    (hr : Room (k + 1) A) (e0 : Env0 P w K mg base A outer s H) (hf : H f = some (LamO f F body)) (hc : H F.c = some (LamX.CodeO F.c F.qual)) (r : Vals vs us)
    (hbody : Room k (A.deeper (NdefX.envF F f s.heap.objs.size)) → PE (NdefX.ncx CX0 P w K mg base N F f A outer s H E) body te) (hq : te (NdefX.startF N vs []) H Q) :
    codeAny (model P w) A (.call (.ref f) ⟨us, []⟩) (CR CX0 outer P w H s Q E) s := by
  have lim : s.heap.NoLimit := e0.mod.nolimit.keeps fun b o e => (e0.bs b o e).1
  obtain ⟨pm, ctv, ho⟩ := lamO_at e0.hok hf
  obtain ⟨⟨oc, vs', t, hoc, hdc, hvc⟩, _, _⟩ := e0.hok F.c _ hc
  refine PySem.W.kla_callFunE hr.depth ho rfl S.co S.gen rfl ⟨F.c, oc, vs', t, rfl, hoc, hdc, hvc⟩ ?_
  rw [hb pm ctv us (by rw [← r.length]; exact hl)]
  refine wpAny_pure (wpAny_newFunctionEnv S.nocell (fun ⟨n, _⟩ hy => S.par n (List.of_mem_zip hy).1) (fun h₁ hns hsb => ⟨lim.fresh _ hsb, ?_⟩) S.kind)
  show codeAny _ _ (.expr body (NdefX.envF F f s.heap.objs.size)) _ _
  have kp : ∀ b o, s.heap.get? b = some o → h₁.get? b = some o := fun b o e => hsb.extBut b o (Nat.ne_of_lt (Heap.lt_size e)) (Heap.get?_push_of_some _ e)
  have C : NdefX.CellsAt F.cl [] [] s.heap H := by
    rw [hcl]
    exact ⟨rfl, (fun y c e => nomatch e), (fun x y c e => nomatch e), (fun i y e => by simp at e)⟩
  have I : Inv (NdefX.ncx CX0 P w K mg base N F f A outer s H E) [] (NdefX.startF N vs []) H { s with heap := h₁, toks := s.toks + (ps.zip us).length } := NdefX.inv_startN S hr.hd e0 hl r C hns kp
  refine PySem.W.kla_codeExpr (wpAny_mono ((hbody (hr.deeper _)).run [] _ _ H Q I hq) (fun v s' hs => ?_) fun e s' hs => hs)
  obtain ⟨w', H', J, rv, q⟩ := hs
  exact ⟨w', H', J.os, J.bare, J.base, J.hok, rv, q⟩
end Rs
set_option Elab.async false
set_option linter.all false
set_option maxRecDepth 100000
set_option maxHeartbeats 4000000
/-! Rootstamp, the text: its defs by their places (printed by gen_t.py), what the top has left of them, calls by promise. -/
namespace Rs
open PySem PySem.Spec PyProof.Rows L2
def top (i : Nat) : Stmt := PySem.Challenge.pw_rootstamp_k50_whole_places_and_growths.main.body.getD i (.Pass ⟨0, 0, 0, 0⟩)
/-- a def of the text, named x, at the i-th place of the top, its parameters ps -/
def Dn (K : PySem.W.Frag) (mg : Str → Option Value) (x : Str) (i : Nat) (ps : List Str) : Prop := ∃ (f : Addr) (fd : FuncData), Fun K x x (top i) f fd ∧ mg x = some (.ref f) ∧ Binds K fd ps []
/-- a def that makes a function: its code object at c, its table at P -/
structure Dm (K : PySem.W.Frag) (mg : Str → Option Value) (base : Heap) (x : Str) (i : Nat) (ps : List Str) (P : Addr) : Prop where
  ex : ∃ (f c : Addr) (oc : Value) (od : Option Addr) (kV doc pm : Value) (an : Option Addr) (ct : Value) (osl : Array (Option Value)),
    K.lookup f = some ⟨oc, od, .func (PySem.W.fnOf x x (defArgs (top i)) (defBody (top i)) (defScope (top i)) .none kV doc pm an (.ref c) ct), osl⟩ ∧ PySem.W.codeIn K (.ref c) x = true ∧ PySem.W.keepIn K (.ref f) = true ∧ mg x = some (.ref f) ∧
    Binds K (PySem.W.fnOf x x (defArgs (top i)) (defBody (top i)) (defScope (top i)) .none kV doc pm an (.ref c) ct) ps [] ∧ LamX.TabB base mg c P
/-- the error Broken and the class above it -/
structure Brk (K : PySem.W.Frag) (mg : Str → Option Value) (C : Addr) : Prop where
  g : mg "Broken" = some (.ref C)
  ox : OexC K C
  te : PySem.W.exmOne K (.ref C) (.ref C) = some true
  ini : ∃ (fI : Addr) (fd : FuncData), Fun K "__init__" "Broken.__init__" (inClass (top 6) 0) fI fd ∧ PySem.W.findIn K (.ref C) "__init__" = some (some (.ref fI)) ∧ PySem.W.typeIn K (.ref fI) = some (.type "function") ∧ Binds K fd ["self", "due", "came"] []
  nD : PySem.W.findIn K (.ref C) "due" = some none
  nC : PySem.W.findIn K (.ref C) "came" = some none
  inh : ∃ S, InhI K mg "StampError" S
/-- what the top has left -/
structure Txt (K : PySem.W.Frag) (mg : Str → Option Value) : Prop where
  half_ : Dn K mg "half" 8 ["many"]
  ways_ : Dn K mg "ways" 9 ["place", "many"]
  is_whole_ : Dn K mg "is_whole" 11 ["thing"]
  is_stamp_ : Dn K mg "is_stamp" 12 ["thing"]
  is_term_ : Dn K mg "is_term" 13 ["thing"]
  part_written_ : Dn K mg "part_written" 14 ["part"]
  written_ : Dn K mg "written" 15 ["term"]
  is_below_ : Dn K mg "is_below" 17 ["thing", "many"]
  is_head_ : Dn K mg "is_head" 18 ["thing"]
  is_marks_ : Dn K mg "is_marks" 20 ["thing", "many"]
  is_place_paper_ : Dn K mg "is_place_paper" 21 ["thing", "many"]
  place_terms_ : Dn K mg "place_terms" 22 ["stamper", "count", "place", "paper"]
  place_mark_ : Dn K mg "place_mark" 23 ["stamper", "count", "place", "paper"]
  place_answer_ : Dn K mg "place_answer" 24 ["stamper", "head", "place", "paper"]
  how_many_ : Dn K mg "how_many" 26 ["count", "elder"]
  joined_ : Dn K mg "joined" 27 ["stamper", "count", "elder", "marks"]
  growth_terms_ : Dn K mg "growth_terms" 28 ["stamper", "count", "elder", "marks"]
  growth_answer_ : Dn K mg "growth_answer" 29 ["stamper", "head", "elder", "marks"]
  clash_ : Dn K mg "clash" 33 ["stamper", "terms"]
  law_cell_at_ : Dn K mg "_law_cell_at" 35 ["_law_script", "_law_k"]
  law_text_by_ : Dn K mg "_law_text_by" 37 ["_law_cell"]
  law_stamp_by_ : Dn K mg "_law_stamp_by" 38 ["_law_cell"]
  law_stamper_ : Dn K mg "_law_stamper" 41 ["_law_way_here", "_law_cell", "_law_known", "_law_alias"]
  law_plant_ : Dn K mg "_law_plant" 42 ["_law_known", "_law_alias", "_law_new", "_law_old"]
  law_count_by_ : Dn K mg "_law_count_by" 43 ["_law_cell"]
  law_lesser_ : Dn K mg "_law_lesser" 44 ["_law_cell", "_law_count"]
  law_half_ : Dn K mg "_law_half" 45 ["_law_many"]
  law_top_ : Dn K mg "_law_top" 46 ["_law_stamper_here", "_law_tree", "_law_low", "_law_many"]
  law_head_ : Dn K mg "_law_head" 47 ["_law_stamper_here", "_law_tree", "_law_count"]
  law_paper_ : Dn K mg "_law_paper" 48 ["_law_stamper_here", "_law_tree", "_law_many"]
  law_growth_ : Dn K mg "_law_growth" 49 ["_law_stamper_here", "_law_tree", "_law_many", "_law_elder"]
  law_hands_ : Dn K mg "_law_hands" 50 ["_law_count", "_law_elder"]
  law_way_ : Dn K mg "_law_way" 51 ["_law_count", "_law_place"]
  law_dealt_ : Dn K mg "_law_dealt" 52 ["_law_hands_here", "_law_marks"]
  law_term_ : Dn K mg "_law_term" 53 ["_law_stamper_here", "_law_count", "_law_hands_here", "_law_marks", "_law_top_here", "_law_height"]
  law_place_term_ : Dn K mg "_law_place_term" 54 ["_law_stamper_here", "_law_count", "_law_place", "_law_paper_here", "_law_height"]
  law_growth_term_ : Dn K mg "_law_growth_term" 55 ["_law_stamper_here", "_law_count", "_law_elder", "_law_marks", "_law_height"]
  law_near_ : Dn K mg "_law_near" 56 ["_law_mark"]
  law_turned_ : Dn K mg "_law_turned" 57 ["_law_kind", "_law_cell", "_law_marks"]
  law_changed_ : Dn K mg "_law_changed" 58 ["_law_kind", "_law_cell", "_law_paper_here"]
  law_is_clash_ : Dn K mg "_law_is_clash" 59 ["_law_stamper_here", "_law_terms", "_law_found"]
  law_told_ : Dn K mg "_law_told" 60 ["_law_stamper_here", "_law_growing", "_law_head_here", "_law_at", "_law_paper_here"]
  law_grown_ : Dn K mg "_law_grown" 61 ["_law_stamper_here", "_law_count", "_law_elder", "_law_marks"]
  law_good_ : Dn K mg "_law_good" 62 ["_law_stamper_here", "_law_terms", "_law_told_here", "_law_due", "_law_sure"]
  law_honest_ : Dn K mg "_law_honest" 63 ["_law_stamper_here", "_law_tree", "_law_heads", "_law_place"]
  law_places_ : Dn K mg "_law_places" 64 ["_law_stamper_here", "_law_script", "_law_tree", "_law_heads", "_law_known", "_law_alias", "_law_way_here"]
  law_growths_ : Dn K mg "_law_growths" 65 ["_law_stamper_here", "_law_script", "_law_tree", "_law_heads", "_law_known", "_law_alias", "_law_way_here"]
  law_ : Dn K mg "law" 66 ["_law_script"]
  b_len : mg "len" = none
  b_isinstance : mg "isinstance" = none
  b_int : mg "int" = none
  b_bool : mg "bool" = none
  b_str : mg "str" = none
  b_tuple : mg "tuple" = none
  b_list : mg "list" = none
  b_range : mg "range" = none
  b_zip : mg "zip" = none
  b_reversed : mg "reversed" = none
  b_sum : mg "sum" = none
  brk : ∃ C, Brk K mg C
/-- the four that make functions, their tables of code objects -/
structure Txm (K : PySem.W.Frag) (mg : Str → Option Value) (base : Heap) (Pw Pc Pk Pp : Addr) : Prop where
  writing_ : Dm K mg base "writing" 31 [] Pw
  counting_ : Dm K mg base "counting" 32 [] Pc
  law_weak_ : Dm K mg base "_law_weak" 39 ["_law_many"] Pk
  law_planted_ : Dm K mg base "_law_planted" 40 ["_law_known", "_law_alias", "_law_step"] Pp
/-- the def x keeps the promise sp -/
def Pr (P : Program) (w : World) (K : PySem.W.Frag) (mg : Str → Option Value) (base : Heap) (k : Nat) (x : Str) (ps : List Str) (sp : Sp) : Prop := ∃ (f : Addr) (fd : FuncData), FnOk P w K mg base CX0 k f fd ps sp ∧ mg x = some (.ref f) ∧ PySem.W.keepIn K (.ref f) = true ∧ Binds K fd ps []
/-- .. it may raise -/
def PrX (P : Program) (w : World) (K : PySem.W.Frag) (mg : Str → Option Value) (base : Heap) (k : Nat) (x : Str) (ps : List Str) (sp : Sp) : Prop := ∃ (f : Addr) (fd : FuncData), FnOk P w K mg base (L2.CX P w) k f fd ps sp ∧ mg x = some (.ref f) ∧ PySem.W.keepIn K (.ref f) = true ∧ Binds K fd ps []
section
variable {P : Program} {w : World} {K : PySem.W.Frag} {mg : Str → Option Value} {base : Heap} {x : Str} {i k : Nat} {N ps : List Str} {sp : Sp}
theorem Dn.ok (d : Dn K mg x i ps) (S : FnScope N ps (defScope (top i))) (len : ∀ vs H Q E, sp vs H Q E → vs.length = ps.length)
    (hbody : ∀ (f : Addr) (cdv : Value) (A : Around) (outer : List Env) (s : Shared) (H : Hp) (vs : List V) (Q : VK) (E : XK), Room k (A.deeper (envOfC x (defScope (top i)) s.heap.objs.size f cdv)) → sp vs H Q E →
      ∃ t, PSs (cxOf CX0 P w K mg base N x (defScope (top i)) f cdv A outer s H E).nox (defBody (top i)) t ∧ t { nx := fun _ H' => Q .non H', rt := Q } (start N vs) H) : Pr P w K mg base (k + 1) x ps sp := by
  obtain ⟨f, fd, F, hm, hb⟩ := d
  exact ⟨f, fd, F.ok S len (hbody f), hm, F.kp, hb⟩
theorem Dn.okX (d : Dn K mg x i ps) (S : FnScope N ps (defScope (top i))) (len : ∀ vs H Q E, sp vs H Q E → vs.length = ps.length)
    (hbody : ∀ (f : Addr) (cdv : Value) (A : Around) (outer : List Env) (s : Shared) (H : Hp) (vs : List V) (Q : VK) (E : XK), Room k (A.deeper (envOfC x (defScope (top i)) s.heap.objs.size f cdv)) → sp vs H Q E →
      ∃ t, PSs (cxOf (L2.CX P w) P w K mg base N x (defScope (top i)) f cdv A outer s H E) (defBody (top i)) t ∧ t { nx := fun _ H' => Q .non H', rt := Q } (start N vs) H) : PrX P w K mg base (k + 1) x ps sp := by
  obtain ⟨f, fd, F, hm, hb⟩ := d
  exact ⟨f, fd, F.okX S len (hbody f), hm, F.kp, hb⟩
end
/-- a call by promise -/
def tCl (sp : Sp) (t : TA) : TE := fun σ H Q => t σ H fun vs H1 => sp vs H1 Q E0
section
variable {X : Cx} {k : Nat} {x : Str} {ps : List Str} {sp : Sp} {t : TA} {e : Expr} {es : List Expr} {p pos : Pos}
theorem pe_cl (F : Pr X.prog X.w X.K X.mg X.base k x ps sp) (hr : Room k X.A) (ha : PA X (e :: es) t) (hg : Gl X x := by rfl) (hdb : (x == ("__debug__" : Str)) = false := by decide)
    (he : starEach (e :: es) X.env = (false, eval e X.env) :: starEach es X.env := by rfl) (hpl : (backTo pos (starEach es X.env)).any (·.1) = false := by rfl) : PE X (.Call (.Name x p) (e :: es) [] pos) (tCl sp t) := by
  obtain ⟨f, fd, F, hm, hk, hb⟩ := F
  refine ⟨fun pins s σ H Q I h => ?_⟩
  refine (pe_call (dvs := []) F hr hg hm hk hb .nil pass0 ha hdb he hpl).run pins s σ H Q I ?_
  have e0 : (fun (vs : List V) (H1 : Hp) => sp (vs ++ []) H1 Q E0) = fun vs H1 => sp vs H1 Q E0 := by
    funext vs H1
    rw [List.append_nil]
  show t σ H (fun vs H1 => sp (vs ++ []) H1 Q E0)
  rw [e0]
  exact h
theorem pe_cl0 (F : Pr X.prog X.w X.K X.mg X.base k x ps sp) (hr : Room k X.A) (hg : Gl X x := by rfl) (hdb : (x == ("__debug__" : Str)) = false := by decide) : PE X (.Call (.Name x p) [] [] pos) (tCl sp tNil) := by
  obtain ⟨f, fd, F, hm, hk, hb⟩ := F
  refine ⟨fun pins s σ H Q I h => ?_⟩
  exact (pe_call0 (dvs := []) F hr hg hm hk hb .nil pass0 hdb).run pins s σ H Q I h
/-- isinstance(e, T), T a built-in class -/
def tIsi (K : PySem.W.Frag) (T : String) (te : TE) : TE := fun σ H Q => te σ H fun x H1 => rIsi K [x, .ty T] H1 Q
theorem isi_of {K : PySem.W.Frag} {x : V} {H : Hp} {Q : VK} (t T : String) (b : Bool) (ht : TyX K H x (.type t)) (hb : kitB t T = some b) (q : Q (.bl b) H) : rIsi K [x, .ty T] H Q := ⟨x, .ty T, .type t, .type T, b, rfl, .ty T, ht, kit_ty hb, q⟩
theorem pe_isi {T : Str} {Ts : String} {te : TE} {p2 : Pos} (hm : X.mg "isinstance" = none) (hT : X.mg T = none) (he : PE X e te) (hv : bootBuiltins T = some (.type Ts)) (hg : Gl X "isinstance" := by rfl) (hg2 : Gl X T := by rfl) (hn : T ≠ "__name__" := by decide) (hd : (T == ("__debug__" : Str)) = false := by decide)
    (h1 : starEach [e, .Name T p2] X.env = (false, eval e X.env) :: starEach [.Name T p2] X.env := by rfl) (h2 : starEach [.Name T p2] X.env = (false, eval (.Name T p2) X.env) :: starEach [] X.env := by rfl) (hpl : (backTo pos (starEach [.Name T p2] X.env)).any (·.1) = false := by rfl) :
    PE X (.Call (.Name "isinstance" p) [e, .Name T p2] [] pos) (tIsi X.K Ts te) := by
  refine ⟨fun pins s σ H Q I h => ?_⟩
  refine (pe_callB call_isi hg hm (by decide +kernel) (pa_cons he (pa_cons (pe_bltn (v := .ty Ts) hg2 hT hv rfl hn hd) pa_nil h2) h1) (by decide) (by decide) h1 hpl).run pins s σ H Q I ?_
  exact h
end
end Rs
set_option Elab.async false
set_option linter.all false
set_option maxRecDepth 100000
set_option maxHeartbeats 4000000
/-! Rootstamp, defs: half, ways, is_whole, is_stamp, is_term, is_below, is_head, is_marks, is_place_paper. -/
namespace Rs
open PySem PySem.Spec PyProof.Rows L2
/-- a stamp's bounds; its length -/
def Vk : Key → Prop
  | .inl i => 0 ≤ i ∧ i < 10 ^ 60
  | .inr x => PySem.PyData.strOk x = true
def klen : Key → Nat
  | .inl _ => 61
  | .inr x => x.length
def ksum (ms : List Key) : Nat := (ms.map klen).sum
abbrev kVs (ms : List Key) : List V := ms.map kV
section
variable {P : Program} {w : World} {K : PySem.W.Frag} {mg : Str → Option Value} {base : Heap}
theorem blT {Q : VK} {H : Hp} {p : Prop} [Decidable p] (h : p) (q : Q (.bl true) H) : Q (.bl (decide p)) H := by
  rw [decide_eq_true h]; exact q
theorem iteNX {c A B : Prop} [Decidable c] (hc : ¬ c) (h : A) : if (!decide c) = true then A else B := by
  rw [decide_eq_false hc]
  exact iteT h
theorem blF {Q : VK} {H : Hp} {p : Prop} [Decidable p] (h : ¬ p) (q : Q (.bl false) H) : Q (.bl (decide p)) H := by
  rw [decide_eq_false h]; exact q
/-! half -/
theorem intBits_half {n : Nat} (h : 2 ≤ n) : Builtin.Int.intBits ((n : Int) - 1) = (n - 1).log2 + 1 := by
  have e : (n : Int) - 1 = ((n - 1 : Nat) : Int) := by omega
  unfold Builtin.Int.intBits
  rw [e, if_neg (by
    have : (((n - 1 : Nat) : Int) == 0) = false := beq_eq_false_iff_ne.mpr (by omega)
    rw [this]; exact Bool.false_ne_true), Int.natAbs_natCast]
def spHalf : Sp := fun vs H Q _ => ∃ n : Nat, vs = [.int n] ∧ 2 ≤ n ∧ n ≤ 2 ^ 60 ∧ Q (.int (half n : Nat)) H
theorem log2_le {n d : Nat} (h : n ≤ 2 ^ d) : n.log2 ≤ d := by
  by_cases h0 : n = 0
  · subst h0; exact Nat.zero_le _
  · have := Nat.log2_self_le h0
    exact (Nat.pow_le_pow_iff_right (by decide)).mp (Nat.le_trans this h)
theorem scHalf : FnScope ["many"] ["many"] (defScope (top 8)) := ⟨rfl, rfl, rfl, by decide +kernel, rfl, by decide +kernel, by decide +kernel⟩
theorem ok_half (T : Txt K mg) : Pr P w K mg base 1 "half" ["many"] spHalf := by
  refine T.half_.ok scHalf (fun vs H Q E h => ?_) (fun f cdv A outer s H vs Q E hr h => ?_)
  · obtain ⟨n, rfl, _⟩ := h; rfl
  obtain ⟨n, rfl, h2, hn, q⟩ := h
  refine ⟨_, pss_one (ps_ret (pe_op op_oneShl pe_int (pe_op op_sub (pe_bits (pe_op op_sub (pv 0) pe_int)) pe_int))), ?_⟩
  have e := intBits_half h2
  have hl : (n - 1).log2 ≤ 60 := log2_le (by omega)
  refine ⟨_, rfl, _, _, rfl, rfl, _, rfl, _, _, rfl, rfl, (n - 1).log2, rfl, ?_, by omega, ?_⟩
  · show V.int ((Builtin.Int.intBits ((n : Int) - 1) : Nat) - 1) = V.int ((n - 1).log2 : Nat)
    rw [e]
    congr 1
    omega
  · have : ((2 : Int) ^ (n - 1).log2) = ((half n : Nat) : Int) := by unfold half; rw [Int.natCast_pow]; rfl
    rw [this]
    exact q
theorem scLHalf : FnScope ["_law_many"] ["_law_many"] (defScope (top 45)) := ⟨rfl, rfl, rfl, by decide +kernel, rfl, by decide +kernel, by decide +kernel⟩
theorem ok_lhalf (T : Txt K mg) : Pr P w K mg base 1 "_law_half" ["_law_many"] spHalf := by
  refine T.law_half_.ok scLHalf (fun vs H Q E h => ?_) (fun f cdv A outer s H vs Q E hr h => ?_)
  · obtain ⟨n, rfl, _⟩ := h; rfl
  obtain ⟨n, rfl, h2, hn, q⟩ := h
  refine ⟨_, pss_one (ps_ret (pe_op op_oneShl pe_int (pe_op op_sub (pe_bits (pe_op op_sub (pv 0) pe_int)) pe_int))), ?_⟩
  have e := intBits_half h2
  have hl : (n - 1).log2 ≤ 60 := log2_le (by omega)
  refine ⟨_, rfl, _, _, rfl, rfl, _, rfl, _, _, rfl, rfl, (n - 1).log2, rfl, ?_, by omega, ?_⟩
  · show V.int ((Builtin.Int.intBits ((n : Int) - 1) : Nat) - 1) = V.int ((n - 1).log2 : Nat)
    rw [e]
    congr 1
    omega
  · have : ((2 : Int) ^ (n - 1).log2) = ((half n : Nat) : Int) := by unfold half; rw [Int.natCast_pow]; rfl
    rw [this]
    exact q
/-! is_whole, is_stamp -/
def spWhole : Sp := fun vs H Q _ => ∃ i : Int, vs = [.int i] ∧ Q (.bl true) H
theorem scWhole : FnScope ["thing"] ["thing"] (defScope (top 11)) := ⟨rfl, rfl, rfl, by decide +kernel, rfl, by decide +kernel, by decide +kernel⟩
theorem ok_whole (T : Txt K mg) : Pr P w K mg base 1 "is_whole" ["thing"] spWhole := by
  refine T.is_whole_.ok scWhole (fun vs H Q E h => ?_) (fun f cdv A outer s H vs Q E hr h => ?_)
  · obtain ⟨n, rfl, _⟩ := h; rfl
  obtain ⟨i, rfl, q⟩ := h
  refine ⟨_, pss_one (ps_ret (pe_and (pe_isi T.b_isinstance T.b_int (pv 0) (Ts := "int") (by decide +kernel)) (pe_one (pe_not (pe_isi T.b_isinstance T.b_bool (pv 0) (Ts := "bool") (by decide +kernel)))))), ?_⟩
  refine ⟨_, rfl, isi_of "int" "int" true (.base (.int i)) (by decide +kernel) ⟨_, rfl, iteT ⟨_, rfl, isi_of "int" "bool" false (.base (.int i)) (by decide +kernel) ⟨_, rfl, ?_⟩⟩⟩⟩
  exact q
def spStamp : Sp := fun vs H Q _ => ∃ s : Key, vs = [kV s] ∧ Vk s ∧ Q (.bl true) H
theorem scStamp : FnScope ["thing"] ["thing"] (defScope (top 12)) := ⟨rfl, rfl, rfl, by decide +kernel, rfl, by decide +kernel, by decide +kernel⟩
theorem ok_stamp (T : Txt K mg) : Pr P w K mg base 2 "is_stamp" ["thing"] spStamp := by
  refine T.is_stamp_.ok scStamp (fun vs H Q E h => ?_) (fun f cdv A outer s H vs Q E hr h => ?_)
  · obtain ⟨n, rfl, _⟩ := h; rfl
  obtain ⟨k, rfl, hv, q⟩ := h
  refine ⟨_, pss_cons (ps_if (pt_val (pe_isi T.b_isinstance T.b_str (pv 0) (Ts := "str") (by decide +kernel))) (pss_one (ps_ret pe_bl)) pss_nil)
    (pss_one (ps_ret (pe_and (pe_cl (ok_whole T) hr (pa_cons (pv 0) pa_nil)) (pe_one (pe_chain op_le op_lt pe_int (pv 0) (pe_op op_pow pe_int pe_int)))))), ?_⟩
  cases k with
  | inr x => exact ⟨_, rfl, isi_of "str" "str" true (.base (.str x)) (by decide +kernel) ⟨_, rfl, iteT q⟩⟩
  | inl i =>
    obtain ⟨h0, h1⟩ := hv
    refine ⟨_, rfl, isi_of "int" "str" false (.base (.int i)) (by decide +kernel) ⟨_, rfl, iteF ?_⟩⟩
    refine ⟨_, rfl, i, rfl, _, rfl, iteT ?_⟩
    refine ⟨_, rfl, _, _, rfl, rfl, _, rfl, ite2 (fun _ => ?_) (fun c => absurd (decide_eq_true h0) c)⟩
    refine ⟨_, _, rfl, rfl, ⟨by decide, by decide, by decide⟩, _, _, rfl, rfl, ?_⟩
    exact blT (show i < (10 : Int) ^ (60 : Int).toNat from h1) q
/-! is_term -/
/-- a term's bounds -/
structure OkT (t : List Key) : Prop where
  hd : ∃ x r, t = .inr x :: r
  le : t.length ≤ 8
  vk : ∀ k ∈ t, Vk k
  sz : ksum t ≤ 16000000
def spTerm : Sp := fun vs H Q _ => ∃ (a : Addr) (t : List Key), vs = [.ref a] ∧ H a = some (.tup (kVs t)) ∧ OkT t ∧ Q (.bl true) H
theorem scTerm : FnScope ["thing", "part"] ["thing"] (defScope (top 13)) := ⟨rfl, rfl, rfl, by decide +kernel, rfl, by decide +kernel, by decide +kernel⟩
theorem vs_get {ms : List Key} {i : Nat} {x : V} (h : (kVs ms)[i]? = some x) : ∃ k, ms[i]? = some k ∧ x = kV k ∧ k ∈ ms := by
  rw [List.getElem?_map] at h
  cases e : ms[i]? with
  | none => rw [e] at h; cases h
  | some k =>
    rw [e] at h
    exact ⟨k, rfl, (Option.some.inj h).symm, List.mem_of_getElem? e⟩
theorem ok_term (T : Txt K mg) : Pr P w K mg base 3 "is_term" ["thing"] spTerm := by
  refine T.is_term_.ok scTerm (fun vs H Q E h => ?_) (fun f cdv A outer s H vs Q E hr h => ?_)
  · obtain ⟨n, t, rfl, _⟩ := h; rfl
  obtain ⟨a, t, rfl, ha, ht, q⟩ := h
  obtain ⟨x, r, et⟩ := ht.hd
  have hl : (kVs t).length = t.length := List.length_map _
  have hl1 : 1 ≤ t.length := by rw [et]; exact Nat.succ_le_succ (Nat.zero_le _)
  refine ⟨_, pss_cons (ps_if (PW.pt (pw_or (pt_not (pt_val (pe_isi T.b_isinstance T.b_tuple (pv 0) (Ts := "tuple") (by decide +kernel))))
      (pw_or (pt_cmpR op_lt (pe_callB call_len_seq (by rfl) T.b_len PySem.boot_len (pa_cons (pv 0) pa_nil)) pe_int (nomark _)) (pw_or1 (pt_cmpR op_gt (pe_callB call_len_seq (by rfl) T.b_len PySem.boot_len (pa_cons (pv 0) pa_nil)) pe_int (nomark _)))))) (pss_one (ps_ret pe_bl)) pss_nil)
    (pss_cons (ps_if (pt_not (pt_val (pe_isi T.b_isinstance T.b_str (pe_ix ix_tup (pv 0) pe_int (fun _ _ => rfl)) (Ts := "str") (by decide +kernel)))) (pss_one (ps_ret pe_bl)) pss_nil)
    (pss_cons (ps_for PassesOwn.never rfl (pi_tup (pv 0)) (pg_name (i := 1) scTerm.nd rfl (Or.inl rfl)) (pss_one (ps_if (pt_not (pt_val (pe_cl (ok_stamp T) hr (pa_cons (pv 1) pa_nil)))) (pss_one (ps_ret pe_bl)) pss_nil)))
    (pss_one (ps_ret pe_bl)))), ?_⟩
  refine ⟨_, rfl, isi_of "tuple" "tuple" true (.base (.tup ha)) (by decide +kernel) ⟨_, rfl, iteF ?_⟩⟩
  refine ⟨_, rfl, a, _, rfl, .inr (SqT.of ha), _, _, rfl, rfl, _, rfl, ite2 (fun c => ?_) (fun _ => ?_)⟩
  · have := of_decide_eq_true c
    rw [hl] at this
    omega
  refine ⟨_, rfl, a, _, rfl, .inr (SqT.of ha), _, _, rfl, rfl, _, rfl, ite2 (fun c => ?_) (fun _ => ?_)⟩
  · have := of_decide_eq_true c
    have h8 := ht.le
    rw [hl] at this
    omega
  refine ⟨_, rfl, a, _, _, _, rfl, rfl, SqT.of ha, at_of (j := 0) rfl (v := .str x) (by rw [et] <;> rfl), isi_of "str" "str" true (.base (.str x)) (by decide +kernel) ⟨_, rfl, iteF ?_⟩⟩
  refine ⟨_, rfl, a, rfl, ⟨_, SqT.of ha⟩, for_tup (K := K) (a := a) (xs := kVs t) (fun i σ H' => H' = H ∧ ∃ v, σ = [some (.ref a), v]) ⟨rfl, _, rfl⟩ (fun i σ H' _ ⟨e, _⟩ => by rw [e]; exact SqT.of ha) ?_ ?_⟩
  · rintro i y σ H' hi ⟨rfl, v, rfl⟩
    obtain ⟨k, _, rfl, hk⟩ := vs_get hi
    exact ⟨_, rfl, k, rfl, ht.vk k hk, _, rfl, iteF ⟨rfl, _, rfl⟩⟩
  · rintro σ H' ⟨rfl, v, rfl⟩
    exact q
/-! is_below, is_head -/
def spBelow : Sp := fun vs H Q _ => ∃ i j : Int, vs = [.int i, .int j] ∧ 0 ≤ i ∧ i < j ∧ Q (.bl true) H
theorem scBelow : FnScope ["thing", "many"] ["thing", "many"] (defScope (top 17)) := ⟨rfl, rfl, rfl, by decide +kernel, rfl, by decide +kernel, by decide +kernel⟩
theorem ok_below (T : Txt K mg) : Pr P w K mg base 2 "is_below" ["thing", "many"] spBelow := by
  refine T.is_below_.ok scBelow (fun vs H Q E h => ?_) (fun f cdv A outer s H vs Q E hr h => ?_)
  · obtain ⟨i, j, rfl, _⟩ := h; rfl
  obtain ⟨i, j, rfl, h0, h1, q⟩ := h
  refine ⟨_, pss_one (ps_ret (pe_and (pe_cl (ok_whole T) hr (pa_cons (pv 0) pa_nil)) (pe_one (pe_chain op_le op_lt pe_int (pv 0) (pv 1))))), ?_⟩
  refine ⟨_, rfl, i, rfl, _, rfl, iteT ⟨_, rfl, _, _, rfl, rfl, _, rfl, ite2 (fun _ => ?_) (fun c => absurd (decide_eq_true h0) c)⟩⟩
  refine ⟨_, rfl, _, _, rfl, rfl, ?_⟩
  exact blT h1 q
/-- a head: its count, its mark -/
def HeadAt (H : Hp) (a : Addr) (n : Nat) (s : Key) : Prop := H a = some (.tup [.int n, kV s])
def spHead : Sp := fun vs H Q _ => ∃ (a : Addr) (n : Nat) (s : Key), vs = [.ref a] ∧ HeadAt H a n s ∧ n < 2 ^ 60 ∧ Vk s ∧ Q (.bl true) H
theorem scHead : FnScope ["thing"] ["thing"] (defScope (top 18)) := ⟨rfl, rfl, rfl, by decide +kernel, rfl, by decide +kernel, by decide +kernel⟩
theorem ok_head (T : Txt K mg) : Pr P w K mg base 3 "is_head" ["thing"] spHead := by
  refine T.is_head_.ok scHead (fun vs H Q E h => ?_) (fun f cdv A outer s H vs Q E hr h => ?_)
  · obtain ⟨a, n, k, rfl, _⟩ := h; rfl
  obtain ⟨a, n, k, rfl, ha, hn, hk, q⟩ := h
  refine ⟨_, pss_cons (ps_if (PW.pt (pw_or (pt_not (pt_val (pe_isi T.b_isinstance T.b_tuple (pv 0) (Ts := "tuple") (by decide +kernel))))
      (pw_or1 (pt_cmpR op_ne (pe_callB call_len_seq (by rfl) T.b_len PySem.boot_len (pa_cons (pv 0) pa_nil)) pe_int (nomark _))))) (pss_one (ps_ret pe_bl)) pss_nil)
    (pss_one (ps_ret (pe_and (pe_cl (ok_below T) hr (pa_cons (pe_ix ix_tup (pv 0) pe_int (fun _ _ => rfl)) (pa_cons (pe_op op_shl pe_int pe_int) pa_nil))) (pe_one (pe_cl (ok_stamp T) hr (pa_cons (pe_ix ix_tup (pv 0) pe_int (fun _ _ => rfl)) pa_nil)))))), ?_⟩
  refine ⟨_, rfl, isi_of "tuple" "tuple" true (.base (.tup ha)) (by decide +kernel) ⟨_, rfl, iteF ?_⟩⟩
  refine ⟨_, rfl, a, _, rfl, .inr (SqT.of ha), rfl, _, rfl, iteNS rfl ?_⟩
  refine ⟨_, rfl, a, _, _, _, rfl, rfl, SqT.of ha, at_of (j := 0) rfl rfl, _, _, rfl, rfl, ⟨by decide, by decide, by decide⟩, (n : Int), _, rfl, by omega, ?_, _, rfl, iteT ?_⟩
  · show (n : Int) < 1 * 2 ^ 60
    omega
  · exact ⟨_, rfl, a, _, _, _, rfl, rfl, SqT.of ha, at_of (j := 1) rfl rfl, k, rfl, hk, q⟩
/-! is_marks, is_place_paper -/
def spMarks : Sp := fun vs H Q _ => ∃ (a : Addr) (ms : List Key), vs = [.ref a, .int (ms.length : Nat)] ∧ H a = some (.tup (kVs ms)) ∧ (∀ k ∈ ms, Vk k) ∧ Q (.bl true) H
theorem scMarks : FnScope ["thing", "many", "mark"] ["thing", "many"] (defScope (top 20)) := ⟨rfl, rfl, rfl, by decide +kernel, rfl, by decide +kernel, by decide +kernel⟩
theorem ok_marks (T : Txt K mg) : Pr P w K mg base 3 "is_marks" ["thing", "many"] spMarks := by
  refine T.is_marks_.ok scMarks (fun vs H Q E h => ?_) (fun f cdv A outer s H vs Q E hr h => ?_)
  · obtain ⟨a, ms, rfl, _⟩ := h; rfl
  obtain ⟨a, ms, rfl, ha, hv, q⟩ := h
  have hl : (kVs ms).length = ms.length := List.length_map _
  refine ⟨_, pss_cons (ps_if (PW.pt (pw_or (pt_not (pt_val (pe_isi T.b_isinstance T.b_tuple (pv 0) (Ts := "tuple") (by decide +kernel))))
      (pw_or1 (pt_cmpR op_ne (pe_callB call_len_seq (by rfl) T.b_len PySem.boot_len (pa_cons (pv 0) pa_nil)) (pv 1) (nomark _))))) (pss_one (ps_ret pe_bl)) pss_nil)
    (pss_cons (ps_for PassesOwn.never rfl (pi_tup (pv 0)) (pg_name (i := 2) scMarks.nd rfl (Or.inl rfl)) (pss_one (ps_if (pt_not (pt_val (pe_cl (ok_stamp T) hr (pa_cons (pv 2) pa_nil)))) (pss_one (ps_ret pe_bl)) pss_nil)))
    (pss_one (ps_ret pe_bl))), ?_⟩
  refine ⟨_, rfl, isi_of "tuple" "tuple" true (.base (.tup ha)) (by decide +kernel) ⟨_, rfl, iteF ?_⟩⟩
  refine ⟨_, rfl, a, _, rfl, .inr (SqT.of ha), _, rfl, rfl, _, rfl, iteNS (by rw [hl]) ?_⟩
  refine ⟨_, rfl, a, rfl, ⟨_, SqT.of ha⟩, for_tup (K := K) (a := a) (xs := kVs ms) (fun i σ H' => H' = H ∧ ∃ v, σ = [some (.ref a), some (.int (ms.length : Nat)), v]) ⟨rfl, _, rfl⟩ (fun i σ H' _ ⟨e, _⟩ => by rw [e]; exact SqT.of ha) ?_ ?_⟩
  · rintro i y σ H' hi ⟨rfl, v, rfl⟩
    obtain ⟨k, _, rfl, hk⟩ := vs_get hi
    exact ⟨_, rfl, k, rfl, hv k hk, _, rfl, iteF ⟨rfl, _, rfl⟩⟩
  · rintro σ H' ⟨rfl, v, rfl⟩
    exact q
/-- a paper of a place -/
structure PapAt (H : Hp) (a b : Addr) (e : Key) (ms : List Key) : Prop where
  p : H a = some (.tup [kV e, .ref b])
  m : H b = some (.tup (kVs ms))
def spPlPap : Sp := fun vs H Q _ => ∃ (a b : Addr) (e : Key) (ms : List Key), vs = [.ref a, .int (ms.length : Nat)] ∧ PapAt H a b e ms ∧ Vk e ∧ (∀ k ∈ ms, Vk k) ∧ Q (.bl true) H
theorem scPlPap : FnScope ["thing", "many"] ["thing", "many"] (defScope (top 21)) := ⟨rfl, rfl, rfl, by decide +kernel, rfl, by decide +kernel, by decide +kernel⟩
theorem ok_plpap (T : Txt K mg) : Pr P w K mg base 4 "is_place_paper" ["thing", "many"] spPlPap := by
  refine T.is_place_paper_.ok scPlPap (fun vs H Q E h => ?_) (fun f cdv A outer s H vs Q E hr h => ?_)
  · obtain ⟨a, b, e, ms, rfl, _⟩ := h; rfl
  obtain ⟨a, b, e, ms, rfl, ⟨ha, hb⟩, he, hv, q⟩ := h
  refine ⟨_, pss_cons (ps_if (PW.pt (pw_or (pt_not (pt_val (pe_isi T.b_isinstance T.b_tuple (pv 0) (Ts := "tuple") (by decide +kernel))))
      (pw_or1 (pt_cmpR op_ne (pe_callB call_len_seq (by rfl) T.b_len PySem.boot_len (pa_cons (pv 0) pa_nil)) pe_int (nomark _))))) (pss_one (ps_ret pe_bl)) pss_nil)
    (pss_one (ps_ret (pe_and (pe_cl (ok_stamp T) (hr.mono (by decide)) (pa_cons (pe_ix ix_tup (pv 0) pe_int (fun _ _ => rfl)) pa_nil)) (pe_one (pe_cl (ok_marks T) hr (pa_cons (pe_ix ix_tup (pv 0) pe_int (fun _ _ => rfl)) (pa_cons (pv 1) pa_nil))))))), ?_⟩
  refine ⟨_, rfl, isi_of "tuple" "tuple" true (.base (.tup ha)) (by decide +kernel) ⟨_, rfl, iteF ?_⟩⟩
  refine ⟨_, rfl, a, _, rfl, .inr (SqT.of ha), rfl, _, rfl, iteNS rfl ?_⟩
  refine ⟨_, rfl, a, _, _, _, rfl, rfl, SqT.of ha, at_of (j := 0) rfl rfl, e, rfl, he, _, rfl, iteT ?_⟩
  exact ⟨_, rfl, a, _, _, _, rfl, rfl, SqT.of ha, at_of (j := 1) rfl rfl, _, rfl, b, ms, rfl, hb, hv, q⟩
end
end Rs
set_option Elab.async false
set_option linter.all false
set_option maxRecDepth 100000
set_option maxHeartbeats 4000000
/-! Rootstamp, the plain law, second part: lengths of papers, the law's own row (tops, papers, growths), bounds of lengths. -/
namespace Rs
open PySem L2
/-! ### how many marks a growth has; its hands -/
def howMany (n e : Nat) : Nat := if h : e < n ∧ 1 ≤ e then (if half n < e then howMany (n - half n) (e - half n) + 1 else howMany (half n) e + 1) else 1
termination_by n
decreasing_by
  · have := half_pos n; omega
  · exact half_lt (by omega)
theorem howMany_same {n e : Nat} (h : ¬ (e < n ∧ 1 ≤ e)) : howMany n e = 1 := by rw [howMany, dif_neg h]
theorem howMany_l {n e : Nat} (h : e < n) (h1 : 1 ≤ e) (h2 : e ≤ half n) : howMany n e = howMany (half n) e + 1 := by rw [howMany, dif_pos ⟨h, h1⟩, if_neg (by omega)]
theorem howMany_r {n e : Nat} (h : e < n) (h2 : half n < e) : howMany n e = howMany (n - half n) (e - half n) + 1 := by rw [howMany, dif_pos ⟨h, by omega⟩, if_pos h2]
theorem howMany_le : ∀ (d : Nat) {n e : Nat}, n ≤ 2 ^ d → howMany n e ≤ d + 1
  | 0, n, e, h => by rw [howMany_same (by simp at h; omega)]; exact Nat.le_refl _
  | d + 1, n, e, h => by
    by_cases h1 : e < n ∧ 1 ≤ e
    · have a := half_le_pow (by omega) h
      have b := half_ge (n := n) (by omega)
      by_cases hp : half n < e
      · rw [howMany_r h1.1 hp]; exact Nat.succ_le_succ (howMany_le d (by omega))
      · rw [howMany_l h1.1 h1.2 (by omega)]; exact Nat.succ_le_succ (howMany_le d a)
    · rw [howMany_same h1]; omega
theorem howMany_pos (n e : Nat) : 1 ≤ howMany n e := by
  rw [howMany]
  split
  · split <;> omega
  · exact Nat.le_refl _
theorem JT.len {T : TR} {n e : Nat} {ms : List Key} {yts ots : List Term} {y o : Key} (h : JT T n e ms yts y ots o) (h1 : 1 ≤ e) : ms.length = howMany n e := by
  induction h with
  | same n m => rw [howMany_same (by omega)]; rfl
  | left a b _ _ ih => rw [howMany_l a h1 b, List.length_append, ih h1]; rfl
  | right a b _ _ _ ih => rw [howMany_r a b, List.length_cons, ih (by omega)]
/-! ### sums of lengths -/
theorem ksum_nil : ksum [] = 0 := rfl
theorem ksum_cons (k : Key) (ms : List Key) : ksum (k :: ms) = klen k + ksum ms := by unfold ksum; rw [List.map_cons, List.sum_cons]
theorem ksum_append (a b : List Key) : ksum (a ++ b) = ksum a + ksum b := by unfold ksum; rw [List.map_append, List.sum_append]
theorem ksum_mem {k : Key} {ms : List Key} (h : k ∈ ms) : klen k ≤ ksum ms := by
  induction ms with
  | nil => cases h
  | cons m ms ih =>
    rw [ksum_cons]
    rcases List.mem_cons.mp h with e | h
    · subst e; omega
    · have := ih h; omega
/-! ### what a stamper's told stamps are bounded by -/
def Bd (T : TR) : Prop := ∀ t s, T t s → klen s ≤ ksum t + 9 * t.length + 61
def Vd (T : TR) : Prop := ∀ t s, T t s → Vk s
theorem len_entry (e : Key) : ksum (tEntry e) = 5 + klen e := by
  show ksum [.inr "entry", e] = _
  rw [ksum_cons, ksum_cons, ksum_nil]; rfl
theorem len_joint (l r : Key) : ksum (tJoint l r) = 5 + klen l + klen r := by
  show ksum [.inr "joint", l, r] = _
  rw [ksum_cons, ksum_cons, ksum_cons, ksum_nil]
  show 5 + (klen l + (klen r + 0)) = _
  omega
theorem len_row (n : Nat) (s : Key) : ksum (tRow n s) = 64 + klen s := by
  show ksum [.inr "row", .inl n, s] = _
  rw [ksum_cons, ksum_cons, ksum_cons, ksum_nil]
  show 3 + (61 + (klen s + 0)) = _
  omega
theorem len_jn (b : Bool) (s m : Key) : ksum (jn b s m) = 5 + klen s + klen m := by
  cases b
  · exact len_joint s m
  · rw [show jn true s m = tJoint m s from rfl, len_joint]; omega
theorem ok_entry {e : Key} (hv : Vk e) (hs : klen e ≤ 15000000) : OkT (tEntry e) := ⟨⟨_, _, rfl⟩, (by show 2 ≤ 8; decide), fun k hk => by
  rcases List.mem_cons.mp hk with h | hk
  · subst h; show PySem.PyData.strOk _ = true; decide +kernel
  · rcases List.mem_cons.mp hk with h | hk
    · subst h; exact hv
    · exact (nomatch hk), by rw [len_entry]; omega⟩
theorem ok_joint {l r : Key} (hl : Vk l) (hr : Vk r) (hs : klen l + klen r ≤ 15000000) : OkT (tJoint l r) := ⟨⟨_, _, rfl⟩, (by show 3 ≤ 8; decide), fun k hk => by
  rcases List.mem_cons.mp hk with h | hk
  · subst h; show PySem.PyData.strOk _ = true; decide +kernel
  · rcases List.mem_cons.mp hk with h | hk
    · subst h; exact hl
    · rcases List.mem_cons.mp hk with h | hk
      · subst h; exact hr
      · exact (nomatch hk), by rw [len_joint]; omega⟩
theorem ok_row {n : Nat} {s : Key} (hn : n < 2 ^ 60) (hl : Vk s) (hs : klen s ≤ 15000000) : OkT (tRow n s) := ⟨⟨_, _, rfl⟩, (by show 3 ≤ 8; decide), fun k hk => by
  rcases List.mem_cons.mp hk with h | hk
  · subst h; show PySem.PyData.strOk _ = true; decide +kernel
  · rcases List.mem_cons.mp hk with h | hk
    · subst h
      exact ⟨Int.natCast_nonneg _, by
        have : (2 : Int) ^ 60 < 10 ^ 60 := by decide
        have h2 : (n : Int) < 2 ^ 60 := by exact_mod_cast hn
        omega⟩
    · rcases List.mem_cons.mp hk with h | hk
      · subst h; exact hl
      · exact (nomatch hk), by rw [len_row]; omega⟩
theorem ok_jn {b : Bool} {s m : Key} (hl : Vk s) (hr : Vk m) (hs : klen s + klen m ≤ 15000000) : OkT (jn b s m) := by
  cases b
  · exact ok_joint hl hr hs
  · exact ok_joint hr hl (by omega)

/-! ### the law's own row -/
structure Tree where
  seed : Nat
  place : Nat
  s1 : Nat
  s2 : Nat
  entry : Key
  dr : Nat → Key
/-- a spot of the tree lies among the entries from low on, as many as many -/
def Tree.hit (t : Tree) (low many : Nat) : Prop := (low ≤ t.place ∧ t.place < low + many) ∨ (low ≤ t.s1 ∧ t.s1 < low + many) ∨ (low ≤ t.s2 ∧ t.s2 < low + many)
def Tree.drawn (t : Tree) (low many : Nat) : Key := t.dr (t.seed + 5 * low + 3 * many)
structure Tree.Ok (t : Tree) : Prop where
  ve : Vk t.entry
  le : klen t.entry ≤ 61
  vd : ∀ n, Vk (t.dr n)
  ld : ∀ n, klen (t.dr n) ≤ 61
inductive Top (T : TR) (t : Tree) : Nat → Nat → Key → Prop
  | entry {s : Key} : T (tEntry t.entry) s → Top T t t.place 1 s
  | one {low : Nat} : low ≠ t.place → Top T t low 1 (t.drawn low 1)
  | out {low many : Nat} : 2 ≤ many → ¬ t.hit low many → Top T t low many (t.drawn low many)
  | join {low many : Nat} {l r s : Key} : 2 ≤ many → t.hit low many → Top T t low (half many) l → Top T t (low + half many) (many - half many) r → T (tJoint l r) s → Top T t low many s
theorem Top.mono {T T' : TR} {t : Tree} (l : LeT T T') {low many : Nat} {s : Key} (h : Top T t low many s) : Top T' t low many s := by
  induction h with
  | entry a => exact .entry (l _ _ a)
  | one a => exact .one a
  | out a b => exact .out a b
  | join a b _ _ c i1 i2 => exact .join a b i1 i2 (l _ _ c)
theorem Top.uniq {T : TR} {t : Tree} (F : Fn T) {low many : Nat} {s : Key} (h : Top T t low many s) : ∀ {s' : Key}, Top T t low many s' → s = s' := by
  induction h with
  | entry a =>
    intro s' h'
    cases h' with
    | entry b => exact F _ _ _ a b
    | one b => exact absurd rfl b
    | out b => omega
    | join b => omega
  | one a =>
    intro s' h'
    cases h' with
    | entry b => exact absurd rfl a
    | one b => rfl
    | out b => omega
    | join b => omega
  | out a b =>
    intro s' h'
    cases h' with
    | entry c => omega
    | one c => omega
    | out c d => rfl
    | join c d => exact absurd d b
  | join a b _ _ c i1 i2 =>
    intro s' h'
    cases h' with
    | entry c => omega
    | one c => omega
    | out d e => exact absurd b e
    | join d e f g k =>
      rw [i1 f, i2 g] at c
      exact F _ _ _ c k
theorem Top.bd {T : TR} {t : Tree} (B : Bd T) (V : Vd T) (ok : t.Ok) {low many : Nat} {s : Key} (h : Top T t low many s) : klen s + 105 ≤ 300 * many ∧ Vk s := by
  induction h with
  | entry a =>
    have := B _ _ a
    rw [len_entry] at this
    have := ok.le
    exact ⟨by show _ ≤ 300; have : (tEntry t.entry).length = 2 := rfl; omega, V _ _ a⟩
  | @one low a => have := ok.ld (t.seed + 5 * low + 3 * 1); exact ⟨by show klen (t.dr _) + 105 ≤ _; omega, ok.vd _⟩
  | @out low many a b => have := ok.ld (t.seed + 5 * low + 3 * many); exact ⟨by show klen (t.dr _) + 105 ≤ _; omega, ok.vd _⟩
  | @join low many l r s a b _ _ c i1 i2 =>
    have q := B _ _ c
    rw [len_joint] at q
    have : (tJoint l r).length = 3 := rfl
    have h1 := half_lt a
    exact ⟨by omega, V _ _ c⟩
/-- the marks of the paper of the place, from within the row that begins at low -/
inductive PM (T : TR) (t : Tree) : Nat → Nat → List Key → Prop
  | nil {low many : Nat} : many ≤ 1 → PM T t low many []
  | left {low many : Nat} {m : Key} {ms : List Key} : 2 ≤ many → t.place < low + half many → Top T t (low + half many) (many - half many) m → PM T t low (half many) ms → PM T t low many (m :: ms)
  | right {low many : Nat} {m : Key} {ms : List Key} : 2 ≤ many → ¬ t.place < low + half many → Top T t low (half many) m → PM T t (low + half many) (many - half many) ms → PM T t low many (m :: ms)
theorem PM.mono {T T' : TR} {t : Tree} (l : LeT T T') {low many : Nat} {ms : List Key} (h : PM T t low many ms) : PM T' t low many ms := by
  induction h with
  | nil a => exact .nil a
  | left a b c _ ih => exact .left a b (c.mono l) ih
  | right a b c _ ih => exact .right a b (c.mono l) ih
theorem PM.len {T : TR} {t : Tree} {low many : Nat} {ms : List Key} (h : PM T t low many ms) (h1 : low ≤ t.place) : ms.length = (ways (t.place - low) many).length := by
  induction h with
  | nil a => rw [ways_one a]; rfl
  | left a b c _ ih => rw [ways_l a (by omega), List.length_cons, List.length_cons, ih h1]
  | @right low many m ms a b c _ ih =>
    rw [ways_r a (by omega), List.length_cons, List.length_cons, ih (by omega)]
    have : t.place - (low + half many) = t.place - low - half many := by omega
    rw [this]
theorem PM.bd {T : TR} {t : Tree} (B : Bd T) (V : Vd T) (ok : t.Ok) {low many : Nat} {ms : List Key} (h : PM T t low many ms) : ksum ms ≤ 300 * many ∧ ∀ k ∈ ms, Vk k := by
  induction h with
  | nil a => exact ⟨by rw [ksum_nil]; omega, fun _ h => nomatch h⟩
  | left a b c _ ih =>
    obtain ⟨c1, c2⟩ := c.bd B V ok
    have := half_lt a
    exact ⟨by rw [ksum_cons]; omega, fun k hk => (List.mem_cons.mp hk).elim (fun e => e ▸ c2) (ih.2 k)⟩
  | right a b c _ ih =>
    obtain ⟨c1, c2⟩ := c.bd B V ok
    have := half_lt a
    exact ⟨by rw [ksum_cons]; omega, fun k hk => (List.mem_cons.mp hk).elim (fun e => e ▸ c2) (ih.2 k)⟩
/-- the paper comes to the top -/
theorem PM.top {T : TR} {t : Tree} {low many : Nat} {ms : List Key} (h : PM T t low many ms) : ∀ {ts : List Term} {s : Key}, low ≤ t.place → t.place < low + many → PTop T (ways (t.place - low) many) ms t.entry ts s → Top T t low many s := by
  induction h with
  | @nil low many a =>
    intro ts s h1 h2 A
    have e : many = 1 := by omega
    have e2 : low = t.place := by omega
    subst e e2
    rw [ways_one (Nat.le_refl 1)] at A
    exact .entry A.nil.2.2
  | @left low many m ms a b c _ ih =>
    intro ts s h1 h2 A
    rw [ways_l a (by omega)] at A
    obtain ⟨m', ms1, ts1, s1, e, A1, rfl, r⟩ := A.cons
    cases e
    exact .join a (.inl ⟨h1, h2⟩) (ih h1 b A1) c r
  | @right low many m ms a b c _ ih =>
    intro ts s h1 h2 A
    rw [ways_r a (by omega)] at A
    obtain ⟨m', ms1, ts1, s1, e, A1, rfl, r⟩ := A.cons
    cases e
    have : t.place - (low + half many) = t.place - low - half many := by omega
    rw [← this] at A1
    have := half_lt a
    exact .join a (.inl ⟨h1, h2⟩) c (ih (by omega) (by omega) A1) r
/-- the marks of growth, from within the row that begins at low; e counts from there -/
inductive GM (T : TR) (t : Tree) : Nat → Nat → Nat → List Key → Prop
  | same {low n : Nat} {m : Key} : Top T t low n m → GM T t low n n [m]
  | left {low n e : Nat} {m : Key} {ms : List Key} : e < n → e ≤ half n → Top T t (low + half n) (n - half n) m → GM T t low (half n) e ms → GM T t low n e (ms ++ [m])
  | right {low n e : Nat} {m : Key} {ms : List Key} : e < n → half n < e → Top T t low (half n) m → GM T t (low + half n) (n - half n) (e - half n) ms → GM T t low n e (m :: ms)
theorem GM.mono {T T' : TR} {t : Tree} (l : LeT T T') {low n e : Nat} {ms : List Key} (h : GM T t low n e ms) : GM T' t low n e ms := by
  induction h with
  | same a => exact .same (a.mono l)
  | left a b c _ ih => exact .left a b (c.mono l) ih
  | right a b c _ ih => exact .right a b (c.mono l) ih
theorem GM.len {T : TR} {t : Tree} {low n e : Nat} {ms : List Key} (h : GM T t low n e ms) (h1 : 1 ≤ e) : ms.length = howMany n e := by
  induction h with
  | same a => rw [howMany_same (by omega)]; rfl
  | left a b c _ ih => rw [howMany_l a h1 b, List.length_append, ih h1]; rfl
  | right a b c _ ih => rw [howMany_r a b, List.length_cons, ih (by omega)]
theorem GM.bd {T : TR} {t : Tree} (B : Bd T) (V : Vd T) (ok : t.Ok) {low n e : Nat} {ms : List Key} (h : GM T t low n e ms) (h1 : 1 ≤ e) : ksum ms ≤ 300 * n ∧ ∀ k ∈ ms, Vk k := by
  induction h with
  | same a =>
    obtain ⟨c1, c2⟩ := a.bd B V ok
    exact ⟨by rw [ksum_cons, ksum_nil]; omega, fun k hk => (List.mem_cons.mp hk).elim (fun e => e ▸ c2) (fun z => nomatch z)⟩
  | @left low n e m ms a b c _ ih =>
    obtain ⟨c1, c2⟩ := c.bd B V ok
    have := half_lt (n := n) (by omega)
    obtain ⟨i1, i2⟩ := ih h1
    exact ⟨by rw [ksum_append, ksum_cons, ksum_nil]; omega, fun k hk => (List.mem_append.mp hk).elim (i2 k) fun z => (List.mem_cons.mp z).elim (fun e => e ▸ c2) (fun z => nomatch z)⟩
  | @right low n e m ms a b c _ ih =>
    obtain ⟨c1, c2⟩ := c.bd B V ok
    have := half_lt (n := n) (by omega)
    obtain ⟨i1, i2⟩ := ih (by omega)
    exact ⟨by rw [ksum_cons]; omega, fun k hk => (List.mem_cons.mp hk).elim (fun e => e ▸ c2) (i2 k)⟩
/-- the paper of growth comes to both tops -/
theorem GM.top {T : TR} {t : Tree} {low n e : Nat} {ms : List Key} (h : GM T t low n e ms) : ∀ {yts ots : List Term} {y o : Key}, 1 ≤ e → (t.s1 = low + e - 1 ∨ t.s2 = low + e - 1) → JT T n e ms yts y ots o → Top T t low n y ∧ Top T t low e o := by
  induction h with
  | same a =>
    intro yts ots y o h1 hs J
    obtain ⟨e1, e2⟩ := J.inv_same
    cases e1
    subst e2
    exact ⟨a, a⟩
  | @left low n e m ms a b c _ ih =>
    intro yts ots y o h1 hs J
    obtain ⟨ms1, m1, yts1, y1, e1, rfl, j, u⟩ := J.inv_left a b
    have e2 : ms = ms1 ∧ m = m1 := by
      have q := List.append_inj' e1 rfl
      exact ⟨q.1, by have := q.2; cases this; rfl⟩
    obtain ⟨rfl, rfl⟩ := e2
    obtain ⟨A, B⟩ := ih h1 hs j
    exact ⟨.join (by omega) (.inr (hs.elim (fun z => .inl (by omega)) fun z => .inr (by omega))) A c u, B⟩
  | @right low n e m ms a b c _ ih =>
    intro yts ots y o h1 hs J
    obtain ⟨ms1, m1, yts1, y1, ots1, o1, e1, rfl, rfl, j, u, v⟩ := J.inv_right a b
    cases e1
    have he := half_eq b (by omega)
    have hpos := half_pos n
    obtain ⟨A, B⟩ := ih (by omega) (hs.elim (fun z => .inl (by omega)) fun z => .inr (by omega)) j
    refine ⟨.join (by omega) (.inr (hs.elim (fun z => .inl (by omega)) fun z => .inr (by omega))) c A u, ?_⟩
    refine .join (l := m) (r := o1) (by omega) (.inr (hs.elim (fun z => .inl (by omega)) fun z => .inr (by omega))) (by rw [he]; exact c) (by rw [he]; exact B) v
end Rs
set_option Elab.async false
set_option linter.all false
set_option maxRecDepth 100000
set_option maxHeartbeats 4000000
/-! Rootstamp, defs: ways, _law_way, how_many, _law_hands. -/
namespace Rs
open PySem PySem.Spec PyProof.Rows L2
/-- a turn's number -/
def tv (b : Bool) : V := .int (if b then 1 else 0)
def intAt (σ : L2.St) (i : Nat) : Nat := match σ[i]? with
  | some (some (.int z)) => z.toNat
  | _ => 0
theorem same_new {H : Hp} {p : Addr} (h : H p = none) (o : HO) : Same H (upd H p o) := fun b u q => by rw [upd_ne (ne_of_none q h)]; exact q
/-- a list that is new since H is written -/
theorem same_upd {H H1 : Hp} {p : Addr} (h : H p = none) (s : Same H H1) (o : HO) : Same H (upd H1 p o) := fun b u q => by rw [upd_ne (ne_of_none q h)]; exact s b u q
theorem small60 {n : Nat} (h : n ≤ 70) : n < sizeLine := small1000 (by omega)
theorem test_mono {r : R2} {ta tb : TE} (hr : ∀ x y H Q Q', (∀ v H', Q v H' → Q' v H') → r x y H Q → r x y H Q') (ha : ∀ σ H Q Q', (∀ v H', Q v H' → Q' v H') → ta σ H Q → ta σ H Q') (hb : ∀ σ H Q Q', (∀ v H', Q v H' → Q' v H') → tb σ H Q → tb σ H Q') :
    ∀ (σ : L2.St) (H : Hp) (Q Q' : Bool → Hp → Prop), (∀ b H1, Q b H1 → Q' b H1) → tTest (tOp r ta tb) σ H Q → tTest (tOp r ta tb) σ H Q' := fun σ H Q Q' m h =>
  ha σ H _ _ (fun v H1 h1 => hb σ H1 _ _ (fun u H2 h2 => hr v u H2 _ _ (fun z H3 ⟨k, e, q⟩ => ⟨k, e, m k H3 q⟩) h2) h1) h
theorem var_mono {i : Nat} : ∀ (σ : L2.St) (H : Hp) (Q Q' : VK), (∀ v H', Q v H' → Q' v H') → tVar i σ H Q → tVar i σ H Q' := fun σ H Q Q' m ⟨v, e, q⟩ => ⟨v, e, m v H q⟩
theorem c_mono {v : V} : ∀ (σ : L2.St) (H : Hp) (Q Q' : VK), (∀ v H', Q v H' → Q' v H') → tC v σ H Q → tC v σ H Q' := fun σ H Q Q' m q => m v H q
theorem i0_mono {g : Int → Int → V} : ∀ (x y : V) (H : Hp) (Q Q' : VK), (∀ v H', Q v H' → Q' v H') → rI0 g x y H Q → rI0 g x y H Q' := fun x y H Q Q' m ⟨i, j, a, b, q⟩ => ⟨i, j, a, b, m _ _ q⟩
section
variable {P : Program} {w : World} {K : PySem.W.Frag} {mg : Str → Option Value} {base : Heap}
def spWays : Sp := fun vs H Q _ => ∃ p n : Nat, vs = [.int p, .int n] ∧ p < n ∧ n ≤ 2 ^ 60 ∧ ∀ (l : Addr) (H' : Hp), Same H H' → H l = none → H' l = some (.lst ((ways p n).map tv)) → Q (.ref l) H'
theorem scWays : FnScope ["place", "many", "turns", "cut"] ["place", "many"] (defScope (top 9)) := ⟨rfl, rfl, rfl, by decide +kernel, rfl, by decide +kernel, by decide +kernel⟩
theorem ok_ways (T : Txt K mg) : Pr P w K mg base 2 "ways" ["place", "many"] spWays := by
  refine T.ways_.ok scWays (fun vs H Q E h => ?_) (fun f cdv A outer s H vs Q E hr h => ?_)
  · obtain ⟨p, n, rfl, _⟩ := h; rfl
  obtain ⟨p, n, rfl, hp, hn, q⟩ := h
  have hlen := ways_len 60 (p := p) hn
  refine ⟨_, pss_cons (ps_set (i := 2) scWays.nd rfl (Or.inl rfl) (pe_lst pa_nil))
    (pss_cons (ps_while PassesOwn.never (pt_cmpR op_gt (pv 1) pe_int (nomark _))
      (pss_cons (ps_set (i := 3) scWays.nd rfl (Or.inl rfl) (pe_cl (ok_half T) hr (pa_cons (pv 1) pa_nil)))
      (pss_one (ps_if (pt_cmpR op_lt (pv 0) (pv 3) (nomark _))
        (pss_cons (ps_expr (pe_bm PySem.F.plainAttrs_list PySem.F.slot_list_append PySem.F.type_list_append mt_append (pv 2) (pa_cons pe_int pa_nil)))
          (pss_one (ps_set (i := 1) scWays.nd rfl (Or.inl rfl) (pv 3))))
        (pss_cons (ps_expr (pe_bm PySem.F.plainAttrs_list PySem.F.slot_list_append PySem.F.type_list_append mt_append (pv 2) (pa_cons pe_int pa_nil)))
          (pss_cons (ps_aug (i := 0) scWays.nd rfl (Or.inl rfl) (pv 3) ip_sub) (pss_one (ps_aug (i := 1) scWays.nd rfl (Or.inl rfl) (pv 3) ip_sub))))))))
    (pss_one (ps_ret (pv 2)))), ?_⟩
  refine ⟨(by show 0 ≤ sizeLine; decide), fun l hl => ?_⟩
  refine while_by (fun σ H' => ∃ (p' n' : Nat) (pre : List Bool) (c : Option V), σ = [some (.int p'), some (.int n'), some (.ref l), c] ∧ p' < n' ∧ n' ≤ 2 ^ 60 ∧ ways p n = pre ++ ways p' n' ∧ Same H H' ∧ H' l = some (.lst (pre.map tv)))
    (fun σ _ => intAt σ 1) ⟨p, n, [], none, rfl, hp, hn, rfl, same_new hl _, upd_same⟩ ?_ (test_mono i0_mono var_mono c_mono)
  rintro σ H' ⟨p', n', pre, c, rfl, hp', hn', hw, sm, hL⟩
  refine ⟨_, rfl, _, _, rfl, rfl, _, rfl, ite2 (fun h1 => ?_) (fun h1 => ?_)⟩
  · have h2 : 2 ≤ n' := by have := of_decide_eq_true h1; omega
    have hh := half_lt h2
    have hpos := half_pos n'
    have hle : pre.length < 70 := by
      have := congrArg List.length hw
      rw [List.length_append] at this
      omega
    have hsz : (pre.map tv).length < sizeLine := by rw [List.length_map]; exact small60 (by omega)
    refine ⟨_, rfl, n', rfl, h2, hn', ?_⟩
    refine ⟨_, rfl, _, rfl, _, _, rfl, rfl, _, rfl, ite2 (fun h3 => ?_) (fun h3 => ?_)⟩
    · have h4 : p' < half n' := by have := of_decide_eq_true h3; omega
      refine ⟨_, rfl, .inl ⟨rfl, _, SqL.of hL⟩, l, _, _, rfl, rfl, hL, hsz, ?_⟩
      refine ⟨_, rfl, ⟨p', half n', pre ++ [false], _, rfl, h4, by omega, ?_, same_upd hl sm _, ?_⟩, ?_⟩
      · rw [hw, ways_l h2 h4, List.append_assoc]; rfl
      · rw [List.map_append]; exact upd_same
      · show (half n' : Int).toNat < (n' : Int).toNat
        omega
    · have h4 : ¬ p' < half n' := fun z => h3 (decide_eq_true (by omega))
      refine ⟨_, rfl, .inl ⟨rfl, _, SqL.of hL⟩, l, _, _, rfl, rfl, hL, hsz, ?_⟩
      refine ⟨_, rfl, _, rfl, _, _, rfl, rfl, _, rfl, _, rfl, _, _, rfl, rfl, ⟨p' - half n', n' - half n', pre ++ [true], some (.int (half n' : Nat)), ?_, by omega, by omega, ?_, same_upd hl sm _, ?_⟩, ?_⟩
      · have e1 : (p' : Int) - (half n' : Nat) = ((p' - half n' : Nat) : Int) := by omega
        have e2 : (n' : Int) - (half n' : Nat) = ((n' - half n' : Nat) : Int) := by omega
        rw [← e1, ← e2]; rfl
      · rw [hw, ways_r h2 h4, List.append_assoc]; rfl
      · rw [List.map_append]; exact upd_same
      · show ((n' : Int) - (half n' : Nat)).toNat < (n' : Int).toNat
        omega
  · have h2 : n' ≤ 1 := by
      have : ¬ ((1 : Int) < n') := fun z => h1 (decide_eq_true z)
      omega
    refine ⟨_, rfl, q l H' sm hl ?_⟩
    rw [hw, ways_one h2, List.append_nil]
    exact hL
theorem scLWay : FnScope ["_law_count", "_law_place", "_law_hands_here", "_law_cut"] ["_law_count", "_law_place"] (defScope (top 51)) := ⟨rfl, rfl, rfl, by decide +kernel, rfl, by decide +kernel, by decide +kernel⟩
def spLWay : Sp := fun vs H Q _ => ∃ p n : Nat, vs = [.int n, .int p] ∧ p < n ∧ n ≤ 2 ^ 60 ∧ ∀ (l : Addr) (H' : Hp), Same H H' → H l = none → H' l = some (.lst ((ways p n).map tv)) → Q (.ref l) H'
theorem ok_lway (T : Txt K mg) : Pr P w K mg base 2 "_law_way" ["_law_count", "_law_place"] spLWay := by
  refine T.law_way_.ok scLWay (fun vs H Q E h => ?_) (fun f cdv A outer s H vs Q E hr h => ?_)
  · obtain ⟨p, n, rfl, _⟩ := h; rfl
  obtain ⟨p, n, rfl, hp, hn, q⟩ := h
  have hlen := ways_len 60 (p := p) hn
  refine ⟨_, pss_cons (ps_set (i := 2) scLWay.nd rfl (Or.inl rfl) (pe_lst pa_nil))
    (pss_cons (ps_while PassesOwn.never (pt_cmpR op_gt (pv 0) pe_int (nomark _))
      (pss_cons (ps_set (i := 3) scLWay.nd rfl (Or.inl rfl) (pe_cl (ok_lhalf T) hr (pa_cons (pv 0) pa_nil)))
      (pss_cons (ps_expr (pe_bm PySem.F.plainAttrs_list PySem.F.slot_list_append PySem.F.type_list_append mt_append (pv 2) (pa_cons (pe_callTy call_int1 (by rfl) T.b_int (by decide +kernel) (pa_cons (pe_cmpR op_ge (pv 1) (pv 3) (nomark _)) pa_nil)) pa_nil)))
      (pss_one (ps_if (pt_cmpR op_ge (pv 1) (pv 3) (nomark _))
        (pss_cons (ps_set (i := 1) scLWay.nd rfl (Or.inl rfl) (pe_op op_sub (pv 1) (pv 3))) (pss_one (ps_set (i := 0) scLWay.nd rfl (Or.inl rfl) (pe_op op_sub (pv 0) (pv 3)))))
        (pss_one (ps_set (i := 0) scLWay.nd rfl (Or.inl rfl) (pv 3))))))))
    (pss_one (ps_ret (pv 2)))), ?_⟩
  refine ⟨(by show 0 ≤ sizeLine; decide), fun l hl => ?_⟩
  refine while_by (fun σ H' => ∃ (p' n' : Nat) (pre : List Bool) (c : Option V), σ = [some (.int n'), some (.int p'), some (.ref l), c] ∧ p' < n' ∧ n' ≤ 2 ^ 60 ∧ ways p n = pre ++ ways p' n' ∧ Same H H' ∧ H' l = some (.lst (pre.map tv)))
    (fun σ _ => intAt σ 0) ⟨p, n, [], none, rfl, hp, hn, rfl, same_new hl _, upd_same⟩ ?_ (test_mono i0_mono var_mono c_mono)
  rintro σ H' ⟨p', n', pre, c, rfl, hp', hn', hw, sm, hL⟩
  refine ⟨_, rfl, _, _, rfl, rfl, _, rfl, ite2 (fun h1 => ?_) (fun h1 => ?_)⟩
  · have h2 : 2 ≤ n' := by have := of_decide_eq_true h1; omega
    have hh := half_lt h2
    have hpos := half_pos n'
    have hle : pre.length < 70 := by
      have := congrArg List.length hw
      rw [List.length_append] at this
      omega
    have hsz : (pre.map tv).length < sizeLine := by rw [List.length_map]; exact small60 (by omega)
    refine ⟨_, rfl, n', rfl, h2, hn', ?_⟩
    refine ⟨_, rfl, .inl ⟨rfl, _, SqL.of hL⟩, _, rfl, _, rfl, _, _, rfl, rfl, .inr ⟨_, rfl, ?_⟩⟩
    refine ⟨l, _, _, rfl, rfl, hL, hsz, ?_⟩
    refine ⟨_, rfl, _, rfl, _, _, rfl, rfl, _, rfl, ite2 (fun h3 => ?_) (fun h3 => ?_)⟩
    · have h4 : ¬ p' < half n' := by have := of_decide_eq_true h3; omega
      refine ⟨_, rfl, _, rfl, _, _, rfl, rfl, _, rfl, _, rfl, _, _, rfl, rfl, ⟨p' - half n', n' - half n', pre ++ [true], some (.int (half n' : Nat)), ?_, by omega, by omega, ?_, same_upd hl sm _, ?_⟩, ?_⟩
      · have e1 : (p' : Int) - (half n' : Nat) = ((p' - half n' : Nat) : Int) := by omega
        have e2 : (n' : Int) - (half n' : Nat) = ((n' - half n' : Nat) : Int) := by omega
        rw [← e1, ← e2]; rfl
      · rw [hw, ways_r h2 h4, List.append_assoc]; rfl
      · rw [List.map_append]
        have e3 : decide (((half n' : Nat) : Int) ≤ (p' : Int)) = true := decide_eq_true (by omega)
        rw [e3]
        exact upd_same
      · show ((n' : Int) - (half n' : Nat)).toNat < (n' : Int).toNat
        omega
    · have h4 : p' < half n' := by
        have : ¬ ((half n' : Nat) : Int) ≤ (p' : Int) := fun z => h3 (decide_eq_true z)
        omega
      refine ⟨_, rfl, ⟨p', half n', pre ++ [false], _, rfl, h4, by omega, ?_, same_upd hl sm _, ?_⟩, ?_⟩
      · rw [hw, ways_l h2 h4, List.append_assoc]; rfl
      · rw [List.map_append]
        have e3 : decide (((half n' : Nat) : Int) ≤ (p' : Int)) = false := decide_eq_false (by omega)
        rw [e3]
        exact upd_same
      · show (half n' : Int).toNat < (n' : Int).toNat
        omega
  · have h2 : n' ≤ 1 := by
      have : ¬ ((1 : Int) < n') := fun z => h1 (decide_eq_true z)
      omega
    refine ⟨_, rfl, q l H' sm hl ?_⟩
    rw [hw, ways_one h2, List.append_nil]
    exact hL
/-! how_many -/
def spMany : Sp := fun vs H Q _ => ∃ n e : Nat, vs = [.int n, .int e] ∧ 1 ≤ e ∧ e ≤ n ∧ n ≤ 2 ^ 60 ∧ Q (.int (howMany n e : Nat)) H
theorem scMany : FnScope ["count", "elder", "found", "cut"] ["count", "elder"] (defScope (top 26)) := ⟨rfl, rfl, rfl, by decide +kernel, rfl, by decide +kernel, by decide +kernel⟩
theorem ok_many (T : Txt K mg) : Pr P w K mg base 2 "how_many" ["count", "elder"] spMany := by
  refine T.how_many_.ok scMany (fun vs H Q E h => ?_) (fun f cdv A outer s H vs Q E hr h => ?_)
  · obtain ⟨p, n, rfl, _⟩ := h; rfl
  obtain ⟨n, e, rfl, h1, hle, hn, q⟩ := h
  refine ⟨_, pss_cons (ps_if (pt_cmpR op_eq (pv 0) pe_int (nomark _)) (pss_one (ps_ret pe_int)) pss_nil)
    (pss_cons (ps_set (i := 2) scMany.nd rfl (Or.inl rfl) pe_int)
    (pss_cons (ps_while PassesOwn.never (PW.pt (pw_and (pt_cmpR op_ne (pv 1) pe_int (nomark _)) (pw_and1 (pt_cmpR op_ne (pv 1) (pv 0) (nomark _)))))
      (pss_cons (ps_set (i := 3) scMany.nd rfl (Or.inl rfl) (pe_cl (ok_half T) hr (pa_cons (pv 0) pa_nil)))
      (pss_cons (ps_if (pt_cmpR op_le (pv 1) (pv 3) (nomark _)) (pss_one (ps_set (i := 0) scMany.nd rfl (Or.inl rfl) (pv 3)))
        (pss_cons (ps_aug (i := 1) scMany.nd rfl (Or.inl rfl) (pv 3) ip_sub) (pss_one (ps_aug (i := 0) scMany.nd rfl (Or.inl rfl) (pv 3) ip_sub))))
      (pss_one (ps_aug (i := 2) scMany.nd rfl (Or.inl rfl) pe_int ip_add)))))
    (pss_one (ps_ret (pv 2))))), ?_⟩
  refine ⟨_, rfl, rfl, _, rfl, ite2 (fun c => ?_) (fun _ => ?_)⟩
  · have := of_decide_eq_true c
    injection this with this
    omega
  refine while_by (fun σ H' => ∃ (n' e' k : Nat) (c : Option V), σ = [some (.int n'), some (.int e'), some (.int k), c] ∧ 1 ≤ e' ∧ e' ≤ n' ∧ n' ≤ 2 ^ 60 ∧ howMany n e + 1 = k + howMany n' e' ∧ H' = H)
    (fun σ _ => intAt σ 0) ⟨n, e, 1, none, rfl, h1, hle, hn, by omega, rfl⟩ ?_ ?_
  · rintro σ H' ⟨n', e', k, c, rfl, h1', hle', hn', hw, rfl⟩
    refine ⟨_, rfl, rfl, _, rfl, ?_⟩
    refine iteNX (by intro z; injection z with z; omega) ?_
    refine ⟨_, rfl, _, rfl, rfl, _, rfl, ite2 (fun h2 => ?_) (fun h2 => ?_)⟩
    · have hne : e' ≠ n' := fun z => by
        subst z
        simp at h2
      have h2' : 2 ≤ n' := by omega
      have hh := half_lt h2'
      have hpos := half_pos n'
      refine ⟨_, rfl, n', rfl, h2', hn', ?_⟩
      refine ⟨_, rfl, _, rfl, _, _, rfl, rfl, _, rfl, ite2 (fun h3 => ?_) (fun h3 => ?_)⟩
      · have h4 : e' ≤ half n' := by have := of_decide_eq_true h3; omega
        refine ⟨_, rfl, _, rfl, _, _, rfl, rfl, ⟨half n', e', k + 1, _, rfl, h1', h4, by omega, ?_, rfl⟩, ?_⟩
        · rw [howMany_l (by omega) h1' h4] at hw; omega
        · show (half n' : Int).toNat < (n' : Int).toNat
          omega
      · have h4 : half n' < e' := by
          have : ¬ ((e' : Int) ≤ (half n' : Nat)) := fun z => h3 (decide_eq_true z)
          omega
        refine ⟨_, rfl, _, rfl, _, _, rfl, rfl, _, rfl, _, rfl, _, _, rfl, rfl, _, rfl, _, _, rfl, rfl, ⟨n' - half n', e' - half n', k + 1, some (.int (half n' : Nat)), ?_, by omega, by omega, by omega, ?_, rfl⟩, ?_⟩
        · have e1 : (e' : Int) - (half n' : Nat) = ((e' - half n' : Nat) : Int) := by omega
          have e2 : (n' : Int) - (half n' : Nat) = ((n' - half n' : Nat) : Int) := by omega
          rw [← e1, ← e2]; rfl
        · rw [howMany_r (by omega) h4] at hw; omega
        · show ((n' : Int) - (half n' : Nat)).toNat < (n' : Int).toNat
          omega
    · have hne : e' = n' := by
        have z : (!decide (V.int (e' : Int) = V.int (n' : Int))) ≠ true := h2
        refine Decidable.byContradiction fun ne => z ?_
        rw [decide_eq_false (fun y => ne (by injection y with y; omega))]
        rfl
      refine ⟨_, rfl, ?_⟩
      rw [howMany_same (n := n') (e := e') (by omega)] at hw
      have : k = howMany n e := by omega
      rw [this]
      exact q
  · intro σ H Q Q' m h
    exact test_mono (fun x y H Q Q' m ⟨a, q⟩ => ⟨a, m _ _ q⟩) var_mono c_mono σ H _ _ (fun b H1 h1 => by
      cases b with
      | true => exact test_mono (fun x y H Q Q' m ⟨a, q⟩ => ⟨a, m _ _ q⟩) var_mono var_mono σ H1 _ _ m h1
      | false => exact m _ _ h1) h
end
end Rs
set_option Elab.async false
set_option linter.all false
set_option maxRecDepth 100000
set_option maxHeartbeats 4000000
/-! Rootstamp, the stampers: what they hold, what they have told. -/
namespace Rs
open PySem PySem.Spec PyProof.Rows L2
/-! ### plain -/
inductive Kd
  | weak (m : Nat)
  | writing
  | counting (b : Addr)
  | planted (kn aa : Addr) (step : Nat) (al : Option (Term × Term × Addr))
abbrev KVs := List (List Key × V)
def alV : Option (Term × Term × Addr) → KVs
  | none => []
  | some (n, _, oa) => [(n, .ref oa)]
def tgt (al : Option (Term × Term × Addr)) (t : Term) : Term := match al with
  | some (n, o, _) => if t = n then o else t
  | none => t
def partV (a : Int) : Key → Int
  | .inl i => 2 * a + i
  | .inr x => 2 * a + x.length
def weakT (t : Term) : Int := t.foldl partV t.length
def wpart : Key → Str
  | .inr x => Str.ofString (toString ((x.length : Nat) : Int)) ++ ":" ++ x
  | .inl i => Str.ofString (toString i) ++ ";"
def wr (t : Term) : Str := Txt.join "" (t.map wpart)
def told (k : Kd) (kv : KVs) : TR := fun t s => match k with
  | .weak m => s = .inl (weakT t % m)
  | .writing => OkT t ∧ s = .inr (wr t)
  | .counting _ => valV kv t = some (kV s)
  | .planted _ _ _ al => valV kv (tgt al t) = some (kV s)
def Sure : Kd → Prop
  | .weak _ => False
  | .planted _ _ _ (some _) => False
  | _ => True
def cnt (step c : Nat) (kv : KVs) : Prop := ∀ (i : Nat) (p : List Key × V), kv[i]? = some p → p.2 = .int ((step * i + c : Nat) : Int)
def Good (k : Kd) (kv : KVs) : Prop := match k with
  | .weak m => 1 ≤ m ∧ m ≤ 9
  | .writing => True
  | .counting _ => cnt 1 0 kv
  | .planted _ _ step _ => 1 ≤ step ∧ step ≤ 9 ∧ cnt step 5 kv
theorem valV_mem {kv : List (List Key × V)} {t : List Key} {v : V} (h : valV kv t = some v) : ∃ i : Nat, kv[i]? = some (t, v) := by
  unfold valV at h
  cases e : kv.find? (fun kv => decide (kv.1 = t)) with
  | none => rw [e] at h; cases h
  | some p =>
    rw [e] at h
    have h1 := List.mem_of_find?_eq_some e
    have h2 := List.find?_some e
    obtain ⟨i, hi⟩ := List.mem_iff_getElem?.mp h1
    refine ⟨i, ?_⟩
    rw [hi]
    have e1 : p.1 = t := by simpa using h2
    have e2 : p.2 = v := Option.some.inj h
    rw [← e1, ← e2]
theorem kV_int {s : Key} {n : Int} (h : V.int n = kV s) : s = .inl n := by
  cases s with
  | inl i => injection h with h; rw [h]
  | inr x => cases h
theorem kV_inj {a b : Key} (h : kV a = kV b) : a = b := by
  cases a <;> cases b <;> first | (injection h with h; rw [h]) | cases h
theorem cnt_at {step c : Nat} {kv : KVs} {t : Term} {s : Key} (g : cnt step c kv) (h : valV kv t = some (kV s)) : ∃ i, i < kv.length ∧ kv[i]? = some (t, kV s) ∧ s = .inl ((step * i + c : Nat) : Int) := by
  obtain ⟨i, hi⟩ := valV_mem h
  exact ⟨i, (List.getElem?_eq_some_iff.mp hi).1, hi, kV_int (g i _ hi).symm⟩
theorem cnt_inj {step c : Nat} (hs : 1 ≤ step) {kv : KVs} {a b : Term} {s : Key} (g : cnt step c kv) (h1 : valV kv a = some (kV s)) (h2 : valV kv b = some (kV s)) : a = b := by
  obtain ⟨i, _, hi, e1⟩ := cnt_at g h1
  obtain ⟨j, _, hj, e2⟩ := cnt_at g h2
  have e : ((step * i + c : Nat) : Int) = ((step * j + c : Nat) : Int) := by
    have := e1.symm.trans e2
    injection this
  have e3 : step * i = step * j := by omega
  have e4 : i = j := Nat.eq_of_mul_eq_mul_left (by omega) e3
  subst e4
  rw [hi] at hj
  injection hj with hj
  injection hj
theorem cnt_put {step c : Nat} {kv : KVs} {t : Term} (g : cnt step c kv) (h : valV kv t = none) : cnt step c (putK kv t (.int ((step * kv.length + c : Nat) : Int))) := by
  rw [putK_new _ h]
  intro i p e
  by_cases hi : i < kv.length
  · rw [List.getElem?_append_left hi] at e
    exact g i p e
  · rw [List.getElem?_append_right (by omega)] at e
    have h0 : i - kv.length = 0 := by
      have := (List.getElem?_eq_some_iff.mp e).1
      simp at this
      omega
    rw [h0] at e
    cases e
    have : i = kv.length := by omega
    rw [this]
theorem told_put {kv : KVs} {t u : Term} {s : Key} {z : V} (hn : valV kv t = none) (h : valV kv u = some (kV s)) : valV (putK kv t z) u = some (kV s) := by
  rw [valV_put]
  split
  · rename_i e
    rw [e, hn] at h
    cases h
  · exact h
theorem told_fn {k : Kd} {kv : KVs} : Fn (told k kv) := fun t s s' h h' => by
  cases k with
  | weak m => exact (show s = _ from h).trans (show s' = _ from h').symm
  | writing => exact (show s = _ from h.2).trans (show s' = _ from h'.2).symm
  | counting b => exact kV_inj (Option.some.inj ((show _ = _ from h).symm.trans h'))
  | planted a b st al => exact kV_inj (Option.some.inj ((show _ = _ from h).symm.trans h'))
theorem int60 {i : Int} {n : Nat} (h : i = n) (hn : n < 10 ^ 60) : 0 ≤ i ∧ i < 10 ^ 60 := by
  subst h
  exact ⟨Int.natCast_nonneg _, by exact_mod_cast hn⟩
theorem cnt_vk {step c : Nat} {kv : KVs} {t : Term} {s : Key} (hs : step ≤ 9) (hc : c ≤ 5) (hl : kv.length ≤ 10000000) (g : cnt step c kv) (h : valV kv t = some (kV s)) : Vk s := by
  obtain ⟨i, hi, _, e⟩ := cnt_at g h
  subst e
  have h1 : step * i + c ≤ 9 * 10000000 + 5 := Nat.add_le_add (Nat.mul_le_mul hs (by omega)) hc
  exact int60 rfl (Nat.lt_of_le_of_lt h1 (by decide))
theorem weak_vk {m : Nat} (h1 : 1 ≤ m) (h9 : m ≤ 9) (z : Int) : Vk (.inl (z % m)) := by
  have hp : (0 : Int) < (m : Int) := by omega
  have := Int.emod_nonneg z (b := (m : Int)) (by omega)
  have := Int.emod_lt_of_pos z hp
  exact ⟨by omega, by
    have : (9 : Int) < 10 ^ 60 := by decide
    omega⟩
/-! ### the state of a stamper -/
def stW : Stmt := (defBody (top 39)).getD 0 (.Pass ⟨0, 0, 0, 0⟩)
def stP : Stmt := (defBody (top 40)).getD 0 (.Pass ⟨0, 0, 0, 0⟩)
def stC : Stmt := (defBody (top 32)).getD 1 (.Pass ⟨0, 0, 0, 0⟩)
def retL : Stmt := (defBody (top 31)).getD 0 (.Pass ⟨0, 0, 0, 0⟩)
def lamOf : Stmt → Expr
  | .Return (some e) _ => e
  | _ => .Name "" ⟨0, 0, 0, 0⟩
def lamA : Expr → Arguments
  | .Lambda a _ _ _ => a
  | _ => ⟨[], [], none, [], [], none, []⟩
def lamB : Expr → Expr
  | .Lambda _ b _ _ => b
  | e => e
def lamS : Expr → Scope
  | .Lambda _ _ s _ => s
  | _ => defScope (top 31)
end Rs
set_option Elab.async false
set_option linter.all false
set_option maxRecDepth 100000
set_option maxHeartbeats 4000000
/-! Rootstamp, the writing stamper, plain: lengths, and that it tells terms apart. -/
namespace Rs
open PySem PySem.Spec PyProof.Rows L2
def dg (n : Nat) : List Nat := (Nat.toDigits 10 n).map Char.toNat
theorem tl_num (n : Nat) : TL.tl (Str.ofString (toString ((n : Nat) : Int))) = dg n := PySem.W.KIN.signs_num n
theorem dg_inj {n m : Nat} (h : dg n = dg m) : n = m := by
  have a := PySem.W.KIN.val_back n
  have b := PySem.W.KIN.val_back m
  unfold dg at h
  rw [h] at a
  exact a.symm.trans b
theorem dg_free (k : Nat) (hk : k ≠ 45 ∧ (k < 48 ∨ 57 < k)) (n : Nat) : k ∉ dg n := by
  rw [← tl_num]
  exact int_text_free' k hk n
theorem dg_len {k n : Nat} (hk : 1 ≤ k) (hn : n < 10 ^ k) : (dg n).length ≤ k := by
  unfold dg
  rw [List.length_map]
  exact digits10_le hk hn
/-- a part's signs -/
def wt : Key → List Nat
  | .inr x => dg x.length ++ 58 :: TL.tl x
  | .inl i => dg i.toNat ++ [59]
theorem tl_wpart {k : Key} (h : Vk k) : TL.tl (wpart k) = wt k := by
  cases k with
  | inr x =>
    show TL.tl (Str.ofString _ ++ ":" ++ x) = _
    rw [TL.tl_append, TL.tl_append, tl_num, List.append_assoc]
    rfl
  | inl i =>
    show TL.tl (Str.ofString _ ++ ";") = _
    rw [TL.tl_append]
    have e : i = ((i.toNat : Nat) : Int) := (Int.toNat_of_nonneg h.1).symm
    rw [e, tl_num]
    rfl
theorem joinL_nil : ∀ l : List (List Nat), TL.joinL [] l = l.flatten
  | [] => rfl
  | [p] => by rw [List.flatten_cons, List.flatten_nil, List.append_nil]; rfl
  | p :: q :: r => by
    show p ++ ([] ++ TL.joinL [] (q :: r)) = _
    rw [List.nil_append, joinL_nil (q :: r)]
    rfl
theorem tl_wr {t : Term} (h : ∀ k ∈ t, Vk k) : TL.tl (wr t) = (t.map wt).flatten := by
  unfold wr
  rw [TL.join_eq, TL.tl_join]
  show TL.joinL [] _ = _
  rw [joinL_nil, List.map_map]
  congr 1
  exact List.map_congr_left fun k hk => tl_wpart (h k hk)
theorem cut_inj : ∀ {p q : List Nat} {c d : Nat} {r s : List Nat}, (58 ∉ p ∧ 59 ∉ p) → (58 ∉ q ∧ 59 ∉ q) → (c = 58 ∨ c = 59) → (d = 58 ∨ d = 59) → p ++ c :: r = q ++ d :: s → p = q ∧ c = d ∧ r = s
  | [], [], _, _, _, _, _, _, _, _, h => by injection h with h1 h2; exact ⟨rfl, h1, h2⟩
  | [], y :: q, c, d, r, s, _, hq, hc, _, h => by
    injection h with h1 h2
    subst h1
    simp only [List.mem_cons, not_or] at hq
    omega
  | x :: p, [], c, d, r, s, hp, _, _, hd, h => by
    injection h with h1 h2
    subst h1
    simp only [List.mem_cons, not_or] at hp
    omega
  | x :: p, y :: q, c, d, r, s, hp, hq, hc, hd, h => by
    injection h with h1 h2
    simp only [List.mem_cons, not_or] at hp hq
    obtain ⟨a, b, e⟩ := cut_inj ⟨hp.1.2, hp.2.2⟩ ⟨hq.1.2, hq.2.2⟩ hc hd h2
    exact ⟨by rw [h1, a], b, e⟩
theorem dg_ok (n : Nat) : 58 ∉ dg n ∧ 59 ∉ dg n := ⟨dg_free 58 (by decide) n, dg_free 59 (by decide) n⟩
theorem wt_inj : ∀ {a b : Term}, (∀ k ∈ a, Vk k) → (∀ k ∈ b, Vk k) → (a.map wt).flatten = (b.map wt).flatten → a = b
  | [], [], _, _, _ => rfl
  | [], k :: b, _, _, h => by
    cases k <;> simp [wt] at h
  | k :: a, [], _, _, h => by
    cases k <;> simp [wt] at h
  | .inl i :: a, .inl j :: b, ha, hb, h => by
    simp only [List.map_cons, List.flatten_cons, wt, List.append_assoc, List.cons_append, List.nil_append] at h
    obtain ⟨e1, _, e2⟩ := cut_inj (dg_ok _) (dg_ok _) (.inr rfl) (.inr rfl) h
    have e3 := dg_inj e1
    have h1 := (ha _ (List.mem_cons_self ..)).1
    have h2 := (hb _ (List.mem_cons_self ..)).1
    have e4 : i = j := by omega
    rw [e4, wt_inj (fun k hk => ha k (List.mem_cons_of_mem _ hk)) (fun k hk => hb k (List.mem_cons_of_mem _ hk)) e2]
  | .inl i :: a, .inr y :: b, _, _, h => by
    simp only [List.map_cons, List.flatten_cons, wt, List.append_assoc, List.cons_append, List.nil_append] at h
    obtain ⟨_, e, _⟩ := cut_inj (dg_ok _) (dg_ok _) (.inr rfl) (.inl rfl) h
    cases e
  | .inr x :: a, .inl j :: b, _, _, h => by
    simp only [List.map_cons, List.flatten_cons, wt, List.append_assoc, List.cons_append, List.nil_append] at h
    obtain ⟨_, e, _⟩ := cut_inj (dg_ok _) (dg_ok _) (.inl rfl) (.inr rfl) h
    cases e
  | .inr x :: a, .inr y :: b, ha, hb, h => by
    simp only [List.map_cons, List.flatten_cons, wt, List.append_assoc, List.cons_append, List.nil_append] at h
    obtain ⟨e1, _, e2⟩ := cut_inj (dg_ok _) (dg_ok _) (.inl rfl) (.inl rfl) h
    have e3 := dg_inj e1
    rw [TL.len_tl, TL.len_tl] at e3
    obtain ⟨e4, e5⟩ := List.append_inj e2 e3
    rw [TL.ext_tl e4, wt_inj (fun k hk => ha k (List.mem_cons_of_mem _ hk)) (fun k hk => hb k (List.mem_cons_of_mem _ hk)) e5]
theorem wr_inj {a b : Term} (ha : ∀ k ∈ a, Vk k) (hb : ∀ k ∈ b, Vk k) (h : wr a = wr b) : a = b := wt_inj ha hb (by rw [← tl_wr ha, ← tl_wr hb, h])
theorem wt_len {k : Key} (h : Vk k) (hs : klen k ≤ 16000000) : (wt k).length ≤ klen k + 9 := by
  cases k with
  | inr x =>
    have h1 : x.length ≤ 16000000 := hs
    have h2 := dg_len (k := 8) (n := x.length) (by decide) (by omega)
    show (dg x.length ++ 58 :: TL.tl x).length ≤ x.length + 9
    rw [List.length_append, List.length_cons, ← TL.len_tl]
    omega
  | inl i =>
    obtain ⟨h0, h1⟩ := h
    have h2 := dg_len (k := 60) (n := i.toNat) (by decide) (by
      have : ((i.toNat : Nat) : Int) < ((10 ^ 60 : Nat) : Int) := by rw [Int.toNat_of_nonneg h0]; exact h1
      exact_mod_cast this)
    show (dg i.toNat ++ [59]).length ≤ 61 + 9
    rw [List.length_append]
    show (dg i.toNat).length + 1 ≤ _
    omega
theorem flat_len : ∀ {t : Term}, (∀ k ∈ t, Vk k) → ksum t ≤ 16000000 → ((t.map wt).flatten).length ≤ ksum t + 9 * t.length
  | [], _, _ => Nat.zero_le _
  | k :: t, h, hs => by
    rw [ksum_cons] at hs ⊢
    have a := wt_len (h k (List.mem_cons_self ..)) (by omega)
    have b := flat_len (t := t) (fun k hk => h k (List.mem_cons_of_mem _ hk)) (by omega)
    rw [List.map_cons, List.flatten_cons, List.length_append, List.length_cons]
    omega
theorem wr_len {t : Term} (h : OkT t) : (wr t).length ≤ ksum t + 9 * t.length := by
  rw [TL.len_tl, tl_wr h.vk]
  exact flat_len h.vk h.sz
theorem wpart_len {k : Key} (h : Vk k) (hs : klen k ≤ 16000000) : (wpart k).length ≤ klen k + 9 := by
  rw [TL.len_tl, tl_wpart h]
  exact wt_len h hs
theorem wparts_len {t : Term} (h : OkT t) : ((t.map wpart).map (·.length)).sum ≤ ksum t + 9 * t.length := by
  have : ∀ t : Term, (∀ k ∈ t, Vk k) → ksum t ≤ 16000000 → ((t.map wpart).map (·.length)).sum ≤ ksum t + 9 * t.length := by
    intro t
    induction t with
    | nil => intro _ _; exact Nat.zero_le _
    | cons k t ih =>
      intro h hs
      rw [ksum_cons] at hs ⊢
      have a := wpart_len (h k (List.mem_cons_self ..)) (by omega)
      have b := ih (fun k hk => h k (List.mem_cons_of_mem _ hk)) (by omega)
      rw [List.map_cons, List.map_cons, List.sum_cons, List.length_cons]
      omega
  exact this t h.vk h.sz
theorem strOk_of {x : Str} (h : ∀ c ∈ TL.tl x, c < 0x110000) : PySem.PyData.strOk x = true := by
  unfold PySem.PyData.strOk
  rw [← Array.all_toList, List.all_eq_true]
  exact fun c hc => decide_eq_true (h c hc)
theorem strOk_to {x : Str} (h : PySem.PyData.strOk x = true) : ∀ c ∈ TL.tl x, c < 0x110000 := by
  unfold PySem.PyData.strOk at h
  rw [← Array.all_toList, List.all_eq_true] at h
  exact fun c hc => of_decide_eq_true (h c hc)
theorem char_lt (c : Char) : c.toNat < 0x110000 := by
  have := c.valid
  have e : c.toNat = c.val.toNat := rfl
  rcases this with h | h <;> omega
theorem dg_lt {n c : Nat} (h : c ∈ dg n) : c < 0x110000 := by
  obtain ⟨ch, _, rfl⟩ := List.mem_map.mp h
  exact char_lt ch
theorem wr_ok {t : Term} (h : ∀ k ∈ t, Vk k) : PySem.PyData.strOk (wr t) = true := by
  refine strOk_of fun c hc => ?_
  rw [tl_wr h] at hc
  obtain ⟨l, hl, hcl⟩ := List.mem_flatten.mp hc
  obtain ⟨k, hk, rfl⟩ := List.mem_map.mp hl
  have hv := h k hk
  cases k with
  | inr x =>
    rcases List.mem_append.mp hcl with z | z
    · exact dg_lt z
    · rcases List.mem_cons.mp z with e | z
      · omega
      · exact strOk_to hv c z
  | inl i =>
    rcases List.mem_append.mp hcl with z | z
    · exact dg_lt z
    · rw [List.mem_singleton.mp z]; omega
/-! ### what every stamper's told stamps are like -/
theorem told_vd {k : Kd} {kv : KVs} (g : Good k kv) (hl : kv.length ≤ 10000000) : Vd (told k kv) := fun t s h => by
  cases k with
  | weak m => rw [show s = _ from h]; exact weak_vk g.1 g.2 _
  | writing => rw [show s = _ from h.2]; exact wr_ok h.1.vk
  | counting b => exact cnt_vk (by decide) (by decide) hl g h
  | planted a b st al => exact cnt_vk g.2.1 (by decide) hl g.2.2 h
theorem told_bd {k : Kd} {kv : KVs} (g : Good k kv) : Bd (told k kv) := fun t s h => by
  have nat : ∀ {i : Int}, s = .inl i → klen s ≤ ksum t + 9 * t.length + 61 := fun {i} e => by
    subst e
    show 61 ≤ _
    omega
  cases k with
  | weak m => exact nat h
  | writing =>
    obtain ⟨h1, h2⟩ := (show OkT t ∧ s = _ from h)
    have := wr_len h1
    subst h2
    show (wr t).length ≤ _
    omega
  | counting b =>
    obtain ⟨i, _, _, e⟩ := cnt_at (show cnt 1 0 kv from g) h
    exact nat e
  | planted a b st al =>
    obtain ⟨i, _, _, e⟩ := cnt_at g.2.2 h
    exact nat e
theorem told_sure {k : Kd} {kv : KVs} (g : Good k kv) (hs : Sure k) {a b : Term} {s : Key} (h1 : told k kv a s) (h2 : told k kv b s) : a = b := by
  cases k with
  | weak m => exact hs.elim
  | writing =>
    obtain ⟨a1, a2⟩ := (show OkT a ∧ s = _ from h1)
    obtain ⟨b1, b2⟩ := (show OkT b ∧ s = _ from h2)
    rw [a2] at b2
    injection b2 with b2
    exact wr_inj a1.vk b1.vk b2
  | counting _ => exact cnt_inj (by decide) (show cnt 1 0 kv from g) h1 h2
  | planted _ _ st al =>
    cases al with
    | some _ => exact hs.elim
    | none => exact cnt_inj g.1 g.2.2 h1 h2
end Rs
set_option Elab.async false
set_option linter.all false
set_option maxRecDepth 100000
set_option maxHeartbeats 4000000
/-! Rootstamp, defs: part_written, written. -/
namespace Rs
open PySem PySem.Spec PyProof.Rows L2
section
variable {P : Program} {w : World} {K : PySem.W.Frag} {mg : Str → Option Value} {base : Heap}
def spPart : Sp := fun vs H Q _ => ∃ k : Key, vs = [kV k] ∧ Vk k ∧ klen k ≤ 16000000 ∧ Q (.str (wpart k)) H
theorem scPart : FnScope ["part"] ["part"] (defScope (top 14)) := ⟨rfl, rfl, rfl, by decide +kernel, rfl, by decide +kernel, by decide +kernel⟩
theorem log60 {i : Int} (h0 : 0 ≤ i) (h1 : i < 10 ^ 60) : i.natAbs.log2 < 1920 := by
  have : i.natAbs ≤ 2 ^ 200 := by
    have e : ((i.natAbs : Nat) : Int) = i := Int.natAbs_of_nonneg h0
    have h2 : ((i.natAbs : Nat) : Int) < ((10 ^ 60 : Nat) : Int) := by rw [e]; exact_mod_cast h1
    have h3 : i.natAbs < 10 ^ 60 := by exact_mod_cast h2
    exact Nat.le_of_lt (Nat.lt_trans h3 (by decide))
  have := log2_le this
  omega
theorem num_len {i : Int} (h0 : 0 ≤ i) (h1 : i < 10 ^ 60) : (Str.ofString (toString i)).length ≤ 60 := by
  have e : i = ((i.toNat : Nat) : Int) := (Int.toNat_of_nonneg h0).symm
  rw [e, TL.len_tl, tl_num]
  exact dg_len (by decide) (by
    have : ((i.toNat : Nat) : Int) < ((10 ^ 60 : Nat) : Int) := by rw [Int.toNat_of_nonneg h0]; exact_mod_cast h1
    exact_mod_cast this)
theorem ok_part (T : Txt K mg) : Pr P w K mg base 1 "part_written" ["part"] spPart := by
  refine T.part_written_.ok scPart (fun vs H Q E h => ?_) (fun f cdv A outer s H vs Q E hr h => ?_)
  · obtain ⟨n, rfl, _⟩ := h; rfl
  obtain ⟨k, rfl, hv, hs, q⟩ := h
  have hz := sizeLine_eq
  refine ⟨_, pss_cons (ps_if (pt_val (pe_isi T.b_isinstance T.b_str (pv 0) (Ts := "str") (by decide +kernel)))
      (pss_one (ps_ret (pe_op op_add_str (pe_op op_add_str (pe_callTy call_str_int (by rfl) T.b_str (by decide +kernel) (pa_cons (pe_callB call_len_str (by rfl) T.b_len PySem.boot_len (pa_cons (pv 0) pa_nil)) pa_nil)) pe_str) (pv 0)))) pss_nil)
    (pss_one (ps_ret (pe_op op_add_str (pe_callTy call_str_int (by rfl) T.b_str (by decide +kernel) (pa_cons (pv 0) pa_nil)) pe_str))), ?_⟩
  cases k with
  | inr x =>
    have hx : x.length ≤ 16000000 := hs
    have h60 : ((x.length : Nat) : Int) < 10 ^ 60 := by
      have : (16000000 : Int) < 10 ^ 60 := by decide
      omega
    have hn := num_len (Int.natCast_nonneg x.length) h60
    have l1 : (Str.ofString (toString ((x.length : Nat) : Int)) ++ ":").length = (Str.ofString (toString ((x.length : Nat) : Int))).length + 1 := by
      rw [TL.len_tl, TL.tl_append, List.length_append, ← TL.len_tl]; rfl
    refine ⟨_, rfl, isi_of "str" "str" true (.base (.str x)) (by decide +kernel) ⟨_, rfl, iteT ?_⟩⟩
    refine ⟨_, rfl, x, rfl, by omega, _, rfl, log60 (Int.natCast_nonneg _) h60, _, _, rfl, rfl, ?_, _, rfl, _, _, rfl, rfl, ?_, q⟩
    · show (Str.ofString _).length + 1 ≤ _
      omega
    · show (Str.ofString _ ++ ":").length + _ ≤ _
      rw [l1]
      omega
  | inl i =>
    have hn := num_len hv.1 hv.2
    refine ⟨_, rfl, isi_of "int" "str" false (.base (.int i)) (by decide +kernel) ⟨_, rfl, iteF ?_⟩⟩
    refine ⟨_, rfl, _, rfl, log60 hv.1 hv.2, _, _, rfl, rfl, ?_, q⟩
    show (Str.ofString _).length + 1 ≤ _
    omega
def spWrit : Sp := fun vs H Q _ => ∃ (a : Addr) (t : List Key), vs = [.ref a] ∧ H a = some (.tup (kVs t)) ∧ OkT t ∧ ∀ H', Same H H' → Q (.str (wr t)) H'
theorem scWrit : FnScope ["term", "part"] ["term"] (defScope (top 15)) := ⟨rfl, rfl, rfl, by decide +kernel, rfl, by decide +kernel, by decide +kernel⟩
theorem ok_writ (T : Txt K mg) : Pr P w K mg base 4 "written" ["term"] spWrit := by
  refine T.written_.ok scWrit (fun vs H Q E h => ?_) (fun f cdv A outer s H vs Q E hr h => ?_)
  · obtain ⟨n, t, rfl, _⟩ := h; rfl
  obtain ⟨a, t, rfl, ha, ht, q⟩ := h
  have hz := sizeLine_eq
  refine ⟨_, pss_cons (ps_if (pt_not (pt_val (pe_cl (ok_term T) hr (pa_cons (pv 0) pa_nil)))) (pss_one ps_never) pss_nil)
    (pss_one (ps_ret (pe_join pe_str (pe_lc (own := [("part", 1)]) (g := gName 1) (tt := tYes) rfl scWrit.nd (pi_tup (pv 0)) (blkOk_by (N := ["term", "part"]) (sc := defScope (top 15)) (by decide +kernel)) (fun _ _ _ _ _ => pg_name (i := 1) scWrit.nd rfl (Or.inl rfl)) (fun _ _ _ _ _ => pts_nil)
      (fun _ _ _ _ _ => pe_cl (ok_part T) (hr.mono (by decide)) (pa_cons (pv 1) pa_nil)))))), ?_⟩
  refine ⟨_, rfl, a, t, rfl, ha, ht, _, rfl, iteF ?_⟩
  refine ⟨⟨_, rfl⟩, ?_⟩
  refine ⟨_, rfl, a, rfl, ⟨_, SqT.of ha⟩, fun D hD => lc_tup (K := K) (a := a) (xs := kVs t) (fun i H' => Same H H' ∧ H' D = some (.lst (((t.take i).map wpart).map V.str))) ⟨same_new hD _, upd_same⟩ (fun i H' _ ⟨s, _⟩ => SqT.of (s _ _ ha)) ?_ ?_⟩
  · rintro i y H' hi ⟨s, hL⟩
    obtain ⟨k, hk, rfl, hm⟩ := vs_get hi
    have h8 := ht.le
    have hi8 : i < t.length := (List.getElem?_eq_some_iff.mp hk).1
    refine ⟨rfl, _, rfl, k, rfl, ht.vk k hm, Nat.le_trans (ksum_mem hm) ht.sz, _, hL, ?_, same_upd hD s _, ?_⟩
    · rw [List.length_map, List.length_map, List.length_take]
      omega
    · rw [List.take_add_one, hk, List.map_append, List.map_append]
      exact upd_same
  · rintro H' ⟨s, hL⟩
    have hL : H' D = some (.lst (((t.take (kVs t).length).map wpart).map V.str)) := hL
    rw [List.length_map, List.take_length] at hL
    have hsum := wparts_len ht
    have h8 := ht.le
    have hsz := ht.sz
    refine ⟨_, D, _, rfl, rfl, .inl (SqL.of hL), ?_, q H' s⟩
    show _ + (t.map wpart).length * 0 ≤ _
    omega
end
end Rs
set_option Elab.async false
set_option linter.all false
set_option maxRecDepth 100000
set_option maxHeartbeats 4000000
/-! Rootstamp, the four stampers called. -/
namespace Rs
open PySem PySem.Spec PyProof.Rows L2
theorem add_del {L : List (Addr × V)} {H : Hp} (c : CellsIn L H) : addC L (delC L H) = H := by
  funext b
  cases e : L.lookup b with
  | none => rw [addC_none e, delC_none e]
  | some v => rw [addC_some e, c b v e]
theorem add_upd {L : List (Addr × V)} {H : Hp} (c : CellsIn L H) {a : Addr} {o : HO} (h : L.lookup a = none) : addC L (upd (delC L H) a o) = upd H a o := by
  funext b
  cases e : L.lookup b with
  | none =>
    rw [addC_none e]
    by_cases hb : b = a
    · subst hb; rw [upd_same, upd_same]
    · rw [upd_ne hb, upd_ne hb, delC_none e]
  | some v =>
    have hb : b ≠ a := fun z => by rw [z, h] at e; cases e
    rw [addC_some e, upd_ne hb, c b v e]
/-- the cells cl of a function that left its maker hold ws -/
structure CloAt (cl : List (Str × Addr)) (fr : List Str) (ws : List (Option V)) (L : List (Addr × V)) (H : Hp) : Prop where
  c : CellsIn L H
  len : ws.length = fr.length
  all : ∀ y a, cl.lookup y = some a → ∃ v, L.lookup a = some v
  inj : ∀ x y a, cl.lookup x = some a → cl.lookup y = some a → x = y
  has : ∀ (i : Nat) (y : Str), fr[i]? = some y → ∃ a, cl.lookup y = some a ∧ ∀ v, ws[i]? = some (some v) → L.lookup a = some v
/-- everything is kept but lists, and dicts whose keys are no tuples -/
def Tr (H H' : Hp) : Prop := ∀ b o, H b = some o → (∀ xs, o ≠ .lst xs) → (∀ kvs, o ≠ .dK kvs) → H' b = some o
/-- everything is kept but dicts whose keys are tuples; nothing is gone -/
structure Kp (H H' : Hp) : Prop where
  k : ∀ b o, H b = some o → (∀ kvs, o ≠ .dT kvs) → H' b = some o
  n : ∀ b, H' b = none → H b = none
theorem Kp.refl (H : Hp) : Kp H H := ⟨fun _ _ h _ => h, fun _ h => h⟩
theorem Kp.trans {H H1 H2 : Hp} (a : Kp H H1) (b : Kp H1 H2) : Kp H H2 := ⟨fun c o h n => b.k c o (a.k c o h n) n, fun c h => a.n c (b.n c h)⟩
theorem Kp.of {H H' : Hp} (s : Same H H') : Kp H H' := ⟨fun b o h _ => s b o h, fun b h => by
  cases e : H b with
  | none => rfl
  | some o => rw [s b o e] at h; cases h⟩
theorem Kp.tup {H H' : Hp} (k : Kp H H') {a : Addr} {xs : List V} (e : H a = some (.tup xs)) : H' a = some (.tup xs) := k.k _ _ e (fun _ z => nomatch z)
theorem Kp.lst {H H' : Hp} (k : Kp H H') {a : Addr} {xs : List V} (e : H a = some (.lst xs)) : H' a = some (.lst xs) := k.k _ _ e (fun _ z => nomatch z)
theorem Kp.dK {H H' : Hp} (k : Kp H H') {a : Addr} {xs : List (Key × V)} (e : H a = some (.dK xs)) : H' a = some (.dK xs) := k.k _ _ e (fun _ z => nomatch z)
theorem upd_n {H : Hp} {p b : Addr} {o : HO} (h : L2.upd H p o b = none) : H b = none := by
  by_cases e : b = p
  · subst e; rw [upd_same] at h; cases h
  · rw [upd_ne e] at h; exact h
/-- a new thing -/
theorem Kp.new {H H1 : Hp} (k : Kp H H1) {p : Addr} (n : H1 p = none) (o : HO) : Kp H (L2.upd H1 p o) := ⟨fun b u e h => by
  have := k.k b u e h
  rw [upd_ne (ne_of_none this n)]
  exact this, fun b h => k.n b (upd_n h)⟩
/-- a thing is written that is new since H -/
theorem Kp.wr {H H1 : Hp} (k : Kp H H1) {p : Addr} (n : H p = none) (o : HO) : Kp H (L2.upd H1 p o) := ⟨fun b u e h => by
  rw [upd_ne (ne_of_none e n)]
  exact k.k b u e h, fun b h => k.n b (upd_n h)⟩
/-- a dict of tuple keys is written -/
theorem Kp.dT {H : Hp} {p : Addr} {kv : KVs} (e : H p = some (.dT kv)) (o : HO) : Kp H (L2.upd H p o) := ⟨fun b u e1 h => by
  rw [upd_ne (fun z => h kv (Option.some.inj (e1.symm.trans (by rw [z]; exact e))))]
  exact e1, fun b h => upd_n h⟩
theorem Tr.refl (H : Hp) : Tr H H := fun _ _ h _ _ => h
theorem Tr.same {H H' : Hp} (s : Same H H') : Tr H H' := fun b o h _ _ => s b o h
theorem Tr.new {H : Hp} {p : Addr} (n : H p = none) (o : HO) : Tr H (L2.upd H p o) := fun b u e _ _ => by rw [upd_ne (ne_of_none e n)]; exact e
theorem Tr.lst {H : Hp} {p : Addr} {xs : List V} (n : H p = some (.lst xs)) (o : HO) : Tr H (L2.upd H p o) := fun b u e h _ => by
  rw [upd_ne (fun z => h xs (Option.some.inj (e.symm.trans (by rw [z]; exact n))))]
  exact e
theorem Tr.dK {H : Hp} {p : Addr} {xs : List (Key × V)} (n : H p = some (.dK xs)) (o : HO) : Tr H (L2.upd H p o) := fun b u e _ h => by
  rw [upd_ne (fun z => h xs (Option.some.inj (e.symm.trans (by rw [z]; exact n))))]
  exact e
def lamF (q : Str) (c' : Addr) : NdefX.NF := ⟨"<lambda>", q, lamA (lamOf retL), [], lamS (lamOf retL), [], c'⟩
def StAt : Kd → KVs → Addr → Hp → Prop
  | .weak m, _, f, H => ∃ (q : Str) (cl : List (Str × Addr)) (c' : Addr) (L : List (Addr × V)), H f = some (NdefX.FnO f (NdefX.NF.of stW "_law_stamp" q cl c')) ∧ H c' = some (LamX.CodeO c' q) ∧ CloAt cl ["_law_many"] [some (.int (m : Int))] L H
  | .writing, _, f, H => ∃ (q : Str) (c' : Addr), H f = some (LamO f (lamF q c') (lamB (lamOf retL))) ∧ H c' = some (LamX.CodeO c' q)
  | .counting b, kv, f, H => ∃ (q : Str) (cl : List (Str × Addr)) (c' : Addr) (L : List (Addr × V)), H f = some (NdefX.FnO f (NdefX.NF.of stC "number_for" q cl c')) ∧ H c' = some (LamX.CodeO c' q) ∧ CloAt cl ["book"] [some (.ref b)] L H ∧ H b = some (.dT kv)
  | .planted kn aa step al, kv, f, H => ∃ (q : Str) (cl : List (Str × Addr)) (c' : Addr) (L : List (Addr × V)), H f = some (NdefX.FnO f (NdefX.NF.of stP "_law_stamp" q cl c')) ∧ H c' = some (LamX.CodeO c' q) ∧
      CloAt cl ["_law_known", "_law_alias", "_law_step"] [some (.ref kn), some (.ref aa), some (.int (step : Int))] L H ∧ H kn = some (.dT kv) ∧ H aa = some (.dT (alV al)) ∧ kn ≠ aa ∧ ∀ n o oa, al = some (n, o, oa) → H oa = some (.tup (kVs o))
theorem CloAt.tr {cl : List (Str × Addr)} {fr : List Str} {ws : List (Option V)} {L : List (Addr × V)} {H H' : Hp} (h : CloAt cl fr ws L H) (t : Tr H H') : CloAt cl fr ws L H' :=
  ⟨fun a v e => t _ _ (h.c a v e) (fun _ z => by unfold CellO at z; cases z) (fun _ z => by unfold CellO at z; cases z), h.len, h.all, h.inj, h.has⟩
theorem CloAt.kp {cl : List (Str × Addr)} {fr : List Str} {ws : List (Option V)} {L : List (Addr × V)} {H H' : Hp} (h : CloAt cl fr ws L H) (t : Kp H H') : CloAt cl fr ws L H' :=
  ⟨fun a v e => t.k _ _ (h.c a v e) (fun _ z => by unfold CellO at z; cases z), h.len, h.all, h.inj, h.has⟩
theorem Tr.fn {H H' : Hp} (t : Tr H H') {f : Addr} {F : NdefX.NF} (e : H f = some (NdefX.FnO f F)) : H' f = some (NdefX.FnO f F) := t _ _ e (fun _ z => by unfold NdefX.FnO at z; cases z) (fun _ z => by unfold NdefX.FnO at z; cases z)
theorem Tr.co {H H' : Hp} (t : Tr H H') {f : Addr} {q : Str} (e : H f = some (LamX.CodeO f q)) : H' f = some (LamX.CodeO f q) := t _ _ e (fun _ z => by unfold LamX.CodeO at z; cases z) (fun _ z => by unfold LamX.CodeO at z; cases z)
theorem Tr.dT {H H' : Hp} (t : Tr H H') {f : Addr} {q : KVs} (e : H f = some (.dT q)) : H' f = some (.dT q) := t _ _ e (fun _ z => nomatch z) (fun _ z => nomatch z)
theorem Tr.tup {H H' : Hp} (t : Tr H H') {f : Addr} {q : List V} (e : H f = some (.tup q)) : H' f = some (.tup q) := t _ _ e (fun _ z => nomatch z) (fun _ z => nomatch z)
theorem Tr.lam {H H' : Hp} (t : Tr H H') {f : Addr} {F : NdefX.NF} {b : Expr} (e : H f = some (LamO f F b)) : H' f = some (LamO f F b) := t _ _ e (fun _ z => by unfold LamO at z; cases z) (fun _ z => by unfold LamO at z; cases z)
theorem Kp.fn {H H' : Hp} (t : Kp H H') {f : Addr} {F : NdefX.NF} (e : H f = some (NdefX.FnO f F)) : H' f = some (NdefX.FnO f F) := t.k _ _ e (fun _ z => by unfold NdefX.FnO at z; cases z)
theorem Kp.co {H H' : Hp} (t : Kp H H') {f : Addr} {q : Str} (e : H f = some (LamX.CodeO f q)) : H' f = some (LamX.CodeO f q) := t.k _ _ e (fun _ z => by unfold LamX.CodeO at z; cases z)
theorem StAt.tr {k : Kd} {kv : KVs} {f : Addr} {H H' : Hp} (h : StAt k kv f H) (t : Tr H H') : StAt k kv f H' := by
  cases k with
  | weak m => obtain ⟨q, cl, c', L, h1, h2, h3⟩ := h; exact ⟨q, cl, c', L, t.fn h1, t.co h2, h3.tr t⟩
  | writing => obtain ⟨q, c', h1, h2⟩ := h; exact ⟨q, c', t.lam h1, t.co h2⟩
  | counting b => obtain ⟨q, cl, c', L, h1, h2, h3, h4⟩ := h; exact ⟨q, cl, c', L, t.fn h1, t.co h2, h3.tr t, t.dT h4⟩
  | planted kn aa step al => obtain ⟨q, cl, c', L, h1, h2, h3, h4, h5, h6, h7⟩ := h; exact ⟨q, cl, c', L, t.fn h1, t.co h2, h3.tr t, t.dT h4, t.dT h5, h6, fun n o oa e => t.tup (h7 n o oa e)⟩
section
variable {P : Program} {w : World} {K : PySem.W.Frag} {mg : Str → Option Value} {base : Heap}
/-! ### the bodies -/
def spW (ws : List (Option V)) : Sp := fun vs H Q _ => ∃ (a : Addr) (t : List Key) (m : Nat), ws = [some (.int (m : Int))] ∧ vs = [.ref a] ∧ H a = some (.tup (kVs t)) ∧ OkT t ∧ 1 ≤ m ∧ Q (.int (weakT t % m)) H
theorem bind1 {α : Type} {p : Nat → List Value → Prop} {us : List Value} (h : us.length = 1) : ∃ u, us = [u] := List.length_eq_one_iff.mp h
theorem scW {q : Str} {cl : List (Str × Addr)} {c' : Addr} : NdefX.NScope ["_law_term_here", "_law_many", "_law_total", "_law_part"] ["_law_term_here"] ["_law_many"] (NdefX.NF.of stW "_law_stamp" q cl c').scope := NdefX.nscope_by (show NdefX.nscB ["_law_term_here", "_law_many", "_law_total", "_law_part"] ["_law_term_here"] ["_law_many"] (C8.fnScope stW) = true by decide +kernel)
theorem nok_weak (T : Txt K mg) {f : Addr} {q : Str} {cl : List (Str × Addr)} {c' : Addr} : NdefX.NOk P w K mg base CX0 1 f (NdefX.NF.of stW "_law_stamp" q cl c') ["_law_term_here"] ["_law_many"] spW := by
  refine NdefX.nok_of (N := ["_law_term_here", "_law_many", "_law_total", "_law_part"]) scW (fun doc pm ctv us hu => ?_) (fun ws vs H Q E h => ?_) (fun A outer s H vs ws Q E hr hf hc hl h => ?_)
  · obtain ⟨u, rfl⟩ := List.length_eq_one_iff.mp hu; rfl
  · obtain ⟨a, t, m, _, rfl, _⟩ := h; rfl
  obtain ⟨a, t, m, rfl, rfl, ha, ht, h1, q1⟩ := h
  have S := scW (q := q) (cl := cl) (c' := c')
  have hz := sizeLine_eq
  refine ⟨_, PSs.nox (pss_cons (ps_set (i := 2) S.nd rfl (Or.inl rfl) (pe_callB call_len_seq (by rfl) T.b_len PySem.boot_len (pa_cons (pv 0) pa_nil)))
    (pss_cons (ps_for PassesOwn.never rfl (pi_tup (pv 0)) (pg_name (i := 3) S.nd rfl (Or.inl rfl)) (pss_one (ps_if (pt_val (pe_isi T.b_isinstance T.b_str (pv 3) (Ts := "str") (by decide +kernel)))
      (pss_one (ps_set (i := 2) S.nd rfl (Or.inl rfl) (pe_op op_add (pe_op op_mul pe_int (pv 2)) (pe_callB call_len_str (by rfl) T.b_len PySem.boot_len (pa_cons (pv 3) pa_nil)))))
      (pss_one (ps_set (i := 2) S.nd rfl (Or.inl rfl) (pe_op op_add (pe_op op_mul pe_int (pv 2)) (pv 3)))))))
    (pss_one (ps_ret (pe_op op_mod (pv 2) (pv 1)))))), ?_⟩
  have e0 : ((kVs t).length : Int) = (t.length : Int) := by rw [List.length_map]
  refine ⟨_, rfl, a, _, rfl, .inr (SqT.of ha), ?_⟩
  refine ⟨_, rfl, a, rfl, ⟨_, SqT.of ha⟩, for_tup (K := K) (a := a) (xs := kVs t) (fun i σ H' => H' = H ∧ ∃ v, σ = [some (.ref a), some (.int (m : Int)), some (.int ((t.take i).foldl partV t.length)), v]) ⟨rfl, _, by rw [e0]; rfl⟩ (fun i σ H' _ ⟨e, _⟩ => by rw [e]; exact SqT.of ha) ?_ ?_⟩
  · rintro i y σ H' hi ⟨rfl, v, rfl⟩
    obtain ⟨k, hk, rfl, hm⟩ := vs_get hi
    have e1 : (t.take (i + 1)).foldl partV t.length = partV ((t.take i).foldl partV t.length) k := by
      rw [List.take_add_one, hk, List.foldl_append] <;> rfl
    cases k with
    | inr x =>
      have hx : x.length ≤ 16000000 := Nat.le_trans (ksum_mem (k := .inr x) hm) ht.sz
      refine ⟨_, rfl, isi_of "str" "str" true (.base (.str x)) (by decide +kernel) ⟨_, rfl, iteT ?_⟩⟩
      refine ⟨_, rfl, _, _, rfl, rfl, .inl ⟨by decide, by decide⟩, _, rfl, x, rfl, by omega, _, _, rfl, rfl, rfl, _, by rw [e1]; rfl⟩
    | inl z =>
      refine ⟨_, rfl, isi_of "int" "str" false (.base (.int z)) (by decide +kernel) ⟨_, rfl, iteF ?_⟩⟩
      refine ⟨_, rfl, _, _, rfl, rfl, .inl ⟨by decide, by decide⟩, _, rfl, _, _, rfl, rfl, rfl, _, by rw [e1]; rfl⟩
  · rintro σ H' ⟨rfl, v, rfl⟩
    have e1 : t.take (kVs t).length = t := by rw [List.length_map, List.take_length]
    rw [e1]
    refine ⟨_, rfl, _, rfl, _, _, rfl, rfl, ?_, q1⟩
    show (0 : Int) < m
    omega
theorem ru {k : Nat} {A : Around} (hr : Room k A) : A.units + 1 < cLine := by
  have := hr.units
  omega
def spC (ws : List (Option V)) : Sp := fun vs H Q _ => ∃ (a b : Addr) (t : List Key) (kv : KVs), ws = [some (.ref b)] ∧ vs = [.ref a] ∧ H a = some (.tup (kVs t)) ∧ OkT t ∧ H b = some (.dT kv) ∧ kv.length < sizeLine ∧ (∀ v, valV kv t = some v → Q v H) ∧
  (valV kv t = none → Q (.int (kv.length : Nat)) (upd H b (.dT (putK kv t (.int (kv.length : Nat))))))
theorem scC {q : Str} {cl : List (Str × Addr)} {c' : Addr} : NdefX.NScope ["term", "book"] ["term"] ["book"] (NdefX.NF.of stC "number_for" q cl c').scope := NdefX.nscope_by (show NdefX.nscB ["term", "book"] ["term"] ["book"] (C8.fnScope stC) = true by decide +kernel)
theorem nok_count (T : Txt K mg) {f : Addr} {q : Str} {cl : List (Str × Addr)} {c' : Addr} : NdefX.NOk P w K mg base CX0 4 f (NdefX.NF.of stC "number_for" q cl c') ["term"] ["book"] spC := by
  refine NdefX.nok_of (N := ["term", "book"]) scC (fun doc pm ctv us hu => ?_) (fun ws vs H Q E h => ?_) (fun A outer s H vs ws Q E hr hf hc hl h => ?_)
  · obtain ⟨u, rfl⟩ := List.length_eq_one_iff.mp hu; rfl
  · obtain ⟨a, b, t, kv, _, rfl, _⟩ := h; rfl
  obtain ⟨a, b, t, kv, rfl, rfl, ha, ht, hb, hl, q1, q2⟩ := h
  refine ⟨_, PSs.nox (pss_cons (ps_if (pt_not (pt_val (pe_cl (ok_term T) hr (pa_cons (pv 0) pa_nil)))) (pss_one ps_never) pss_nil)
    (pss_one (ps_ret (pe_dsetdT (ru hr) (pv 1) (pv 0) (pe_callB call_len_dT (by rfl) T.b_len PySem.boot_len (pa_cons (pv 1) pa_nil)) ⟨by rfl, by rfl, by rfl, by rfl⟩)))), ?_⟩
  refine ⟨_, rfl, a, t, rfl, ha, ht, _, rfl, iteF ?_⟩
  exact ⟨_, rfl, b, rfl, .inr ⟨kv, .inl hb⟩, _, rfl, _, rfl, b, kv, rfl, hb, kv, t, a, hb, rfl, ha, hl, q1, q2⟩
def spP (ws : List (Option V)) : Sp := fun vs H Q _ => ∃ (a kn aa : Addr) (step : Nat) (al : Option (Term × Term × Addr)) (t : List Key) (kv : KVs), ws = [some (.ref kn), some (.ref aa), some (.int (step : Int))] ∧ vs = [.ref a] ∧ H a = some (.tup (kVs t)) ∧
  H kn = some (.dT kv) ∧ H aa = some (.dT (alV al)) ∧ (∀ n o oa, al = some (n, o, oa) → H oa = some (.tup (kVs o))) ∧ step ≤ 9 ∧ kv.length < sizeLine ∧ (∀ v, valV kv (tgt al t) = some v → Q v H) ∧
  (valV kv (tgt al t) = none → Q (.int ((step * kv.length + 5 : Nat) : Int)) (upd H kn (.dT (putK kv (tgt al t) (.int ((step * kv.length + 5 : Nat) : Int))))))
theorem scP {q : Str} {cl : List (Str × Addr)} {c' : Addr} : NdefX.NScope ["_law_term_here", "_law_known", "_law_alias", "_law_step"] ["_law_term_here"] ["_law_known", "_law_alias", "_law_step"] (NdefX.NF.of stP "_law_stamp" q cl c').scope := NdefX.nscope_by (show NdefX.nscB ["_law_term_here", "_law_known", "_law_alias", "_law_step"] ["_law_term_here"] ["_law_known", "_law_alias", "_law_step"] (C8.fnScope stP) = true by decide +kernel)
theorem nok_plant (T : Txt K mg) {f : Addr} {q : Str} {cl : List (Str × Addr)} {c' : Addr} : NdefX.NOk P w K mg base CX0 1 f (NdefX.NF.of stP "_law_stamp" q cl c') ["_law_term_here"] ["_law_known", "_law_alias", "_law_step"] spP := by
  refine NdefX.nok_of (N := ["_law_term_here", "_law_known", "_law_alias", "_law_step"]) scP (fun doc pm ctv us hu => ?_) (fun ws vs H Q E h => ?_) (fun A outer s H vs ws Q E hr hf hc hl h => ?_)
  · obtain ⟨u, rfl⟩ := List.length_eq_one_iff.mp hu; rfl
  · obtain ⟨a, kn, aa, step, al, t, kv, _, rfl, _⟩ := h; rfl
  obtain ⟨a, kn, aa, step, al, t, kv, rfl, rfl, ha, hk, haa, hal, h9, hl, q1, q2⟩ := h
  refine ⟨_, PSs.nox (pss_one (ps_ret (pe_dsetdT (ru hr) (pv 1) (pe_dget2 (ru hr) (pv 2) (pv 0) (pv 0) ⟨by rfl, by rfl, by rfl, by rfl⟩)
    (pe_op op_add (pe_op op_mul (pv 3) (pe_callB call_len_dT (by rfl) T.b_len PySem.boot_len (pa_cons (pv 1) pa_nil))) pe_int) ⟨by rfl, by rfl, by rfl, by rfl⟩))), ?_⟩
  have e1 : ((step : Int) * ((kv.length : Nat) : Int) + 5) = ((step * kv.length + 5 : Nat) : Int) := by simp
  refine ⟨_, rfl, kn, rfl, .inr ⟨kv, .inl hk⟩, _, rfl, aa, rfl, .inr ⟨_, .inl haa⟩, _, rfl, _, rfl, valV (alV al) t, DGet.t haa ha, _, rfl, _, rfl, kn, kv, rfl, hk, _, _, rfl, rfl, .inl ⟨by omega, by omega⟩, _, _, rfl, rfl, ?_⟩
  dsimp only
  rw [e1]
  cases al with
  | none => exact ⟨kv, t, a, hk, rfl, ha, hl, q1, q2⟩
  | some p =>
    obtain ⟨n, o, oa⟩ := p
    have ho := hal n o oa rfl
    by_cases e : t = n
    · have e2 : valV (alV (some (n, o, oa))) t = some (.ref oa) := valV_pos e.symm
      have e3 : tgt (some (n, o, oa)) t = o := if_pos e
      rw [e3] at q1 q2
      rw [e2]
      exact ⟨kv, o, oa, hk, rfl, ho, hl, q1, q2⟩
    · have e2 : valV (alV (some (n, o, oa))) t = none := valV_neg fun z => e z.symm
      have e3 : tgt (some (n, o, oa)) t = t := if_neg e
      rw [e3] at q1 q2
      rw [e2]
      exact ⟨kv, t, a, hk, rfl, ha, hl, q1, q2⟩
end
end Rs
set_option Elab.async false
set_option linter.all false
set_option maxRecDepth 100000
set_option maxHeartbeats 4000000
/-! Rootstamp: a stamper called, whichever it is. -/
namespace Rs
open PySem PySem.Spec PyProof.Rows L2
section
variable {P : Program} {w : World} {K : PySem.W.Frag} {mg : Str → Option Value} {base : Heap}
theorem del_tup {L : List (Addr × V)} {H : Hp} (c : CellsIn L H) {a : Addr} {xs : List V} (e : H a = some (.tup xs)) : delC L H a = some (.tup xs) := by
  rw [delC_none (c.out e fun v z => by unfold CellO at z; cases z)]; exact e
theorem del_dT {L : List (Addr × V)} {H : Hp} (c : CellsIn L H) {a : Addr} {xs : KVs} (e : H a = some (.dT xs)) : delC L H a = some (.dT xs) := by
  rw [delC_none (c.out e fun v z => by unfold CellO at z; cases z)]; exact e
theorem out_dT {L : List (Addr × V)} {H : Hp} (c : CellsIn L H) {a : Addr} {xs : KVs} (e : H a = some (.dT xs)) : L.lookup a = none := c.out e fun v z => by unfold CellO at z; cases z
theorem small_sz {n : Nat} (h : n ≤ 10000000) : n < sizeLine := by rw [sizeLine_eq]; omega
theorem st_run (T : Txt K mg) {k : Kd} {kv : KVs} {f a : Addr} {t : Term} {A : Around} {outer : List Env} {s : Shared} {H : Hp} {us : List Value} {Q : VK} {E : XK} (hs : StAt k kv f H) (g : Good k kv) (hl : kv.length ≤ 10000000) (ha : H a = some (.tup (kVs t))) (ok : OkT t) (hr : Room 5 A)
    (e0 : Env0 P w K mg base A outer s H) (r : Vals [.ref a] us)
    (q : ∀ (s' : Key) (kv' : KVs) (H' : Hp), StAt k kv' f H' → Good k kv' → kv'.length ≤ kv.length + 1 → LeT (told k kv) (told k kv') → told k kv' t s' → Kp H H' → Q (kV s') H') :
    codeAny (model P w) A (.call (.ref f) ⟨us, []⟩) (CR CX0 outer P w H s Q E) s := by
  cases k with
  | weak m =>
    obtain ⟨qn, cl, c', L, h1, h2, h3⟩ := id hs
    refine run_cells (nok_weak T) (hr.mono (by decide)) e0 h1 h2 h3.c h3.len h3.all h3.inj h3.has r ⟨a, t, m, rfl, rfl, del_tup h3.c ha, ok, g.1, ?_⟩
    dsimp only
    rw [add_del h3.c]
    exact q (.inl (weakT t % m)) kv H hs g (by omega) (fun _ _ h => h) rfl (Kp.refl H)
  | writing =>
    obtain ⟨qn, c', h1, h2⟩ := id hs
    refine lam_run (k := 4) (N := ["term"]) (ps := ["term"]) (vs := [.ref a]) (te := tCl spWrit (tCons (tVar 0) tNil)) (NdefX.nscope_by (show NdefX.nscB ["term"] ["term"] [] (lamS (lamOf retL)) = true by decide +kernel)) rfl (fun pm ctv us hu => ?_) rfl (hr.mono (by decide)) e0 h1 h2 r (fun hr => PE.nox (pe_cl (ok_writ T) hr (pa_cons (pv 0) pa_nil))) ?_
    · obtain ⟨u, rfl⟩ := List.length_eq_one_iff.mp hu; rfl
    · exact ⟨_, rfl, a, t, rfl, ha, ok, fun H' sm => q (.inr (wr t)) kv H' (hs.tr (Tr.same sm)) g (by omega) (fun _ _ h => h) ⟨ok, rfl⟩ (Kp.of sm)⟩
  | counting b =>
    obtain ⟨qn, cl, c', L, h1, h2, h3, h4⟩ := id hs
    refine run_cells (nok_count T) (hr.mono (by decide)) e0 h1 h2 h3.c h3.len h3.all h3.inj h3.has r ⟨a, b, t, kv, rfl, rfl, del_tup h3.c ha, ok, del_dT h3.c h4, small_sz hl, fun v hv => ?_, fun hn => ?_⟩
    · dsimp only
      rw [add_del h3.c]
      obtain ⟨i, hi⟩ := valV_mem hv
      have e1 : v = .int ((1 * i + 0 : Nat) : Int) := g i _ hi
      subst e1
      exact q (.inl _) kv H hs g (by omega) (fun _ _ h => h) hv (Kp.refl H)
    · dsimp only
      rw [add_upd h3.c (out_dT h3.c h4)]
      have kp : Kp H (upd H b (.dT (putK kv t (.int (kv.length : Nat))))) := Kp.dT h4 _
      have g2 : cnt 1 0 (putK kv t (.int (kv.length : Nat))) := by
        have := cnt_put (step := 1) (c := 0) g hn
        rw [show ((1 * kv.length + 0 : Nat)) = kv.length by omega] at this
        exact this
      exact q (.inl (kv.length : Nat)) (putK kv t (.int (kv.length : Nat))) _ ⟨qn, cl, c', L, kp.fn h1, kp.co h2, h3.kp kp, upd_same⟩ g2 (length_putK kv t _) (fun u s' hu => told_put hn hu)
        (show valV _ t = _ by rw [valV_put, if_pos rfl]; rfl) kp
  | planted kn aa step al =>
    obtain ⟨qn, cl, c', L, h1, h2, h3, h4, h5, h6, h7⟩ := id hs
    refine run_cells (nok_plant T) (hr.mono (by decide)) e0 h1 h2 h3.c h3.len h3.all h3.inj h3.has r ⟨a, kn, aa, step, al, t, kv, rfl, rfl, del_tup h3.c ha, del_dT h3.c h4, del_dT h3.c h5, fun n o oa e => del_tup h3.c (h7 n o oa e), g.2.1, small_sz hl, fun v hv => ?_, fun hn => ?_⟩
    · dsimp only
      rw [add_del h3.c]
      obtain ⟨i, hi⟩ := valV_mem hv
      have e1 : v = .int ((step * i + 5 : Nat) : Int) := g.2.2 i _ hi
      subst e1
      exact q (.inl _) kv H hs g (by omega) (fun _ _ h => h) hv (Kp.refl H)
    · dsimp only
      rw [add_upd h3.c (out_dT h3.c h4)]
      have kp : Kp H (upd H kn (.dT (putK kv (tgt al t) (.int ((step * kv.length + 5 : Nat) : Int))))) := Kp.dT h4 _
      exact q (.inl ((step * kv.length + 5 : Nat) : Int)) (putK kv (tgt al t) (.int ((step * kv.length + 5 : Nat) : Int))) _ ⟨qn, cl, c', L, kp.fn h1, kp.co h2, h3.kp kp, upd_same, by rw [upd_ne (fun z => h6 z.symm)]; exact h5, h6, fun n o oa e => kp.tup (h7 n o oa e)⟩
        ⟨g.1, g.2.1, cnt_put g.2.2 hn⟩ (length_putK kv _ _) (fun u s' hu => told_put hn hu) (show valV _ (tgt al t) = _ by rw [valV_put, if_pos rfl]; rfl) kp
/-- at f a stamper of the kind k that has told T, with room for r more -/
def SA (k : Kd) (f : Addr) (T : TR) (r : Nat) (H : Hp) : Prop := ∃ kv, StAt k kv f H ∧ Good k kv ∧ T = told k kv ∧ kv.length + r ≤ 9000000
theorem SA.tr {k : Kd} {f : Addr} {T : TR} {r : Nat} {H H' : Hp} (h : SA k f T r H) (t : Tr H H') : SA k f T r H' := by
  obtain ⟨kv, a, b, c, d⟩ := h
  exact ⟨kv, a.tr t, b, c, d⟩
theorem SA.same {k : Kd} {f : Addr} {T : TR} {r : Nat} {H H' : Hp} (h : SA k f T r H) (t : Same H H') : SA k f T r H' := h.tr (Tr.same t)
theorem SA.new {k : Kd} {f : Addr} {T : TR} {r : Nat} {H : Hp} (h : SA k f T r H) {p : Addr} (n : H p = none) (o : HO) : SA k f T r (upd H p o) := h.tr (Tr.new n o)
theorem SA.lst {k : Kd} {f : Addr} {T : TR} {r : Nat} {H : Hp} (h : SA k f T r H) {p : Addr} {xs : List V} (n : H p = some (.lst xs)) (o : HO) : SA k f T r (upd H p o) := h.tr (Tr.lst n o)
theorem SA.dK {k : Kd} {f : Addr} {T : TR} {r : Nat} {H : Hp} (h : SA k f T r H) {p : Addr} {xs : List (Key × V)} (n : H p = some (.dK xs)) (o : HO) : SA k f T r (upd H p o) := h.tr (Tr.dK n o)
theorem SA.le {k : Kd} {f : Addr} {T : TR} {r r' : Nat} {H : Hp} (h : SA k f T r H) (l : r' ≤ r) : SA k f T r' H := by
  obtain ⟨kv, a, b, c, d⟩ := h
  exact ⟨kv, a, b, c, by omega⟩
theorem SA.fnT {k : Kd} {f : Addr} {T : TR} {r : Nat} {H : Hp} (h : SA k f T r H) : Fn T := by
  obtain ⟨kv, a, b, rfl, d⟩ := h
  exact told_fn
theorem SA.vd {k : Kd} {f : Addr} {T : TR} {r : Nat} {H : Hp} (h : SA k f T r H) : Vd T := by
  obtain ⟨kv, a, b, rfl, d⟩ := h
  exact told_vd b (by omega)
theorem SA.bd {k : Kd} {f : Addr} {T : TR} {r : Nat} {H : Hp} (h : SA k f T r H) : Bd T := by
  obtain ⟨kv, a, b, rfl, d⟩ := h
  exact told_bd b
theorem SA.sure {k : Kd} {f : Addr} {T : TR} {r : Nat} {H : Hp} (h : SA k f T r H) (s : Sure k) (L : List Term) : InjOn T L := by
  obtain ⟨kv, a, b, rfl, d⟩ := h
  exact fun x _ y _ z h1 h2 => told_sure b s h1 h2
theorem fnAt_st {X : Cx} {pins : List (Addr × Obj)} {σ : L2.St} {H : Hp} {s : Shared} {k : Kd} {kv : KVs} {f : Addr} (I : Inv X pins σ H s) (h : StAt k kv f H) : PySem.W.FnAt f s.heap := by
  cases k with
  | weak m => obtain ⟨q, cl, c', L, h1, h2, h3⟩ := h; exact NdefX.fnAt_of I h1
  | writing =>
    obtain ⟨q, c', h1, h2⟩ := h
    obtain ⟨pm, ctv, z⟩ := lamO_at I.hok h1
    exact ⟨_, _, _, _, z⟩
  | counting b => obtain ⟨q, cl, c', L, h1, h2, h3, h4⟩ := h; exact NdefX.fnAt_of I h1
  | planted kn aa step al => obtain ⟨q, cl, c', L, h1, h2, h3, h4, h5, h6, h7⟩ := h; exact NdefX.fnAt_of I h1
/-- the reading of a stamper's call -/
def tSt (i : Nat) (te : TE) : TE := fun σ H Q => ∃ f, σ[i]? = some (some (.ref f)) ∧ (∃ k T r, SA k f T r H) ∧ te σ H fun x H1 => ∃ (a : Addr) (t : Term) (k : Kd) (T : TR) (r : Nat), x = .ref a ∧ H1 a = some (.tup (kVs t)) ∧ OkT t ∧ SA k f T (r + 1) H1 ∧
  ∀ (s' : Key) (T' : TR) (H2 : Hp), SA k f T' r H2 → LeT T T' → T' t s' → Kp H1 H2 → Q (kV s') H2
theorem pe_st {X : Cx} {i j : Nat} {x : Str} {p pos : Pos} {e : Expr} {te : TE} (TX : Txt X.K X.mg) (hr : Room j X.A) (he : PE X e te) (hj : 5 ≤ j := by decide) (hN : X.N[i]? = some x := by rfl)
    (hv : Vis X.env.scope x := by first | exact Or.inl rfl | exact Or.inr (Or.inl rfl) | exact Or.inr (Or.inr rfl)) (hd : (x == ("__debug__" : Str)) = false := by decide) (hcd : (x == ("__classdict__" : Str)) = false := by decide)
    (hst : starEach [e] X.env = (false, eval e X.env) :: starEach [] X.env := by rfl) (hpl : (backTo pos (starEach [] X.env)).any (·.1) = false := by rfl) : PE X (.Call (.Name x p) [e] [] pos) (tSt i te) := by
  refine ⟨fun pins s σ H Q I h => ?_⟩
  obtain ⟨f, hs, ⟨k0, T0, r0, kv0, st0, _⟩, ht⟩ := h
  refine wpAny_Call_Name_kw (thn ((pe_var (pos := p) hN hv hd hcd).run pins s σ H (fun v H1 => v = .ref f ∧ H1 = H) I ⟨.ref f, hs, rfl, rfl⟩) fun u s1 ⟨v, H1, I1, r1, q1⟩ => ?_)
  obtain ⟨ev, eH⟩ := q1
  subst ev
  rw [eH] at I1
  obtain rfl : u = Value.ref f := r1
  have ha : PA X [e] (tCons te tNil) := pa_cons he pa_nil hst
  refine PySem.W.callWith_F (first := []) (fnAt_st I1 st0) (thn (ha.run pos pins s1 σ H (fun vs H2 => match vs with
    | [x] => ∃ (a : Addr) (t : Term) (k : Kd) (T : TR) (r : Nat), x = .ref a ∧ H2 a = some (.tup (kVs t)) ∧ OkT t ∧ SA k f T (r + 1) H2 ∧ ∀ (s' : Key) (T' : TR) (H3 : Hp), SA k f T' r H3 → LeT T T' → T' t s' → Kp H2 H3 → Q (kV s') H3
    | _ => False) I1 ht) fun us s2 ⟨vs, H2, I2, r, z⟩ => ?_) hst hpl
  match vs, z with
  | [x], z =>
  obtain ⟨a, t, k, T, r3, e2, e3, e4, ⟨kv, st, g, eT, hl⟩, q⟩ := z
  refine ⟨?_, ?_⟩
  · exact fnAt_st I2 st
  · subst e2 eT
    show wpAny _ _ (call (.ref f) us) _ _ _
    refine wpAny_call (codeAny_mono (st_run (E := fun _ _ _ => False) TX st g (by omega) e3 e4 (hr.mono hj) I2.env0 r fun s' kv' H' a1 a2 a3 a4 a5 a6 => q s' (told k kv') H' ⟨kv', a1, a2, rfl, by omega⟩ a4 a5 a6) fun r s' hq => ?_)
    cases r with
    | error e => exact (show False from hq).elim
    | ok fl =>
      cases fl with
      | ret u => exact I2.after hq
      | next => exact False.elim hq
      | brk => exact False.elim hq
      | cont => exact False.elim hq
end
end Rs
set_option Elab.async false
set_option linter.all false
set_option maxRecDepth 100000
set_option maxHeartbeats 4000000
/-! Rootstamp, the four makers. -/
namespace Rs
open PySem PySem.Spec PyProof.Rows L2
def lay (val : Str → V) (cl : List (Str × Addr)) : List (Addr × V) := cl.map fun p => (p.2, val p.1)
theorem memA : ∀ {l : List (Addr × V)} {a : Addr} {v : V}, l.lookup a = some v → (a, v) ∈ l
  | [], _, _, h => nomatch h
  | (b, u) :: l, a, v, h => by
    rw [List.lookup_cons] at h
    by_cases e : a = b
    · subst e
      simp at h
      subst h
      exact List.mem_cons_self ..
    · have : (a == b) = false := beq_eq_false_iff_ne.mpr e
      rw [this] at h
      exact List.mem_cons_of_mem _ (memA h)
theorem lay_in {val : Str → V} {cl : List (Str × Addr)} {a : Addr} {v : V} (h : (lay val cl).lookup a = some v) : ∃ y, (y, a) ∈ cl ∧ v = val y := by
  obtain ⟨p, hp, e⟩ := List.mem_map.mp (memA h)
  cases e
  exact ⟨p.1, hp, rfl⟩
theorem lay_at {val : Str → V} : ∀ {cl : List (Str × Addr)} {y : Str} {a : Addr}, (cl.map (·.2)).Nodup → (y, a) ∈ cl → (lay val cl).lookup a = some (val y)
  | [], _, _, _, h => nomatch h
  | (z, b) :: cl, y, a, nd, h => by
    have nd2 := List.nodup_cons.mp nd
    rcases List.mem_cons.mp h with e | h
    · injection e with e1 e2
      subst e1 e2
      show List.lookup a ((a, val y) :: lay val cl) = _
      rw [List.lookup_cons]
      simp
    · have hb : a ≠ b := fun e => nd2.1 (by rw [← e]; exact List.mem_map.mpr ⟨(y, a), h, rfl⟩)
      show List.lookup a ((b, val z) :: lay val cl) = _
      rw [List.lookup_cons]
      have : (a == b) = false := beq_eq_false_iff_ne.mpr hb
      rw [this]
      exact lay_at nd2.2 h
theorem nodup_addr : ∀ {cl : List (Str × Addr)} {x y : Str} {a : Addr}, (cl.map (·.2)).Nodup → (x, a) ∈ cl → (y, a) ∈ cl → x = y
  | [], _, _, _, _, h, _ => nomatch h
  | (z, b) :: cl, x, y, a, nd, h1, h2 => by
    have nd2 := List.nodup_cons.mp nd
    have out : ∀ {u : Str}, (u, b) ∉ cl := fun hu => nd2.1 (List.mem_map.mpr ⟨_, hu, rfl⟩)
    rcases List.mem_cons.mp h1 with e1 | h1 <;> rcases List.mem_cons.mp h2 with e2 | h2
    · cases e1; cases e2; rfl
    · cases e1; exact (out h2).elim
    · cases e2; exact (out h1).elim
    · exact nodup_addr nd2.2 h1 h2
theorem CloAt.of {val : Str → V} {cl : List (Str × Addr)} {fr : List Str} {H : Hp} (nd : (cl.map (·.2)).Nodup) (hfr : ∀ y ∈ fr, ∃ a, cl.lookup y = some a) : CloAt cl fr (fr.map fun y => some (val y)) (lay val cl) (addC (lay val cl) H) := by
  refine ⟨fun a v e => addC_some e, List.length_map _, fun y a e => ⟨_, lay_at nd (PySem.mem_of_lookup e)⟩, fun x y a e1 e2 => nodup_addr nd (PySem.mem_of_lookup e1) (PySem.mem_of_lookup e2), fun i y e => ?_⟩
  obtain ⟨a, ha⟩ := hfr y (List.mem_of_getElem? e)
  refine ⟨a, ha, fun v ev => ?_⟩
  rw [List.getElem?_map, e] at ev
  cases ev
  exact lay_at nd (PySem.mem_of_lookup ha)
theorem add_keep {val : Str → V} {cl : List (Str × Addr)} {H : Hp} {b : Addr} {o : HO} (fr : ∀ p ∈ cl, H p.2 = none) (e : H b = some o) : addC (lay val cl) H b = some o := by
  cases z : (lay val cl).lookup b with
  | none => rw [addC_none z]; exact e
  | some v =>
    obtain ⟨y, hy, _⟩ := lay_in z
    rw [fr _ hy] at e
    cases e
section
variable {P : Program} {w : World} {K : PySem.W.Frag} {mg : Str → Option Value} {base : Heap} {Pw Pc Pk Pp : Addr}
def spMW (Pk : Addr) : Sp := fun vs H Q _ => ∃ m : Nat, vs = [.int (m : Int)] ∧ H Pk = some (.tbl #[]) ∧ ∀ (f : Addr) (H' : Hp), LamX.ExtN H H' → StAt (.weak m) [] f H' → Q (.ref f) H'
theorem scMW : FnScope ["_law_many", "_law_stamp"] ["_law_many"] (defScope (top 39)) := ⟨rfl, rfl, rfl, by decide +kernel, rfl, by decide +kernel, by decide +kernel⟩
theorem ok_mweak (M : Dm K mg base "_law_weak" 39 ["_law_many"] Pk) : Pr P w K mg base 1 "_law_weak" ["_law_many"] (spMW Pk) := by
  obtain ⟨f, c, oc, od, kV, doc, pm, an, ct, osl, lk, hcd, hk, hm, hb, TB⟩ := M.ex
  refine ⟨f, _, fn_leave (k := 0) (N := ["_law_many", "_law_stamp"]) (ps := ["_law_many"]) lk hcd scMW (fun vs H Q E h => ?_) (fun A outer s H vs Q E hr h s1 I => ?_), hm, hk, hb⟩
  · obtain ⟨m, rfl, _⟩ := h; rfl
  obtain ⟨m, rfl, hP, q⟩ := h
  refine leave2 (X := cxOf CX0 P w K mg base ["_law_many", "_law_stamp"] "_law_weak" (defScope (top 39)) f (.ref c) A outer s H E) (i := 1)
    (NdefX.ps_ndefS (st := stW) (T := [(Pk, fun _ _ => (envOfC "_law_weak" (defScope (top 39)) s.heap.objs.size f (.ref c)).qual ++ "_law_stamp")]) (c := c) (P := Pk) (name := "_law_stamp") (i := 1) (by rfl) TB rfl (List.mem_singleton.mpr rfl) rfl
      (fun p hp _ => by rw [List.mem_singleton.mp hp]) (NdefX.ndef_free (fr := ["_law_many"]) (show NdefX.ndefB (defScope (top 39)) (C8.fnScope stW) ["_law_many"] = true by decide +kernel)) rfl rfl rfl scMW.nd rfl (.inl rfl) (.inr rfl)) rfl (Or.inl rfl) I ?_
  refine ⟨fun p hp => ?_, fun g c' H1 ext _ hg h1 h2 => ?_⟩
  · rw [List.mem_singleton.mp hp]; exact NdefX.TabN.nil hP
  refine ⟨.ref g, rfl, fun hfree => ?_⟩
  have ecl : cloFrom (cxOf CX0 P w K mg base ["_law_many", "_law_stamp"] "_law_weak" (defScope (top 39)) f (.ref c) A outer s H E).env.cells (C8.fnScope stW).names [] = [(("_law_many" : Str), s.heap.objs.size + 1)] := by rfl
  have fr : ∀ p ∈ [(("_law_many" : Str), s.heap.objs.size + 1)], H1 p.2 = none := fun p hp => by
    rw [List.mem_singleton.mp hp]
    exact hfree "_law_many" _ (by rfl)
  refine ⟨lay (fun _ => .int (m : Int)) [(("_law_many" : Str), s.heap.objs.size + 1)], fun a v e => ?_, q g _ (fun b o e n => add_keep fr (ext b o e n)) ?_⟩
  · obtain ⟨y, hy, rfl⟩ := lay_in e
    cases List.mem_singleton.mp hy
    exact ⟨"_law_many", 0, by rfl, rfl, rfl, rfl⟩
  · rw [ecl] at h1
    refine ⟨_, _, c', _, add_keep fr h1, add_keep fr h2, CloAt.of (val := fun _ => .int (m : Int)) (by simp) fun y hy => ?_⟩
    cases List.mem_singleton.mp hy
    exact ⟨_, rfl⟩
/-! counting -/
def spMC (Pc : Addr) : Sp := fun vs H Q _ => vs = [] ∧ H Pc = some (.tbl #[]) ∧ ∀ (f b : Addr) (H' : Hp), LamX.ExtN H H' → StAt (.counting b) [] f H' → Q (.ref f) H'
theorem scMC : FnScope ["book", "number_for"] [] (defScope (top 32)) := ⟨rfl, rfl, rfl, by decide +kernel, rfl, by decide +kernel, by decide +kernel⟩
theorem ok_mcount (M : Dm K mg base "counting" 32 [] Pc) : Pr P w K mg base 1 "counting" [] (spMC Pc) := by
  obtain ⟨f, c, oc, od, kV, doc, pm, an, ct, osl, lk, hcd, hk, hm, hb, TB⟩ := M.ex
  refine ⟨f, _, fn_leave (k := 0) (N := ["book", "number_for"]) (ps := []) lk hcd scMC (fun vs H Q E h => ?_) (fun A outer s H vs Q E hr h s1 I => ?_), hm, hk, hb⟩
  · obtain ⟨rfl, _⟩ := h; rfl
  obtain ⟨rfl, hP, q⟩ := h
  refine leave3 (X := (cxOf CX0 P w K mg base ["book", "number_for"] "counting" (defScope (top 32)) f (.ref c) A outer s H E)) (i := 1) (ps_set (i := 0) scMC.nd rfl (Or.inr rfl) pe_dnewT)
    (NdefX.ps_ndefS (st := stC) (T := [(Pc, fun _ _ => (cxOf CX0 P w K mg base ["book", "number_for"] "counting" (defScope (top 32)) f (.ref c) A outer s H E).env.qual ++ "number_for")]) (c := c) (P := Pc) (name := "number_for") (i := 1) (by rfl) TB rfl (List.mem_singleton.mpr rfl) rfl
      (fun p hp _ => by rw [List.mem_singleton.mp hp]) (NdefX.ndef_free (fr := ["book"]) (show NdefX.ndefB (defScope (top 32)) (C8.fnScope stC) ["book"] = true by decide +kernel)) rfl rfl rfl scMC.nd rfl (.inl rfl) (.inr rfl)) rfl (Or.inl rfl) I ?_
  refine fun b hb => ⟨fun p hp => ?_, fun g c' H1 ext _ hg h1 h2 => ?_⟩
  · rw [List.mem_singleton.mp hp]
    exact NdefX.TabN.nil (by rw [upd_ne (ne_of_none hP hb)]; exact hP)
  refine ⟨.ref g, rfl, fun hfree => ?_⟩
  have ecl : cloFrom (cxOf CX0 P w K mg base ["book", "number_for"] "counting" (defScope (top 32)) f (.ref c) A outer s H E).env.cells (C8.fnScope stC).names [] = [(("book" : Str), s.heap.objs.size + 1)] := by rfl
  have fr : ∀ p ∈ [(("book" : Str), s.heap.objs.size + 1)], H1 p.2 = none := fun p hp => by
    rw [List.mem_singleton.mp hp]
    exact hfree "book" _ (by rfl)
  refine ⟨lay (fun _ => .ref b) [(("book" : Str), s.heap.objs.size + 1)], fun a v e => ?_, q g b _ (fun b' o e n => add_keep fr (ext b' o (by rw [upd_ne (ne_of_none e hb)]; exact e) n)) ?_⟩
  · obtain ⟨y, hy, rfl⟩ := lay_in e
    cases List.mem_singleton.mp hy
    exact ⟨"book", 0, by rfl, rfl, rfl, rfl⟩
  · rw [ecl] at h1
    refine ⟨_, _, c', _, add_keep fr h1, add_keep fr h2, CloAt.of (val := fun _ => .ref b) (by simp) fun y hy => ?_, add_keep fr (ext b _ upd_same (fun ps z => nomatch z))⟩
    cases List.mem_singleton.mp hy
    exact ⟨_, rfl⟩
/-! _law_planted -/
def spMP (Pp : Addr) : Sp := fun vs H Q _ => ∃ (kn aa : Addr) (step : Nat), vs = [.ref kn, .ref aa, .int (step : Int)] ∧ H Pp = some (.tbl #[]) ∧ H kn = some (.dT []) ∧ H aa = some (.dT []) ∧ kn ≠ aa ∧ ∀ (f : Addr) (H' : Hp), LamX.ExtN H H' → StAt (.planted kn aa step none) [] f H' → Q (.ref f) H'
theorem scMP : FnScope ["_law_known", "_law_alias", "_law_step", "_law_stamp"] ["_law_known", "_law_alias", "_law_step"] (defScope (top 40)) := ⟨rfl, rfl, rfl, by decide +kernel, rfl, by decide +kernel, by decide +kernel⟩
def valP (kn aa : Addr) (step : Nat) (y : Str) : V := if y = "_law_known" then .ref kn else if y = "_law_alias" then .ref aa else .int (step : Int)
theorem ok_mplant (M : Dm K mg base "_law_planted" 40 ["_law_known", "_law_alias", "_law_step"] Pp) : Pr P w K mg base 1 "_law_planted" ["_law_known", "_law_alias", "_law_step"] (spMP Pp) := by
  obtain ⟨f, c, oc, od, kV, doc, pm, an, ct, osl, lk, hcd, hk, hm, hb, TB⟩ := M.ex
  refine ⟨f, _, fn_leave (k := 0) (N := ["_law_known", "_law_alias", "_law_step", "_law_stamp"]) (ps := ["_law_known", "_law_alias", "_law_step"]) lk hcd scMP (fun vs H Q E h => ?_) (fun A outer s H vs Q E hr h s1 I => ?_), hm, hk, hb⟩
  · obtain ⟨kn, aa, m, rfl, _⟩ := h; rfl
  obtain ⟨kn, aa, step, rfl, hP, hkn, haa, hne, q⟩ := h
  refine leave2 (X := (cxOf CX0 P w K mg base ["_law_known", "_law_alias", "_law_step", "_law_stamp"] "_law_planted" (defScope (top 40)) f (.ref c) A outer s H E)) (i := 3)
    (NdefX.ps_ndefS (st := stP) (T := [(Pp, fun _ _ => (cxOf CX0 P w K mg base ["_law_known", "_law_alias", "_law_step", "_law_stamp"] "_law_planted" (defScope (top 40)) f (.ref c) A outer s H E).env.qual ++ "_law_stamp")]) (c := c) (P := Pp) (name := "_law_stamp") (i := 3) (by rfl) TB rfl (List.mem_singleton.mpr rfl) rfl
      (fun p hp _ => by rw [List.mem_singleton.mp hp]) (NdefX.ndef_free (fr := ["_law_known", "_law_alias", "_law_step"]) (show NdefX.ndefB (defScope (top 40)) (C8.fnScope stP) ["_law_known", "_law_alias", "_law_step"] = true by decide +kernel)) rfl rfl rfl scMP.nd rfl (.inl rfl) (.inr rfl)) rfl (Or.inl rfl) I ?_
  refine ⟨fun p hp => ?_, fun g c' H1 ext _ hg h1 h2 => ?_⟩
  · rw [List.mem_singleton.mp hp]; exact NdefX.TabN.nil hP
  refine ⟨.ref g, rfl, fun hfree => ?_⟩
  have ecl : cloFrom (cxOf CX0 P w K mg base ["_law_known", "_law_alias", "_law_step", "_law_stamp"] "_law_planted" (defScope (top 40)) f (.ref c) A outer s H E).env.cells (C8.fnScope stP).names [] = [(("_law_step" : Str), s.heap.objs.size + 1 + 1 + 1), ("_law_known", s.heap.objs.size + 1), ("_law_alias", s.heap.objs.size + 1 + 1)] := by rfl
  have fr : ∀ p ∈ [(("_law_step" : Str), s.heap.objs.size + 1 + 1 + 1), ("_law_known", s.heap.objs.size + 1), ("_law_alias", s.heap.objs.size + 1 + 1)], H1 p.2 = none := fun p hp => by
    rcases List.mem_cons.mp hp with e | hp
    · rw [e]; exact hfree "_law_step" _ (by rfl)
    · rcases List.mem_cons.mp hp with e | hp
      · rw [e]; exact hfree "_law_known" _ (by rfl)
      · rw [List.mem_singleton.mp hp]; exact hfree "_law_alias" _ (by rfl)
  refine ⟨lay (valP kn aa step) [(("_law_step" : Str), s.heap.objs.size + 1 + 1 + 1), ("_law_known", s.heap.objs.size + 1), ("_law_alias", s.heap.objs.size + 1 + 1)], fun a v e => ?_, q g _ (fun b o e n => add_keep fr (ext b o e n)) ?_⟩
  · obtain ⟨y, hy, rfl⟩ := lay_in e
    rcases List.mem_cons.mp hy with e | hy
    · cases e; exact ⟨"_law_step", 2, by rfl, rfl, rfl, rfl⟩
    · rcases List.mem_cons.mp hy with e | hy
      · cases e; exact ⟨"_law_known", 0, by rfl, rfl, rfl, rfl⟩
      · cases List.mem_singleton.mp hy; exact ⟨"_law_alias", 1, by rfl, rfl, rfl, rfl⟩
  · rw [ecl] at h1
    refine ⟨_, _, c', _, add_keep fr h1, add_keep fr h2, CloAt.of (val := valP kn aa step) (fr := ["_law_known", "_law_alias", "_law_step"]) (by simp; omega) fun y hy => ?_, add_keep fr (ext _ _ hkn (fun ps z => nomatch z)), add_keep fr (ext _ _ haa (fun ps z => nomatch z)), hne, fun n o oa z => nomatch z⟩
    rcases List.mem_cons.mp hy with e | hy
    · rw [e]; exact ⟨_, rfl⟩
    · rcases List.mem_cons.mp hy with e | hy
      · rw [e]; exact ⟨_, rfl⟩
      · rw [List.mem_singleton.mp hy]; exact ⟨_, rfl⟩
/-! writing -/
def spMX (Px : Addr) : Sp := fun vs H Q _ => vs = [] ∧ H Px = some (.tbl #[]) ∧ ∀ (f : Addr) (H' : Hp), LamX.ExtN H H' → StAt .writing [] f H' → Q (.ref f) H'
theorem scMX : FnScope [] [] (defScope (top 31)) := ⟨rfl, rfl, rfl, by decide +kernel, rfl, by decide +kernel, by decide +kernel⟩
theorem ok_mwrit (M : Dm K mg base "writing" 31 [] Pw) : Pr P w K mg base 1 "writing" [] (spMX Pw) := by
  obtain ⟨f, c, oc, od, kV, doc, pm, an, ct, osl, lk, hcd, hk, hm, hb, TB⟩ := M.ex
  refine ⟨f, _, fn_of (k := 0) (N := []) (ps := []) lk hcd scMX (fun vs H Q E h => ?_) (fun A outer s H vs Q E hr h => ?_), hm, hk, hb⟩
  · obtain ⟨rfl, _⟩ := h; rfl
  obtain ⟨rfl, hP, q⟩ := h
  refine ⟨_, pss_one (ps_ret (pe_lamV TB rfl rfl (NdefX.ndef_free (fr := []) (show NdefX.ndefB (defScope (top 31)) (lamS (lamOf retL)) [] = true by decide +kernel)))), ?_⟩
  exact ⟨hP, fun g c' H1 ext hg h1 h2 => q g H1 ext ⟨_, c', h1, h2⟩⟩
/-! _law_stamper -/
def spStr (Pw Pc Pk Pp : Addr) : Sp := fun vs H Q _ => ∃ (way cell : Int) (kn aa : Addr), vs = [.int way, .int cell, .ref kn, .ref aa] ∧ H Pw = some (.tbl #[]) ∧ H Pc = some (.tbl #[]) ∧ H Pk = some (.tbl #[]) ∧ H Pp = some (.tbl #[]) ∧ H kn = some (.dT []) ∧ H aa = some (.dT []) ∧ kn ≠ aa ∧
  ∀ (f : Addr) (k : Kd) (T : TR) (H' : Hp), LamX.ExtN H H' → SA k f T 8000000 H' → (way = 3 → Sure k) → (way < 2 → ∃ step, k = .planted kn aa step none) → Q (.ref f) H'
theorem scStr : FnScope ["_law_way_here", "_law_cell", "_law_known", "_law_alias"] ["_law_way_here", "_law_cell", "_law_known", "_law_alias"] (defScope (top 41)) := ⟨rfl, rfl, rfl, by decide +kernel, rfl, by decide +kernel, by decide +kernel⟩
theorem bnd9 (c : Int) : ∃ m : Nat, 1 + c % 9 = (m : Int) ∧ 1 ≤ m ∧ m ≤ 9 := ⟨(1 + c % 9).toNat, by omega, by omega, by omega⟩
theorem ok_stamper (T : Txt K mg) (M : Txm K mg base Pw Pc Pk Pp) : Pr P w K mg base 2 "_law_stamper" ["_law_way_here", "_law_cell", "_law_known", "_law_alias"] (spStr Pw Pc Pk Pp) := by
  refine T.law_stamper_.ok scStr (fun vs H Q E h => ?_) (fun f cdv A outer s H vs Q E hr h => ?_)
  · obtain ⟨_, _, _, _, rfl, _⟩ := h; rfl
  obtain ⟨way, cell, kn, aa, rfl, h1, h2, h3, h4, h5, h6, hne, q⟩ := h
  obtain ⟨m, em, hm1, hm9⟩ := bnd9 cell
  refine ⟨_, pss_cons (ps_if (pt_cmpR op_eq (pv 0) pe_int (nomark _)) (pss_one (ps_ret (pe_cl (ok_mweak M.law_weak_) (hr.mono (by decide)) (pa_cons (pe_op op_add pe_int (pe_op op_mod (pv 1) pe_int)) pa_nil)))) pss_nil)
    (pss_cons (ps_if (PW.pt (pw_and (pt_cmpR op_eq (pv 0) pe_int (nomark _)) (pw_and1 (pt_cmpR op_eq (pe_op op_mod (pv 1) pe_int) pe_int (nomark _))))) (pss_one (ps_ret (pe_cl0 (ok_mwrit M.writing_) (hr.mono (by decide))))) pss_nil)
    (pss_cons (ps_if (PW.pt (pw_and (pt_cmpR op_eq (pv 0) pe_int (nomark _)) (pw_and1 (pt_cmpR op_eq (pe_op op_mod (pv 1) pe_int) pe_int (nomark _))))) (pss_one (ps_ret (pe_cl0 (ok_mcount M.counting_) (hr.mono (by decide))))) pss_nil)
    (pss_one (ps_ret (pe_cl (ok_mplant M.law_planted_) (hr.mono (by decide)) (pa_cons (pv 2) (pa_cons (pv 3) (pa_cons (pe_op op_add pe_int (pe_op op_mod (pv 1) pe_int)) pa_nil)))))))), ?_⟩
  have fin : ∀ (g : Addr) (H' : Hp), LamX.ExtN H H' → StAt (.planted kn aa m none) [] g H' → Q (.ref g) H' := fun g H' x st =>
    q g _ _ H' x ⟨[], st, ⟨hm1, hm9, fun i p e => by simp at e⟩, rfl, by show 0 + _ ≤ _; omega⟩ (fun _ => True.intro) fun _ => ⟨m, rfl⟩
  refine ⟨_, rfl, rfl, _, rfl, ite2 (fun c => ?_) (fun c => ?_)⟩
  · have ew : way = 2 := by have := of_decide_eq_true c; injection this
    refine ⟨_, rfl, _, _, rfl, rfl, (by show (0 : Int) < 9; decide), _, _, rfl, rfl, m, ?_, h3, fun g H' x st => ?_⟩
    · show [V.int (1 + cell % 9)] = _
      rw [em]
    · exact q g _ _ H' x ⟨[], st, ⟨hm1, hm9⟩, rfl, by show 0 + _ ≤ _; omega⟩ (fun z => by omega) (fun z => by omega)
  have planted : ∃ v, [some (V.int way), some (V.int cell), some (V.ref kn), some (V.ref aa)][1]? = some (some v) ∧ v = V.int cell := ⟨_, rfl, rfl⟩
  refine ⟨_, rfl, rfl, _, rfl, ite2 (fun c3 => ?_) (fun c3 => ?_)⟩
  · have ew : way = 3 := by have := of_decide_eq_true c3; injection this
    refine ⟨_, rfl, _, _, rfl, rfl, (by show (0 : Int) < 3; decide), rfl, _, rfl, ite2 (fun c => ?_) (fun c => ?_)⟩
    · exact ⟨rfl, h1, fun g H' x st => q g _ _ H' x ⟨[], st, True.intro, rfl, by show 0 + _ ≤ _; omega⟩ (fun _ => True.intro) (fun z => by omega)⟩
    · refine ⟨_, rfl, rfl, _, rfl, ite2 (fun c4 => ?_) (fun c4 => absurd c3 c4)⟩
      refine ⟨_, rfl, _, _, rfl, rfl, (by show (0 : Int) < 3; decide), rfl, _, rfl, ite2 (fun c => ?_) (fun c => ?_)⟩
      · exact ⟨rfl, h2, fun g b H' x st => q g _ _ H' x ⟨[], st, (fun i p e => by simp at e), rfl, by show 0 + _ ≤ _; omega⟩ (fun _ => True.intro) (fun z => by omega)⟩
      · exact ⟨_, rfl, _, rfl, _, rfl, _, _, rfl, rfl, (by show (0 : Int) < 9; decide), _, _, rfl, rfl, kn, aa, m, (by show [V.ref kn, V.ref aa, V.int (1 + cell % 9)] = _; rw [em]), h4, h5, h6, hne, fin⟩
  · refine ⟨_, rfl, rfl, _, rfl, ite2 (fun c4 => absurd c4 c3) (fun c4 => ?_)⟩
    exact ⟨_, rfl, _, rfl, _, rfl, _, _, rfl, rfl, (by show (0 : Int) < 9; decide), _, _, rfl, rfl, kn, aa, m, (by show [V.ref kn, V.ref aa, V.int (1 + cell % 9)] = _; rw [em]), h4, h5, h6, hne, fin⟩
/-! _law_plant -/
def spPlant : Sp := fun vs H Q _ => ∃ (kn aa na oa f : Addr) (step r : Nat) (T : TR) (nw old : Term), vs = [.ref kn, .ref aa, .ref na, .ref oa] ∧ H na = some (.tup (kVs nw)) ∧ H oa = some (.tup (kVs old)) ∧ SA (.planted kn aa step none) f T r H ∧
  ∀ (k' : Kd) (T' : TR) (H' : Hp), SA k' f T' r H' → LeT T T' → Kp H H' → Q .non H'
theorem scPlant : FnScope ["_law_known", "_law_alias", "_law_new", "_law_old"] ["_law_known", "_law_alias", "_law_new", "_law_old"] (defScope (top 42)) := ⟨rfl, rfl, rfl, by decide +kernel, rfl, by decide +kernel, by decide +kernel⟩
theorem ok_plant (T : Txt K mg) : Pr P w K mg base 1 "_law_plant" ["_law_known", "_law_alias", "_law_new", "_law_old"] spPlant := by
  refine T.law_plant_.ok scPlant (fun vs H Q E h => ?_) (fun f cdv A outer s H vs Q E hr h => ?_)
  · obtain ⟨_, _, _, _, _, _, _, _, _, _, rfl, _⟩ := h; rfl
  obtain ⟨kn, aa, na, oa, g, step, r, T1, nw, old, rfl, hn, ho, ⟨kv, ⟨qn, cl, c', L, h1, h2, h3, h4, h5, h6, h7⟩, hg, eT, hl⟩, q⟩ := h
  refine ⟨_, pss_one (ps_if (pt_cmp (pc_dnotin (ru hr) (pv 2) (pv 0))) (pss_one (ps_dput (ru hr) (pv 1) (pv 2) (pv 3) (by rfl))) pss_nil), ?_⟩
  refine ⟨_, rfl, _, rfl, kn, _, rfl, DGet.t h4 hn, _, rfl, ?_⟩
  cases e : valV kv nw with
  | some v => exact iteF (q (.planted kn aa step none) T1 H ⟨kv, ⟨qn, cl, c', L, h1, h2, h3, h4, h5, h6, h7⟩, hg, eT, hl⟩ (fun _ _ h => h) (Kp.refl H))
  | none =>
    refine iteT ⟨_, rfl, _, rfl, _, rfl, aa, _, rfl, DPut.t h5 hn (small_sz (Nat.zero_le _)), ?_⟩
    have kp : Kp H (upd H aa (.dT (putK (alV none) nw (.ref oa)))) := Kp.dT h5 _
    refine q (.planted kn aa step (some (nw, old, oa))) (told (.planted kn aa step (some (nw, old, oa))) kv) _ ⟨kv, ⟨qn, cl, c', L, kp.fn h1, kp.co h2, h3.kp kp, by rw [upd_ne h6]; exact h4, ?_, h6, fun n o oa' e => ?_⟩, hg, rfl, hl⟩ (fun t s hs => ?_) kp
    · rw [upd_same, putK_new _ (by rfl)]; rfl
    · cases e; exact kp.tup ho
    · rw [eT] at hs
      have hs : valV kv t = some (kV s) := hs
      show valV kv (if t = nw then old else t) = _
      by_cases z : t = nw
      · rw [z, e] at hs; cases hs
      · rw [if_neg z]; exact hs
end
end Rs
set_option Elab.async false
set_option linter.all false
set_option maxRecDepth 100000
set_option maxHeartbeats 4000000
/-! Rootstamp, clash. -/
namespace Rs
open PySem PySem.Spec PyProof.Rows L2
/-! ### terms as data -/
def kD : Key → PyData
  | .inl i => .int i
  | .inr x => .str x
abbrev tD (t : Term) : PyData := .tuple (t.map kD)
theorem kD_eqv (a b : Key) : PyData.eqv (kD a) (kD b) = decide (a = b) := by
  cases a with
  | inl i => cases b with
    | inl j =>
      show (i == j) = _
      by_cases h : i = j
      · subst h; simp
      · rw [beq_eq_false_iff_ne.mpr h, decide_eq_false (fun z => h (by injection z))]
    | inr y => rfl
  | inr x => cases b with
    | inl j => rfl
    | inr y =>
      show (x == y) = _
      by_cases h : x = y
      · subst h; simp
      · rw [beq_eq_false_iff_ne.mpr h, decide_eq_false (fun z => h (by injection z))]
theorem kDs_eqv : ∀ a b : Term, PyData.eqvAll (a.map kD) (b.map kD) = decide (a = b)
  | [], [] => rfl
  | [], _ :: _ => rfl
  | _ :: _, [] => rfl
  | x :: a, y :: b => by
    show (PyData.eqv (kD x) (kD y) && PyData.eqvAll (a.map kD) (b.map kD)) = _
    rw [kD_eqv, kDs_eqv a b]
    by_cases h : x = y
    · subst h
      by_cases h2 : a = b
      · subst h2; simp
      · simp [h2]
    · simp [h]
theorem tD_eqv (a b : Term) : PyData.eqv (tD a) (tD b) = decide (a = b) := kDs_eqv a b
theorem kD_lay {k : Key} (h : Vk k) : PyData.canLay0 (kD k) = true := by
  cases k with
  | inl i => rfl
  | inr x => exact h
theorem kD_depth (k : Key) : PyData.depth (kD k) = 0 := by cases k <;> rfl
theorem kDs_lay : ∀ {t : Term}, (∀ k ∈ t, Vk k) → PyData.canLayAll0 (t.map kD) = true
  | [], _ => rfl
  | k :: t, h => by
    show (PyData.canLay0 (kD k) && PyData.canLayAll0 (t.map kD)) = true
    rw [kD_lay (h k (List.mem_cons_self ..)), kDs_lay fun k hk => h k (List.mem_cons_of_mem _ hk)]; rfl
theorem kDs_depth : ∀ t : Term, PyData.depthAll (t.map kD) = 0
  | [] => rfl
  | k :: t => by
    show max (PyData.depth (kD k)) (PyData.depthAll (t.map kD)) = 0
    rw [kD_depth, kDs_depth t]; rfl
theorem tD_depth (t : Term) : PyData.depth (tD t) = 1 := by
  show PyData.depthAll (t.map kD) + 1 = 1
  rw [kDs_depth]
theorem tD_shaped {t : Term} (h : ∀ k ∈ t, Vk k) : SeqAt.shaped (tD t) = true := by
  show (PyData.canLay0 (tD t) && decide (PyData.depth (tD t) ≤ 64)) = true
  rw [tD_depth, show PyData.canLay0 (tD t) = true from kDs_lay h]; rfl
section
variable {K : PySem.W.Frag} {H : Hp}
theorem dp_k (k : Key) : Dp K H (kV k) (kD k) := by cases k with
  | inl i => exact .int i
  | inr x => exact .str x
theorem dp_ks : ∀ t : Term, DpAll K H (kVs t) (t.map kD)
  | [] => .nil
  | k :: t => .cons (dp_k k) (dp_ks t)
theorem dp_t {a : Addr} {t : Term} (h : H a = some (.tup (kVs t))) : Dp K H (.ref a) (tD t) := .tup (SqT.of h) (dp_ks t)
end
theorem kVs_inj : ∀ {a b : Term}, kVs a = kVs b → a = b
  | [], [], _ => rfl
  | [], _ :: _, h => by cases h
  | _ :: _, [], h => by cases h
  | x :: a, y :: b, h => by
    injection h with h1 h2
    rw [kV_inj h1, kVs_inj h2]
/-- the terms ts stand at the addresses bs -/
structure TsAt (H : Hp) (bs : List Addr) (ts : List Term) : Prop where
  len : bs.length = ts.length
  at_ : ∀ (i : Nat) (b : Addr), bs[i]? = some b → ∃ t, ts[i]? = some t ∧ H b = some (.tup (kVs t))
theorem TsAt.nil {H : Hp} : TsAt H [] [] := ⟨rfl, fun i b h => by simp at h⟩
theorem TsAt.kp {H H' : Hp} {bs : List Addr} {ts : List Term} (h : TsAt H bs ts) (k : Kp H H') : TsAt H' bs ts := ⟨h.len, fun i b e => let ⟨t, a, c⟩ := h.at_ i b e; ⟨t, a, k.tup c⟩⟩
theorem TsAt.tr {H H' : Hp} {bs : List Addr} {ts : List Term} (h : TsAt H bs ts) (k : Tr H H') : TsAt H' bs ts := ⟨h.len, fun i b e => let ⟨t, a, c⟩ := h.at_ i b e; ⟨t, a, k.tup c⟩⟩
theorem TsAt.app {H : Hp} {bs cs : List Addr} {ts us : List Term} (h : TsAt H bs ts) (h2 : TsAt H cs us) : TsAt H (bs ++ cs) (ts ++ us) := by
  refine ⟨by rw [List.length_append, List.length_append, h.len, h2.len], fun i b e => ?_⟩
  by_cases hi : i < bs.length
  · rw [List.getElem?_append_left hi] at e
    obtain ⟨t, a, c⟩ := h.at_ i b e
    exact ⟨t, by rw [List.getElem?_append_left (by rw [← h.len]; exact hi)]; exact a, c⟩
  · rw [List.getElem?_append_right (by omega)] at e
    obtain ⟨t, a, c⟩ := h2.at_ _ b e
    refine ⟨t, ?_, c⟩
    rw [List.getElem?_append_right (by rw [← h.len]; omega), ← h.len]
    exact a
theorem TsAt.one {H : Hp} {b : Addr} {t : Term} (h : H b = some (.tup (kVs t))) : TsAt H [b] [t] := by
  refine ⟨rfl, fun i c e => ?_⟩
  cases i with
  | zero => cases e; exact ⟨t, rfl, h⟩
  | succ i => simp at e
theorem TsAt.get {H : Hp} {bs : List Addr} {ts : List Term} (h : TsAt H bs ts) {i : Nat} {x : V} (e : (bs.map V.ref)[i]? = some x) : ∃ b t, x = .ref b ∧ bs[i]? = some b ∧ ts[i]? = some t ∧ H b = some (.tup (kVs t)) := by
  rw [List.getElem?_map] at e
  cases q : bs[i]? with
  | none => rw [q] at e; cases e
  | some b =>
    rw [q] at e
    obtain ⟨t, a, c⟩ := h.at_ i b q
    exact ⟨b, t, (Option.some.inj e).symm, rfl, a, c⟩
theorem TsAt.last {H : Hp} {bs : List Addr} {ts : List Term} (h : TsAt H bs ts) {t : Term} (e : ts.getLast? = some t) : ∃ b, bs.getLast? = some b ∧ H b = some (.tup (kVs t)) := by
  have hne : ts ≠ [] := fun z => by rw [z] at e; cases e
  have hl : bs.length ≠ 0 := fun z => hne (List.eq_nil_of_length_eq_zero (by rw [← h.len]; exact z))
  rw [List.getLast?_eq_getElem?] at e ⊢
  obtain ⟨b, hb⟩ : ∃ b, bs[bs.length - 1]? = some b := ⟨bs[bs.length - 1], List.getElem?_eq_getElem (by omega)⟩
  obtain ⟨t', a, c⟩ := h.at_ _ b hb
  rw [h.len] at a
  rw [e] at a
  cases a
  exact ⟨b, hb, c⟩
section
variable {P : Program} {w : World} {K : PySem.W.Frag} {mg : Str → Option Value} {base : Heap}
/-! clash -/
structure Seen (H : Hp) (T : TR) (ts : List Term) (i : Nat) (kvs : List (Key × V)) : Prop where
  has : ∀ j t, j < i → ts[j]? = some t → ∃ s c, T t s ∧ valV kvs s = some (.ref c) ∧ H c = some (.tup (kVs t))
  only : ∀ s v, valV kvs s = some v → ∃ c t, v = .ref c ∧ t ∈ ts ∧ H c = some (.tup (kVs t)) ∧ T t s
theorem Seen.mono {H : Hp} {T T' : TR} {ts : List Term} {i : Nat} {kvs : List (Key × V)} (h : Seen H T ts i kvs) (l : LeT T T') : Seen H T' ts i kvs :=
  ⟨fun j t a b => let ⟨s, c, d, e, f⟩ := h.has j t a b; ⟨s, c, l _ _ d, e, f⟩, fun s v a => let ⟨c, t, b, d, e, f⟩ := h.only s v a; ⟨c, t, b, d, e, l _ _ f⟩⟩
theorem Seen.inj {H : Hp} {T : TR} {ts : List Term} {kvs : List (Key × V)} (h : Seen H T ts ts.length kvs) (F : Fn T) : InjOn T ts := fun a ha b hb s h1 h2 => by
  obtain ⟨i, hi⟩ := List.mem_iff_getElem?.mp ha
  obtain ⟨j, hj⟩ := List.mem_iff_getElem?.mp hb
  obtain ⟨s1, c1, q1, q2, q3⟩ := h.has i a (List.getElem?_eq_some_iff.mp hi).1 hi
  obtain ⟨s2, c2, r1, r2, r3⟩ := h.has j b (List.getElem?_eq_some_iff.mp hj).1 hj
  rw [F _ _ _ q1 h1] at q2
  rw [F _ _ _ r1 h2, q2] at r2
  cases r2
  rw [q3] at r3
  injection r3 with r3
  injection r3 with r3
  exact kVs_inj r3
def spClash : Sp := fun vs H Q _ => ∃ (f l : Addr) (bs : List Addr) (ts : List Term) (k : Kd) (T : TR) (r : Nat), vs = [.ref f, .ref l] ∧ H l = some (.lst (bs.map V.ref)) ∧ TsAt H bs ts ∧ (∀ t ∈ ts, OkT t) ∧ ts.length ≤ 100000 ∧ SA k f T (r + ts.length) H ∧
  (∀ (T' : TR) (H' : Hp), SA k f T' r H' → LeT T T' → Kp H H' → InjOn T' ts → Q .non H') ∧
  (∀ (p x y : Addr) (tx ty : Term) (s : Key) (T' : TR) (H' : Hp), SA k f T' r H' → LeT T T' → Kp H H' → H p = none → H' p = some (.tup [.ref x, .ref y]) → tx ∈ ts → ty ∈ ts → H' x = some (.tup (kVs tx)) → H' y = some (.tup (kVs ty)) → tx ≠ ty → T' tx s → T' ty s → Q (.ref p) H')
theorem scClash : FnScope ["stamper", "terms", "known", "term", "ahead"] ["stamper", "terms"] (defScope (top 33)) := ⟨rfl, rfl, rfl, by decide +kernel, rfl, by decide +kernel, by decide +kernel⟩
theorem ok_clash (T : Txt K mg) : Pr P w K mg base 6 "clash" ["stamper", "terms"] spClash := by
  refine T.clash_.ok scClash (fun vs H Q E h => ?_) (fun f cdv A outer s H vs Q E hr h => ?_)
  · obtain ⟨_, _, _, _, _, _, _, rfl, _⟩ := h; rfl
  obtain ⟨g, l, bs, ts, k, T0, r, rfl, hl, ht, hok, hlen, hs, q1, q2⟩ := h
  have hz := sizeLine_eq
  refine ⟨_, pss_cons (ps_set (i := 2) scClash.nd rfl (Or.inl rfl) pe_dnewK)
    (pss_cons (ps_for PassesOwn.never rfl (pi_list (pv 1)) (pg_name (i := 3) scClash.nd rfl (Or.inl rfl))
      (pss_cons (ps_set (i := 4) scClash.nd rfl (Or.inl rfl) (pe_dsetd (pv 2) (pe_st (i := 0) T hr (pv 3)) (pv 3) ⟨by rfl, by rfl, by rfl, by rfl⟩))
      (pss_one (ps_if (pt_cmpR (op_neD hr.units) (pv 4) (pv 3) (nomark _)) (pss_one (ps_ret (pe_tup (pa_cons (pv 4) (pa_cons (pv 3) pa_nil))))) pss_nil))))
    (pss_one (ps_ret pe_non))), ?_⟩
  refine fun p hp => ?_
  have hlb : (bs.map V.ref).length = ts.length := by rw [List.length_map, ht.len]
  refine ⟨_, rfl, l, rfl, ⟨_, SqL.of (by rw [upd_ne (ne_of_none hl hp)]; exact hl)⟩, for_list (K := K) (a := l) (xs := bs.map V.ref) (fun i σ H' => i ≤ ts.length ∧ ∃ (kvs : List (Key × V)) (T1 : TR) (u v : Option V), σ = [some (.ref g), some (.ref l), some (.ref p), u, v] ∧ Kp H H' ∧ H' p = some (.dK kvs) ∧ kvs.length ≤ i ∧
      SA k g T1 (r + (ts.length - i)) H' ∧ LeT T0 T1 ∧ Seen H T1 ts i kvs) ⟨Nat.zero_le _, [], T0, none, none, rfl, (Kp.refl H).wr hp _, upd_same, Nat.le_refl _, hs.new hp _, fun _ _ h => h, ⟨fun j t a => by omega, fun s v a => by cases a⟩⟩
      (fun i σ H' _ ⟨_, _, _, _, _, _, kp, _⟩ => SqL.of (kp.lst hl)) ?_ ?_⟩
  · rintro i y σ H' hi ⟨hil, kvs, T1, u, v, rfl, kp, hd, hkl, sa, le, seen⟩
    obtain ⟨b, t, rfl, hb, hti, hbt⟩ := ht.get hi
    have hilt : i < ts.length := (List.getElem?_eq_some_iff.mp hti).1
    have htm : t ∈ ts := List.mem_of_getElem? hti
    have hbp : b ≠ p := ne_of_none hbt hp
    have e1 : r + (ts.length - i) = (r + (ts.length - (i + 1))) + 1 := by omega
    rw [e1] at sa
    refine ⟨_, rfl, p, rfl, .inl ⟨kvs, .inl hd⟩, g, rfl, ⟨k, T1, _, sa⟩, _, rfl, b, t, k, T1, _, rfl, kp.tup hbt, hok t htm, sa, fun s' T2 H2 sa2 le2 hts kp2 => ?_⟩
    have kpA := kp.trans kp2
    refine ⟨_, rfl, kvs, s', kp2.dK hd, rfl, by omega, fun v0 hv0 => ?_, fun hn => ?_⟩
    · obtain ⟨c, t', rfl, ht', hc, hT'⟩ := seen.only s' v0 hv0
      refine ⟨_, rfl, _, rfl, tD t', tD t, dp_t (kpA.tup hc), dp_t (kpA.tup hbt), tD_shaped (hok t' ht').vk, tD_shaped (hok t htm).vk, _, rfl, ?_⟩
      rw [tD_eqv]
      by_cases e : t' = t
      · subst e
        rw [decide_eq_true rfl]
        refine iteF ⟨hilt, kvs, T2, _, _, rfl, kpA, kp2.dK hd, by omega, sa2, fun _ _ h => le2 _ _ (le _ _ h), ⟨fun j t2 hj hj2 => ?_, (seen.mono le2).only⟩⟩
        by_cases hji : j < i
        · exact (seen.mono le2).has j t2 hji hj2
        · have : j = i := by omega
          subst this
          rw [hti] at hj2
          cases hj2
          exact ⟨s', c, hts, hv0, hc⟩
      · rw [decide_eq_false e]
        refine iteT ⟨_, rfl, _, rfl, (by show 2 ≤ _; omega), fun pt hpt => ?_⟩
        exact q2 pt c b t' t s' T2 _ ((sa2.new hpt _).le (by omega)) (fun _ _ h => le2 _ _ (le _ _ h)) (kpA.new hpt _) (kpA.n _ hpt) upd_same ht' htm ((kpA.new hpt _).tup hc) ((kpA.new hpt _).tup hbt) e (le2 _ _ hT') hts
    · refine ⟨_, rfl, _, rfl, tD t, tD t, dp_t ?_, dp_t ?_, tD_shaped (hok t htm).vk, tD_shaped (hok t htm).vk, _, rfl, ?_⟩
      · rw [upd_ne hbp]; exact kpA.tup hbt
      · rw [upd_ne hbp]; exact kpA.tup hbt
      rw [tD_eqv, decide_eq_true rfl]
      refine iteF ⟨hilt, putK kvs s' (.ref b), T2, _, _, rfl, kpA.wr hp _, upd_same, by have := length_putK kvs s' (.ref b); omega, sa2.dK (kp2.dK hd) _, fun _ _ h => le2 _ _ (le _ _ h), ⟨fun j t2 hj hj2 => ?_, fun s2 v2 hv2 => ?_⟩⟩
      · by_cases hji : j < i
        · obtain ⟨s3, c3, a1, a2, a3⟩ := (seen.mono le2).has j t2 hji hj2
          refine ⟨s3, c3, a1, ?_, a3⟩
          rw [valV_put]
          split
          · rename_i z; rw [z, hn] at a2; cases a2
          · exact a2
        · have : j = i := by omega
          subst this
          rw [hti] at hj2
          cases hj2
          exact ⟨s', b, hts, by rw [valV_put, if_pos rfl], hbt⟩
      · rw [valV_put] at hv2
        split at hv2
        · rename_i z
          cases hv2
          exact ⟨b, t, rfl, htm, hbt, by rw [z]; exact hts⟩
        · exact (seen.mono le2).only s2 v2 hv2
  · rintro σ H' ⟨hil, kvs, T1, u, v, rfl, kp, hd, hkl, sa, le, seen⟩
    rw [hlb] at seen sa
    exact q1 T1 H' (sa.le (by omega)) le kp (seen.inj sa.fnT)
end
end Rs
set_option Elab.async false
set_option linter.all false
set_option maxRecDepth 100000
set_option maxHeartbeats 4000000
/-! Rootstamp, place_terms, place_mark, place_answer. -/
namespace Rs
open PySem PySem.Spec PyProof.Rows L2
theorem atI_back {α : Type} {xs : List α} {k : Nat} {v : α} (hk : k < xs.length) (h : xs[xs.length - 1 - k]? = some v) : atI xs (-1 - (k : Int)) = some v := by
  unfold atI ixN
  rw [if_neg (by omega), if_pos (by omega)]
  show xs[(-1 - (k : Int) + (xs.length : Int)).toNat]? = _
  have : (-1 - (k : Int) + (xs.length : Int)).toNat = xs.length - 1 - k := by omega
  rw [this]
  exact h
theorem atI_last {α : Type} {xs : List α} {v : α} (h : xs.getLast? = some v) : atI xs (-1) = some v := by
  have hne : xs ≠ [] := fun z => by rw [z] at h; cases h
  have hl : 0 < xs.length := List.length_pos_iff.mpr hne
  rw [List.getLast?_eq_getElem?] at h
  exact atI_back (k := 0) hl h
theorem ref_last {bs : List Addr} {b : Addr} (h : bs.getLast? = some b) : (bs.map V.ref).getLast? = some (.ref b) := by
  rw [List.getLast?_map, h]; rfl
/-- the bounds of the last term of a paper so far -/
structure Bnd (t : Term) (m : Nat) : Prop where
  le : ksum t ≤ m
  l3 : t.length ≤ 3
theorem klen_of {T : TR} (B : Bd T) {t : Term} {s : Key} {m : Nat} (b : Bnd t m) (h : T t s) : klen s ≤ m + 88 := by
  have := B t s h
  have := b.le
  have := b.l3
  omega
theorem jn_kVs (b : Bool) (s m : Key) : kVs (jn b s m) = if b then [.str "joint", kV m, kV s] else [.str "joint", kV s, kV m] := by cases b <;> rfl
theorem getLast_snoc {α : Type} (l : List α) (x : α) : (l ++ [x]).getLast? = some x := by simp
section
variable {P : Program} {w : World} {K : PySem.W.Frag} {mg : Str → Option Value} {base : Heap}
def spPT : Sp := fun vs H Q _ => ∃ (f pa pb : Addr) (n p : Nat) (e : Key) (ms : List Key) (k : Kd) (T : TR) (r : Nat), vs = [.ref f, .int n, .int p, .ref pa] ∧ p < n ∧ n < 2 ^ 59 ∧ PapAt H pa pb e ms ∧ ms.length = (ways p n).length ∧ Vk e ∧ (∀ k ∈ ms, Vk k) ∧ klen e + ksum ms ≤ 5000000 ∧
  SA k f T (r + (ways p n).length + 1) H ∧ ∀ (l : Addr) (bs : List Addr) (ts : List Term) (s : Key) (T' : TR) (H' : Hp), SA k f T' r H' → LeT T T' → Kp H H' → H l = none → H' l = some (.lst (bs.map V.ref)) → TsAt H' bs (ts ++ [tRow n s]) → PTop T' (ways p n) ms e ts s →
    (∀ t ∈ ts ++ [tRow n s], OkT t) → Q (.ref l) H'
theorem scPT : FnScope ["stamper", "count", "place", "paper", "turns", "entry", "marks", "terms", "turn", "mark", "below"] ["stamper", "count", "place", "paper"] (defScope (top 22)) := ⟨rfl, rfl, rfl, by decide +kernel, rfl, by decide +kernel, by decide +kernel⟩
theorem drop_cons {α : Type} {xs : List α} {i : Nat} {x : α} (h : xs[i]? = some x) : xs.drop i = x :: xs.drop (i + 1) := by
  obtain ⟨hl, e⟩ := List.getElem?_eq_some_iff.mp h
  rw [← e]
  exact List.drop_eq_getElem_cons hl
theorem bs_get {bs : List Bool} {i : Nat} {x : V} (h : (bs.map tv)[i]? = some x) : ∃ b, bs[i]? = some b ∧ x = tv b := by
  rw [List.getElem?_map] at h
  cases e : bs[i]? with
  | none => rw [e] at h; cases h
  | some b => rw [e] at h; exact ⟨b, rfl, (Option.some.inj h).symm⟩
def plInv (H : Hp) (k : Kd) (T0 : TR) (g pa pb lw lt : Addr) (n p r : Nat) (e : Key) (ms : List Key) (i : Nat) (σ : L2.St) (H' : Hp) : Prop :=
  i ≤ (ways p n).length ∧ ∃ (bs : List Addr) (ts : List Term) (T1 : TR) (x y z : Option V), σ = [some (.ref g), some (.int n), some (.int p), some (.ref pa), some (.ref lw), some (kV e), some (.ref pb), some (.ref lt), x, y, z] ∧ Kp H H' ∧ H' lw = some (.lst ((ways p n).map tv)) ∧ H' lt = some (.lst (bs.map V.ref)) ∧ TsAt H' bs ts ∧
      SA k g T1 (r + ((ways p n).length - i) + 1) H' ∧ LeT T0 T1 ∧ PT T1 ((ways p n).drop ((ways p n).length - i)) (ms.drop ((ways p n).length - i)) e ts ∧ ts.length = i + 1 ∧ (∀ t ∈ ts, OkT t) ∧ ∃ t, ts.getLast? = some t ∧ Bnd t (klen e + ksum (ms.drop ((ways p n).length - i)) + 100 * i + 5)
theorem ok_pterms (T : Txt K mg) : Pr P w K mg base 6 "place_terms" ["stamper", "count", "place", "paper"] spPT := by
  refine T.place_terms_.ok scPT (fun vs H Q E h => ?_) (fun f cdv A outer s H vs Q E hr h => ?_)
  · obtain ⟨_, _, _, _, _, _, _, _, _, _, rfl, _⟩ := h; rfl
  obtain ⟨g, pa, pb, n, p, e, ms, k, T0, r, rfl, hp, hn, ⟨hpa, hpb⟩, hml, hve, hvm, hsz, hs, q⟩ := h
  have hz := sizeLine_eq
  have hwl := ways_len 60 (p := p) (n := n) (by omega)
  refine ⟨_, pss_cons (ps_if (PW.pt (pw_or (pt_not (pt_val (pe_cl (ok_below T) (hr.mono (by decide)) (pa_cons (pv 1) (pa_cons (pe_op op_shl pe_int pe_int) pa_nil))))) (pw_or1 (pt_not (pt_val (pe_cl (ok_below T) (hr.mono (by decide)) (pa_cons (pv 2) (pa_cons (pv 1) pa_nil)))))))) (pss_one ps_never) pss_nil)
    (pss_cons (ps_set (i := 4) scPT.nd rfl (Or.inl rfl) (pe_cl (ok_ways T) (hr.mono (by decide)) (pa_cons (pv 2) (pa_cons (pv 1) pa_nil))))
    (pss_cons (ps_if (pt_not (pt_val (pe_cl (ok_plpap T) (hr.mono (by decide)) (pa_cons (pv 3) (pa_cons (pe_callB call_len_seq (by rfl) T.b_len PySem.boot_len (pa_cons (pv 4) pa_nil)) pa_nil))))) (pss_one ps_never) pss_nil)
    (pss_cons (ps_asg (pv 3) (pg_tup (by rfl) (pgs_cons (pg_name (i := 5) scPT.nd rfl (Or.inl rfl)) (pgs_cons (pg_name (i := 6) scPT.nd rfl (Or.inl rfl)) pgs_nil))))
    (pss_cons (ps_set (i := 7) scPT.nd rfl (Or.inl rfl) (pe_lst (pa_cons (pe_tup (pa_cons pe_str (pa_cons (pv 5) pa_nil))) pa_nil)))
    (pss_cons (ps_for PassesOwn.never rfl (pi_zipR (by rfl) T.b_zip (by rfl) T.b_reversed (pv 4) (pv 6)) (pg_tup (by rfl) (pgs_cons (pg_name (i := 8) scPT.nd rfl (Or.inl rfl)) (pgs_cons (pg_name (i := 9) scPT.nd rfl (Or.inl rfl)) pgs_nil)))
      (pss_cons (ps_set (i := 10) scPT.nd rfl (Or.inl rfl) (pe_st (i := 0) T hr (pe_ix ix_list (pv 7) (pe_un un_neg pe_int) (fun _ _ => rfl))))
      (pss_one (ps_if (pt_cmpR op_eq (pv 8) pe_int (nomark _))
        (pss_one (ps_expr (pe_bm PySem.F.plainAttrs_list PySem.F.slot_list_append PySem.F.type_list_append mt_append (pv 7) (pa_cons (pe_tup (pa_cons pe_str (pa_cons (pv 10) (pa_cons (pv 9) pa_nil)))) pa_nil))))
        (pss_one (ps_expr (pe_bm PySem.F.plainAttrs_list PySem.F.slot_list_append PySem.F.type_list_append mt_append (pv 7) (pa_cons (pe_tup (pa_cons pe_str (pa_cons (pv 9) (pa_cons (pv 10) pa_nil)))) pa_nil))))))))
    (pss_cons (ps_expr (pe_bm PySem.F.plainAttrs_list PySem.F.slot_list_append PySem.F.type_list_append mt_append (pv 7) (pa_cons (pe_tup (pa_cons pe_str (pa_cons (pv 1) (pa_cons (pe_st (i := 0) T hr (pe_ix ix_list (pv 7) (pe_un un_neg pe_int) (fun _ _ => rfl))) pa_nil)))) pa_nil)))
    (pss_one (ps_ret (pv 7))))))))), ?_⟩
  refine ⟨_, rfl, _, _, rfl, rfl, ⟨by decide, by decide, by decide⟩, (n : Int), _, rfl, by omega, ?_, _, rfl, ?_⟩
  · show (n : Int) < 1 * 2 ^ 60
    omega
  refine iteF ⟨_, rfl, _, rfl, (p : Int), _, rfl, by omega, by omega, _, rfl, iteF ?_⟩
  refine ⟨_, rfl, _, rfl, p, n, rfl, hp, by omega, fun lw H1 sm hlw hL => ?_⟩
  refine ⟨_, rfl, _, rfl, lw, _, rfl, .inl (SqL.of hL), pa, pb, e, ms, ?_, ⟨sm _ _ hpa, sm _ _ hpb⟩, hve, hvm, _, rfl, iteF ?_⟩
  · show [V.ref pa, V.int ((((ways p n).map tv).length : Nat) : Int)] = _
    rw [List.length_map, hml]
  refine ⟨_, rfl, pa, _, rfl, SqT.of (sm _ _ hpa), rfl, _, _, rfl, _, _, rfl, rfl, ?_⟩
  refine ⟨_, rfl, (by show 2 ≤ _; omega), fun t0 ht0 => ⟨(by show 1 ≤ _; omega), fun lt hlt => ?_⟩⟩
  have kp0 : Kp H (upd (upd H1 t0 (.tup [.str "entry", kV e])) lt (.lst [.ref t0])) := ((Kp.of sm).new ht0 _).new hlt _
  have ntl : t0 ≠ lt := fun z => by rw [← z, upd_same] at hlt; cases hlt
  have hH1 : H1 lt = none := upd_n hlt
  have hlt0 : H lt = none := (Kp.of sm).n _ hH1
  have hL0 : (upd (upd H1 t0 (.tup [.str "entry", kV e])) lt (.lst [.ref t0])) lw = some (.lst ((ways p n).map tv)) := by
    rw [upd_ne (ne_of_none hL hH1), upd_ne (ne_of_none hL ht0)]; exact hL
  have hb0 : (upd (upd H1 t0 (.tup [.str "entry", kV e])) lt (.lst [.ref t0])) pb = some (.tup (kVs ms)) := kp0.tup hpb
  refine ⟨_, rfl, lw, _, rfl, SqL.of hL0, _, rfl, pb, _, rfl, SqL.of hL0, SqT.of hb0, by rw [List.length_map, List.length_map, hml], ?_⟩
  rw [List.length_map]
  refine for_zipR (K := K) (a := lw) (b := pb) (xs := (ways p n).map tv) (ys := kVs ms) (n := (ways p n).length) (List.length_map _) (by rw [List.length_map, hml])
    (plInv H k T0 g pa pb lw lt n p r e ms)
    ⟨Nat.zero_le _, [t0], [tEntry e], T0, none, none, none, rfl, kp0, hL0, upd_same, TsAt.one (by rw [upd_ne ntl, upd_same]; rfl), by
        have q1 := ((hs.same sm).new ht0 (.tup [.str "entry", kV e])).new hlt (.lst [.ref t0])
        exact q1.le (by omega), fun _ _ h => h, ?_, rfl, fun t ht => by rw [List.mem_singleton.mp ht]; exact ok_entry hve (by omega), tEntry e, rfl, ⟨by rw [len_entry]; omega, by show 2 ≤ 3; decide⟩⟩
    (fun i σ H' ⟨_, _, _, _, _, _, _, _, kp, h1, _⟩ => ⟨SqL.of h1, SqT.of (kp.tup hpb)⟩) ?_ ?_
  · have e1 : (ways p n).drop ((ways p n).length - 0) = [] := List.drop_of_length_le (by omega)
    have e2 : ms.drop ((ways p n).length - 0) = [] := List.drop_of_length_le (by omega)
    rw [e1, e2]
    rfl
  · rintro i x y TT σ H' hi hx hy ⟨hil, bs, ts, T1, x0, y0, z0, rfl, kp, hlw1, hlt1, hts, sa, le, hpt, htl, hok, t, htlast, hbnd⟩ hTT
    obtain ⟨b, hbi, rfl⟩ := bs_get hx
    obtain ⟨m, hmi, rfl, hmm⟩ := vs_get hy
    have e0 : (ways p n).length - 1 - i + 1 = (ways p n).length - i := by omega
    have e0' : (ways p n).length - (i + 1) = (ways p n).length - 1 - i := by omega
    obtain ⟨c, hc, hct⟩ := hts.last htlast
    have htm : t ∈ ts := List.mem_of_getLast? htlast
    have sa1 : SA k g T1 ((r + ((ways p n).length - (i + 1)) + 1) + 1) H' := by
      have : r + ((ways p n).length - i) + 1 = (r + ((ways p n).length - (i + 1)) + 1) + 1 := by omega
      rw [← this]; exact sa
    have neL : lt ≠ TT := ne_of_none hlt1 hTT
    refine ⟨TT, _, rfl, SqT.of upd_same, rfl, _, _, rfl, _, _, rfl, rfl, g, rfl, ⟨k, T1, _, sa1.new hTT _⟩, _, rfl, 1, rfl, lt, _, _, _, rfl, rfl, SqL.of (by rw [upd_ne neL]; exact hlt1), atI_last (ref_last hc), c, t, k, T1, _, rfl, ?_, hok t htm, sa1.new hTT _, fun s' T2 H2 sa2 le2 hts2 kp2 => ?_⟩
    · rw [upd_ne (ne_of_none hct hTT)]; exact hct
    have kpA : Kp H' H2 := ((Kp.refl H').new hTT _).trans kp2
    have kpH : Kp H H2 := kp.trans kpA
    have hlt2 : H2 lt = some (.lst (bs.map V.ref)) := kpA.lst hlt1
    have hks := klen_of sa2.bd hbnd hts2
    have hvs := sa2.vd _ _ hts2
    have hkm : ksum (ms.drop ((ways p n).length - 1 - i)) = klen m + ksum (ms.drop ((ways p n).length - i)) := by rw [drop_cons hmi, ksum_cons, e0]
    have hks2 : ksum (ms.drop ((ways p n).length - 1 - i)) ≤ ksum ms := by
      have := ksum_append (ms.take ((ways p n).length - 1 - i)) (ms.drop ((ways p n).length - 1 - i))
      rw [List.take_append_drop] at this
      omega
    have hbl : bs.length = i + 1 := by rw [hts.len, htl]
    have hblm : (bs.map V.ref).length < sizeLine := by rw [List.length_map]; omega
    have hokj : OkT (jn b s' m) := ok_jn hvs (hvm m hmm) (by omega)
    have fin : ∀ (np : Addr) (σ' : L2.St), H2 np = none → (∃ x1 y1 z1, σ' = [some (V.ref g), some (.int n), some (.int p), some (.ref pa), some (.ref lw), some (kV e), some (.ref pb), some (.ref lt), x1, y1, z1]) → plInv H k T0 g pa pb lw lt n p r e ms (i + 1) σ' (upd (upd H2 np (.tup (kVs (jn b s' m)))) lt (.lst (bs.map V.ref ++ [.ref np]))) := by
      rintro np σ' hnp ⟨x1, y1, z1, rfl⟩
      have hlt3 : (upd H2 np (.tup (kVs (jn b s' m)))) lt = some (.lst (bs.map V.ref)) := by rw [upd_ne (ne_of_none hlt2 hnp)]; exact hlt2
      have tr : Tr H2 (upd (upd H2 np (.tup (kVs (jn b s' m)))) lt (.lst (bs.map V.ref ++ [.ref np]))) := fun c o z1 z2 z3 => Tr.lst hlt3 _ c o (Tr.new hnp _ c o z1 z2 z3) z2 z3
      have hnplt : np ≠ lt := fun z => by rw [z, hlt2] at hnp; cases hnp
      have hlwlt : lw ≠ lt := fun z => by
        have := kpA.lst hlw1
        rw [z] at this
        have h2 := (Kp.of sm).n _ hH1
        rw [← z] at hH1
        rw [hL] at hH1
        cases hH1
      refine ⟨hi, bs ++ [np], ts ++ [jn b s' m], T2, x1, y1, z1, rfl, (kpH.new hnp _).wr hlt0 _, ?_, ?_, ((hts.kp kpA).tr tr).app (TsAt.one ?_), sa2.tr tr, fun _ _ h => le2 _ _ (le _ _ h), ?_, by rw [List.length_append, htl]; rfl, ?_, jn b s' m, getLast_snoc _ _, ?_⟩
      · rw [upd_ne hlwlt, upd_ne (ne_of_none (kpA.lst hlw1) hnp)]; exact kpA.lst hlw1
      · rw [upd_same, List.map_append]; rfl
      · rw [upd_ne hnplt, upd_same]
      · rw [e0', drop_cons hbi, drop_cons hmi, e0]
        exact ⟨ts, t, s', hpt.mono le2, htlast, hts2, rfl⟩
      · intro u hu
        rcases List.mem_append.mp hu with hu | hu
        · exact hok u hu
        · rw [List.mem_singleton.mp hu]; exact hokj
      · rw [e0', hkm]
        exact ⟨by rw [len_jn]; omega, by cases b <;> exact Nat.le_refl _⟩
    refine ⟨_, rfl, rfl, _, rfl, ?_⟩
    cases b with
    | false =>
      refine iteT ⟨_, rfl, .inl ⟨rfl, _, SqL.of hlt2⟩, _, rfl, _, rfl, (by show 3 ≤ _; omega), fun np hnp => ⟨lt, _, _, rfl, rfl, ?_, hblm, fin np _ hnp ⟨_, _, _, rfl⟩⟩⟩
      rw [upd_ne (ne_of_none hlt2 hnp)]; exact hlt2
    | true =>
      refine iteF ⟨_, rfl, .inl ⟨rfl, _, SqL.of hlt2⟩, _, rfl, _, rfl, (by show 3 ≤ _; omega), fun np hnp => ⟨lt, _, _, rfl, rfl, ?_, hblm, fin np _ hnp ⟨_, _, _, rfl⟩⟩⟩
      rw [upd_ne (ne_of_none hlt2 hnp)]; exact hlt2
  · rintro σ H' ⟨hil, bs, ts, T1, x0, y0, z0, rfl, kp, hlw1, hlt1, hts, sa, le, hpt, htl, hok, t, htlast, hbnd⟩
    rw [Nat.sub_self] at hpt hbnd sa
    rw [List.drop_zero] at hpt hbnd
    rw [List.drop_zero] at hpt
    obtain ⟨c, hc, hct⟩ := hts.last htlast
    have htm : t ∈ ts := List.mem_of_getLast? htlast
    refine ⟨_, rfl, .inl ⟨rfl, _, SqL.of hlt1⟩, _, rfl, g, rfl, ⟨k, T1, _, sa⟩, _, rfl, 1, rfl, lt, _, _, _, rfl, rfl, SqL.of hlt1, atI_last (ref_last hc), c, t, k, T1, r, rfl, hct, hok t htm, sa.le (by omega), fun s' T2 H2 sa2 le2 hts2 kp2 => ?_⟩
    have hks := klen_of sa2.bd hbnd hts2
    have hvs := sa2.vd _ _ hts2
    have hlt2 := kp2.lst hlt1
    refine ⟨(by show 3 ≤ _; omega), fun np hnp => ?_⟩
    have hlt3 : (upd H2 np (.tup (kVs (tRow n s')))) lt = some (.lst (bs.map V.ref)) := by rw [upd_ne (ne_of_none hlt2 hnp)]; exact hlt2
    have tr : Tr H2 (upd (upd H2 np (.tup (kVs (tRow n s')))) lt (.lst (bs.map V.ref ++ [.ref np]))) := fun c o z1 z2 z3 => Tr.lst hlt3 _ c o (Tr.new hnp _ c o z1 z2 z3) z2 z3
    have hnplt : np ≠ lt := fun z => by rw [z, hlt2] at hnp; cases hnp
    refine ⟨lt, _, _, rfl, rfl, hlt3, by rw [List.length_map, hts.len, htl]; omega, ?_⟩
    refine ⟨_, rfl, q lt (bs ++ [np]) ts s' T2 _ (sa2.tr tr) (fun _ _ h => le2 _ _ (le _ _ h)) (((kp.trans kp2).new hnp _).wr hlt0 _) hlt0 ?_ (((hts.kp kp2).tr tr).app (TsAt.one ?_)) ⟨hpt.mono le2, t, htlast, hts2⟩ ?_⟩
    · rw [upd_same, List.map_append]; rfl
    · rw [upd_ne hnplt, upd_same]
    · intro u hu
      rcases List.mem_append.mp hu with hu | hu
      · exact hok u hu
      · rw [List.mem_singleton.mp hu]; exact ok_row (by omega) hvs (by omega)
end
end Rs
set_option Elab.async false
set_option linter.all false
set_option maxRecDepth 100000
set_option maxHeartbeats 4000000
/-! Rootstamp, place_mark, Broken, place_answer. -/
namespace Rs
open PySem PySem.Spec PyProof.Rows L2
theorem PT.fn {T : TR} (F : Fn T) : ∀ {bs : List Bool} {ms : List Key} {e : Key} {ts ts' : List Term}, PT T bs ms e ts → PT T bs ms e ts' → ts = ts'
  | [], [], _, _, _, h, h' => (show _ = _ from h).trans (show _ = _ from h').symm
  | b :: bs, m :: ms, _, _, _, ⟨ts1, t, s, p, a, c, d⟩, ⟨ts1', t', s', p', a', c', d'⟩ => by
    have e1 := p.fn F p'
    subst e1
    rw [a] at a'
    cases a'
    rw [d, d', F _ _ _ c c']
theorem PTop.fn {T : TR} (F : Fn T) {bs : List Bool} {ms : List Key} {e : Key} {ts ts' : List Term} {s s' : Key} (h : PTop T bs ms e ts s) (h' : PTop T bs ms e ts' s') : ts = ts' ∧ s = s' := by
  obtain ⟨p, t, a, b⟩ := h
  obtain ⟨p', t', a', b'⟩ := h'
  have := p.fn F p'
  subst this
  rw [a] at a'
  cases a'
  exact ⟨rfl, F _ _ _ b b'⟩
theorem scal_k (a b : Key) : scal (kV a) (kV b) = true := by cases a <;> cases b <;> rfl
theorem tsLast {H : Hp} {bs : List Addr} {ts : List Term} {t : Term} (h : TsAt H bs (ts ++ [t])) : ∃ b, bs.getLast? = some b ∧ H b = some (.tup (kVs t)) := h.last (getLast_snoc _ _)
section
variable {P : Program} {w : World} {K : PySem.W.Frag} {mg : Str → Option Value} {base : Heap}
def spPMk : Sp := fun vs H Q _ => ∃ (f pa pb : Addr) (n p : Nat) (e : Key) (ms : List Key) (k : Kd) (T : TR) (r : Nat), vs = [.ref f, .int n, .int p, .ref pa] ∧ p < n ∧ n < 2 ^ 59 ∧ PapAt H pa pb e ms ∧ ms.length = (ways p n).length ∧ Vk e ∧ (∀ k ∈ ms, Vk k) ∧ klen e + ksum ms ≤ 5000000 ∧
  SA k f T (r + (ways p n).length + 2) H ∧ ∀ (ts : List Term) (s s' : Key) (T' : TR) (H' : Hp), SA k f T' r H' → LeT T T' → Kp H H' → PTop T' (ways p n) ms e ts s → T' (tRow n s) s' → Q (kV s') H'
theorem scPMk : FnScope ["stamper", "count", "place", "paper"] ["stamper", "count", "place", "paper"] (defScope (top 23)) := ⟨rfl, rfl, rfl, by decide +kernel, rfl, by decide +kernel, by decide +kernel⟩
theorem ok_pmark (T : Txt K mg) : Pr P w K mg base 7 "place_mark" ["stamper", "count", "place", "paper"] spPMk := by
  refine T.place_mark_.ok scPMk (fun vs H Q E h => ?_) (fun f cdv A outer s H vs Q E hr h => ?_)
  · obtain ⟨_, _, _, _, _, _, _, _, _, _, rfl, _⟩ := h; rfl
  obtain ⟨g, pa, pb, n, p, e, ms, k, T0, r, rfl, hp, hn, hpap, hml, hve, hvm, hsz, hs, q⟩ := h
  refine ⟨_, pss_one (ps_ret (pe_st (i := 0) T hr (pe_ix ix_list (pe_cl (ok_pterms T) hr (pa_cons (pv 0) (pa_cons (pv 1) (pa_cons (pv 2) (pa_cons (pv 3) pa_nil))))) (pe_un un_neg pe_int) (fun _ _ => rfl)))), ?_⟩
  refine ⟨g, rfl, ⟨k, T0, _, hs⟩, _, rfl, _, rfl, _, rfl, _, rfl, ?_⟩
  refine ⟨g, pa, pb, n, p, e, ms, k, T0, r + 1, rfl, hp, hn, hpap, hml, hve, hvm, hsz, hs.le (by omega), fun l bs ts s1 T1 H1 sa le kp hl hL hts top hok => ?_⟩
  obtain ⟨c, hc, hct⟩ := tsLast hts
  refine ⟨1, rfl, l, _, _, _, rfl, rfl, SqL.of hL, atI_last (ref_last hc), c, _, k, T1, r, rfl, hct, hok _ (by simp), sa, fun s' T2 H2 sa2 le2 hts2 kp2 => ?_⟩
  exact q ts s1 s' T2 H2 sa2 (fun _ _ h => le2 _ _ (le _ _ h)) (kp.trans kp2) (top.mono le2) hts2
/-! Broken -/
def spBI (C : Addr) : Sp := fun vs H Q _ => ∃ (a : Addr) (d c : V), vs = [.ref a, d, c] ∧ H a = some (exo a C none) ∧ ∀ dx, H dx = none → dx ≠ a → Q .non (upd (upd (upd H dx (exd dx [("due", d)])) a (exo a C (some dx))) dx (exd dx [("came", c), ("due", d)]))
theorem scBI : FnScope ["self", "due", "came"] ["self", "due", "came"] (defScope (inClass (top 6) 0)) := ⟨rfl, rfl, rfl, by decide +kernel, rfl, by decide +kernel, by decide +kernel⟩
theorem ok_binit {C : Addr} (B : Brk K mg C) : ∃ (fI : Addr) (fd : FuncData), FnOk P w K mg base CX0 1 fI fd ["self", "due", "came"] (spBI C) ∧ PySem.W.findIn K (.ref C) "__init__" = some (some (.ref fI)) ∧ PySem.W.typeIn K (.ref fI) = some (.type "function") ∧ Binds K fd ["self", "due", "came"] [] := by
  obtain ⟨fI, fd, F, i1, i2, i3⟩ := B.ini
  refine ⟨fI, fd, F.ok scBI (fun vs H Q E h => ?_) (fun cdv A outer s H vs Q E hr h => ?_), i1, i2, i3⟩
  · obtain ⟨_, _, _, rfl, _⟩ := h; rfl
  obtain ⟨a, d, c, rfl, ha, q⟩ := h
  obtain ⟨S, inh⟩ := B.inh
  refine ⟨_, pss_cons (ps_expr (pe_cinit inh (by rfl) (pa_cons (pv 0) (pa_cons pe_str pa_nil)))) (pss_cons (ps_ost (pv 0) (pv 1)) (pss_one (ps_ost (pv 0) (pv 2)))), ?_⟩
  refine ⟨_, rfl, a, C, _, rfl, (by show 1 ≤ 1000; decide), B.ox, ha, ?_⟩
  refine ⟨_, rfl, _, rfl, a, C, rfl, B.ox, B.nD, .inl ⟨ha, fun dx hdx hne => ?_⟩⟩
  refine ⟨_, rfl, _, rfl, a, C, rfl, B.ox, B.nC, .inr ⟨dx, _, upd_same, ?_, (by show 1 ≤ 900; decide), q dx hdx hne⟩⟩
  rw [upd_ne hne, upd_same]
theorem upd_del {H1 : Hp} {a d : Addr} {o u v x y : HO} (ha : H1 a = none) (hne : d ≠ a) : upd (del (upd (upd (upd (upd H1 a o) d u) a v) d x) a) d y = upd H1 d y := by
  funext b
  by_cases hb : b = d
  · subst hb; rw [upd_same, upd_same]
  · rw [upd_ne hb, upd_ne hb]
    by_cases hba : b = a
    · subst hba; rw [del_same, ha]
    · rw [del_ne hba, upd_ne hb, upd_ne hba, upd_ne hb, upd_ne hba]
/-- Broken(due, came) -/
def tBrk (C : Addr) (ta : TA) : L2.St → Hp → XK → Prop := fun σ H Q => ta σ H fun vs H1 => ∃ d c, vs = [d, c] ∧ ∀ dx, H1 dx = none → Q (.ref C) (some dx) (upd H1 dx (.xd [("came", c), ("due", d)]))
theorem ps_brk {X : Cx} {C : Addr} {W : WX} {e : Expr} {es : List Expr} {ta : TA} {p pos pos2 : Pos} {j : Nat} (B : Brk X.K X.mg C) (hc : X.calm = true) (tk : Takes X W) (hr : Room j X.A) (hj : 2 ≤ j) (ha : PA X (e :: es) ta) (hg : Gl X "Broken" := by rfl)
    (he : starEach (e :: es) X.env = (false, eval e X.env) :: starEach es X.env := by rfl) (hpl : (backTo pos (starEach es X.env)).any (·.1) = false := by rfl) (hm : ∀ σ H (Q Q' : List V → Hp → Prop), (∀ vs H1, Q vs H1 → Q' vs H1) → ta σ H Q → ta σ H Q') :
    PS X (.Raise (some (.Call (.Name "Broken" p) (e :: es) [] pos)) none pos2) (fun _ σ H => tBrk C ta σ H fun cls d H' => W cls d σ H') := by
  obtain ⟨fI, fd, F, i1, i2, i3⟩ := ok_binit (P := X.prog) (w := X.w) (base := X.base) B
  have q := ps_raise (pos := pos2) hc tk (pmk_oex (p := p) (dvs := []) B.ox i1 i2 F (hr.mono hj) i3 .nil pass0 hg B.g ha (by decide) he hpl)
  refine ⟨fun pins s σ H D I h => q.run pins s σ H D I ?_⟩
  refine hm σ H _ _ (fun vs H1 hh => ?_) h
  obtain ⟨d, c, rfl, hq⟩ := hh
  refine ⟨(by show 2 ≤ 1000; decide), fun a ha => ⟨a, d, c, rfl, upd_same, fun dx hdx hne => ⟨rfl, dx, [("came", c), ("due", d)], ?_, upd_same, upd_n hdx, ?_⟩⟩⟩
  · rw [upd_ne (Ne.symm hne), upd_same]
  · rw [upd_del ha hne]
    exact hq dx (upd_n hdx)
def spPA (C : Addr) : Sp := fun vs H Q E => ∃ (f ha pa pb : Addr) (n p : Nat) (hk e : Key) (ms : List Key) (k : Kd) (T : TR) (r : Nat), vs = [.ref f, .ref ha, .int p, .ref pa] ∧ HeadAt H ha n hk ∧ Vk hk ∧ p < n ∧ n < 2 ^ 59 ∧ PapAt H pa pb e ms ∧ ms.length = (ways p n).length ∧ Vk e ∧ (∀ k ∈ ms, Vk k) ∧ klen e + ksum ms ≤ 5000000 ∧
  SA k f T (r + (ways p n).length + 2) H ∧ (∀ (ts : List Term) (s : Key) (T' : TR) (H' : Hp), SA k f T' r H' → LeT T T' → Kp H H' → PTop T' (ways p n) ms e ts s → T' (tRow n s) hk → Q (kV e) H') ∧
  (∀ (ts : List Term) (s s' : Key) (T' : TR) (H' : Hp) (d : Option Addr), SA k f T' r H' → LeT T T' → Kp H H' → PTop T' (ways p n) ms e ts s → T' (tRow n s) s' → s' ≠ hk → E (.ref C) d H')
theorem scPA : FnScope ["stamper", "head", "place", "paper", "came"] ["stamper", "head", "place", "paper"] (defScope (top 24)) := ⟨rfl, rfl, rfl, by decide +kernel, rfl, by decide +kernel, by decide +kernel⟩
theorem ok_pans (T : Txt K mg) {C : Addr} (B : Brk K mg C) : PrX P w K mg base 8 "place_answer" ["stamper", "head", "place", "paper"] (spPA C) := by
  refine T.place_answer_.okX scPA (fun vs H Q E h => ?_) (fun f cdv A outer s H vs Q E hr h => ?_)
  · obtain ⟨_, _, _, _, _, _, _, _, _, _, _, _, rfl, _⟩ := h; rfl
  obtain ⟨g, ha, pa, pb, n, p, hk, e, ms, k, T0, r, rfl, hh, hvk, hp, hn, hpap, hml, hve, hvm, hsz, hs, q1, q2⟩ := h
  refine ⟨_, pss_cons (ps_if (pt_not (pt_val (pe_cl (ok_head T) (hr.mono (by decide)) (pa_cons (pv 1) pa_nil)))) (pss_one ps_never) pss_nil)
    (pss_cons (ps_set (i := 4) scPA.nd rfl (Or.inl rfl) (pe_cl (ok_pmark T) hr (pa_cons (pv 0) (pa_cons (pe_ix ix_tup (pv 1) pe_int (fun _ _ => rfl)) (pa_cons (pv 2) (pa_cons (pv 3) pa_nil))))))
    (pss_cons (ps_if (pt_cmpR op_ne (pv 4) (pe_ix ix_tup (pv 1) pe_int (fun _ _ => rfl)) (nomark _)) (pss_one (ps_brk B rfl (takes_of rfl rfl rfl rfl) hr (by decide) (pa_cons (pe_ix ix_tup (pv 1) pe_int (fun _ _ => rfl)) (pa_cons (pv 4) pa_nil)) (hm := ?_))) pss_nil)
    (pss_one (ps_ret (pe_ix ix_tup (pv 3) pe_int (fun _ _ => rfl)))))), ?_⟩
  · rintro σ H Q Q' m ⟨v, a, j, a1, a2, a3, a4, a5, a6, a7, u, b1, b2⟩
    exact ⟨v, a, j, a1, a2, a3, a4, a5, a6, a7, u, b1, m _ _ b2⟩
  refine ⟨_, rfl, ha, n, hk, rfl, hh, by omega, hvk, _, rfl, iteF ?_⟩
  refine ⟨_, rfl, _, rfl, ha, _, _, _, rfl, rfl, SqT.of hh, at_of (j := 0) rfl rfl, _, rfl, _, rfl, ?_⟩
  refine ⟨g, pa, pb, n, p, e, ms, k, T0, r, rfl, hp, hn, hpap, hml, hve, hvm, hsz, hs, fun ts s1 s' T' H' sa le kp top htp => ?_⟩
  have hh' := kp.tup hh
  refine ⟨_, rfl, _, rfl, ha, _, _, _, rfl, rfl, SqT.of hh', at_of (j := 1) rfl rfl, scal_k _ _, _, rfl, ?_⟩
  by_cases es : s' = hk
  · subst es
    rw [decide_eq_true rfl]
    exact iteF ⟨_, rfl, pa, _, _, _, rfl, rfl, SqT.of (kp.tup hpap.p), at_of (j := 0) rfl rfl, q1 ts s1 T' H' sa le kp top htp⟩
  · rw [decide_eq_false (fun z => es (kV_inj z))]
    refine iteT ?_
    exact ⟨_, rfl, ha, _, _, _, rfl, rfl, SqT.of hh', at_of (j := 1) rfl rfl, _, rfl, _, _, rfl, fun dx hdx => q2 ts s1 s' T' _ (some dx) (sa.new hdx _) le (kp.new hdx _) top htp es⟩
end
end Rs
set_option Elab.async false
set_option linter.all false
set_option maxRecDepth 100000
set_option maxHeartbeats 4000000
/-! Rootstamp, joined. -/
namespace Rs
open PySem PySem.Spec PyProof.Rows L2
theorem JT.inv_same2 {T : TR} {n : Nat} {ms : List Key} {yts ots : List Term} {y o : Key} (h : JT T n n ms yts y ots o) : ms = [y] ∧ o = y ∧ yts = [] ∧ ots = [] := by
  cases h with
  | same => exact ⟨rfl, rfl, rfl, rfl⟩
  | left a => omega
  | right a => omega
theorem JT.fn {T : TR} (F : Fn T) {n e : Nat} {ms : List Key} {yts ots : List Term} {y o : Key} (h : JT T n e ms yts y ots o) : ∀ {yts' ots' : List Term} {y' o' : Key}, JT T n e ms yts' y' ots' o' → yts = yts' ∧ y = y' ∧ ots = ots' ∧ o = o' := by
  induction h with
  | same n m =>
    intro yts' ots' y' o' h'
    obtain ⟨e1, rfl, rfl, rfl⟩ := h'.inv_same2
    cases e1
    exact ⟨rfl, rfl, rfl, rfl⟩
  | @left n e ms m y o y' yts ots a b _ c ih =>
    intro yts' ots' y2 o2 h'
    obtain ⟨ms1, m1, yts1, y1, e1, rfl, j, t⟩ := h'.inv_left a b
    have q := List.append_inj' e1 rfl
    obtain ⟨q1, q2⟩ := q
    subst q1
    cases q2
    obtain ⟨rfl, rfl, rfl, rfl⟩ := ih j
    exact ⟨rfl, F _ _ _ c t, rfl, rfl⟩
  | right a b _ c d ih =>
    intro yts' ots' y2 o2 h'
    obtain ⟨ms1, m1, yts1, y1, ots1, o1, e1, rfl, rfl, j, t, u⟩ := h'.inv_right a b
    cases e1
    obtain ⟨rfl, rfl, rfl, rfl⟩ := ih j
    exact ⟨rfl, F _ _ _ c t, rfl, F _ _ _ d u⟩
structure JAt (H : Hp) (pr py po ly lo : Addr) (bsy bso : List Addr) (yts ots : List Term) (y o : Key) : Prop where
  hr : H pr = some (.tup [.ref py, .ref po])
  hy : H py = some (.tup [.ref ly, kV y])
  ho : H po = some (.tup [.ref lo, kV o])
  ly_ : H ly = some (.lst (bsy.map V.ref))
  lo_ : H lo = some (.lst (bso.map V.ref))
  ty : TsAt H bsy yts
  to : TsAt H bso ots
structure JBd (ms : List Key) (yts ots : List Term) (y o : Key) : Prop where
  by_ : klen y ≤ ksum ms + 100 * ms.length
  bo : klen o ≤ ksum ms + 100 * ms.length
  vy : Vk y
  vo : Vk o
  ky : ∀ t ∈ yts, OkT t
  ko : ∀ t ∈ ots, OkT t
  ny : yts.length ≤ ms.length
  no : ots.length ≤ ms.length
section
variable {P : Program} {w : World} {K : PySem.W.Frag} {mg : Str → Option Value} {base : Heap}
/-- x[0] + [joint], stamper(joint) -/
def tSide (K : PySem.W.Frag) (i j : Nat) : TE := tTup (tCons (tOp rCat (tOp (rIxT K) (tVar i) (tC (.int 0))) (tLst (tCons (tVar j) tNil))) (tCons (tSt 0 (tVar j)) tNil))
theorem side_ok {i j : Nat} {σ : L2.St} {H : Hp} {Q : VK} {f py ly jt : Addr} {v : V} {bs : List Addr} {t : Term} {k : Kd} {T : TR} {r : Nat} (h0 : σ[0]? = some (some (.ref f))) (hi : σ[i]? = some (some (.ref py))) (hj : σ[j]? = some (some (.ref jt))) (hy : H py = some (.tup [.ref ly, v])) (hl : H ly = some (.lst (bs.map V.ref)))
    (ht : H jt = some (.tup (kVs t))) (ok : OkT t) (hb : bs.length ≤ 1000) (sa : SA k f T (r + 1) H)
    (q : ∀ (p lp : Addr) (s' : Key) (T' : TR) (H' : Hp), SA k f T' r H' → LeT T T' → T' t s' → Kp H H' → H' p = some (.tup [.ref lp, kV s']) → H' lp = some (.lst ((bs ++ [jt]).map V.ref)) → Q (.ref p) H') : tSide K i j σ H Q := by
  have hz := sizeLine_eq
  refine ⟨_, hi, py, _, _, _, rfl, rfl, SqT.of hy, at_of (j := 0) rfl rfl, _, hj, (by show 1 ≤ _; omega), fun p1 h1 => ?_⟩
  have k1 : Kp H (upd H p1 (.lst [.ref jt])) := (Kp.refl H).new h1 _
  refine ⟨ly, p1, _, _, rfl, rfl, k1.lst hl, upd_same, by rw [List.length_map]; show _ + 1 ≤ _; omega, fun p2 h2 => ?_⟩
  have k2 := k1.new h2 (.lst (bs.map V.ref ++ [.ref jt]))
  have sa2 := (sa.new h1 (.lst [.ref jt])).new h2 (.lst (bs.map V.ref ++ [.ref jt]))
  refine ⟨f, h0, ⟨k, T, _, sa2⟩, _, hj, jt, t, k, T, r, rfl, k2.tup ht, ok, sa2, fun s' T' H2 sa3 le hs k3 => ?_⟩
  refine ⟨(by show 2 ≤ _; omega), fun p3 h3 => q p3 p2 s' T' _ (sa3.new h3 _) le hs ((k2.trans k3).new h3 _) upd_same ?_⟩
  rw [upd_ne (ne_of_none (k3.lst upd_same) h3), List.map_append]
  exact k3.lst upd_same
def spJoin (d : Nat) : Sp := fun vs H Q _ => ∃ (f ma : Addr) (n e : Nat) (ms : List Key) (k : Kd) (T : TR) (r : Nat), vs = [.ref f, .int n, .int e, .ref ma] ∧ 1 ≤ e ∧ e ≤ n ∧ n ≤ 2 ^ d ∧ H ma = some (.tup (kVs ms)) ∧ ms.length = howMany n e ∧ (∀ k ∈ ms, Vk k) ∧ ksum ms ≤ 5000000 ∧
  SA k f T (r + 2 * ms.length) H ∧ ∀ (pr py po ly lo : Addr) (bsy bso : List Addr) (yts ots : List Term) (y o : Key) (T' : TR) (H' : Hp), SA k f T' r H' → LeT T T' → Kp H H' → JAt H' pr py po ly lo bsy bso yts ots y o → JBd ms yts ots y o → JT T' n e ms yts y ots o → Q (.ref pr) H'
theorem scJoin : FnScope ["stamper", "count", "elder", "marks", "cut", "younger", "older", "joint", "other"] ["stamper", "count", "elder", "marks"] (defScope (top 27)) := ⟨rfl, rfl, rfl, by decide +kernel, rfl, by decide +kernel, by decide +kernel⟩
theorem cut_head (xs : List V) : cutV xs none (some (-1)) = xs.take (xs.length - 1) := by
  unfold cutV
  show (xs.drop 0).take ((-1 + (xs.length : Int)).toNat - 0) = _
  rw [List.drop_zero]
  congr 1
  omega
theorem cut_tail (xs : List V) : cutV xs (some 1) none = xs.drop (min 1 xs.length) := by
  unfold cutV
  show (xs.drop (min 1 xs.length)).take (xs.length - min 1 xs.length) = _
  exact List.take_of_length_le (by rw [List.length_drop]; exact Nat.le_refl _)
abbrev tEl (K : PySem.W.Frag) : TE := tTup (tCons (tLst tNil) (tCons (tOp (rIxT K) (tVar 3) (tC (.int 0))) tNil))
theorem base_ok {σ : L2.St} {H : Hp} {Q : VK} {g ma : Addr} {n : Nat} {m : Key} {k : Kd} {T0 : TR} {r : Nat} (h3 : σ[3]? = some (some (.ref ma))) (hma : H ma = some (.tup (kVs [m]))) (hv : Vk m) (sa : SA k g T0 r H)
    (q : ∀ (pr py po ly lo : Addr) (bsy bso : List Addr) (yts ots : List Term) (y o : Key) (T' : TR) (H' : Hp), SA k g T' r H' → LeT T0 T' → Kp H H' → JAt H' pr py po ly lo bsy bso yts ots y o → JBd [m] yts ots y o → JT T' n n [m] yts y ots o → Q (.ref pr) H') : tTup (tCons (tEl K) (tCons (tEl K) tNil)) σ H Q := by
  have hz := sizeLine_eq
  have z2 : 2 ≤ sizeLine := by omega
  refine ⟨Nat.zero_le _, fun l1 n1 => ⟨_, h3, ma, _, _, _, rfl, rfl, SqT.of (((Kp.refl H).new n1 _).tup hma), at_of (j := 0) rfl rfl, z2, fun p1 n2 => ?_⟩⟩
  have k2 := ((Kp.refl H).new n1 (.lst [])).new n2 (.tup [.ref l1, kV m])
  refine ⟨Nat.zero_le _, fun l2 n3 => ⟨_, h3, ma, _, _, _, rfl, rfl, SqT.of ((k2.new n3 _).tup hma), at_of (j := 0) rfl rfl, z2, fun p2 n4 => ⟨z2, fun pr n5 => ?_⟩⟩⟩
  have k4 := (k2.new n3 (.lst [])).new n4 (.tup [.ref l2, kV m])
  have sa5 := ((((sa.new n1 (.lst [])).new n2 (.tup [.ref l1, kV m])).new n3 (.lst [])).new n4 (.tup [.ref l2, kV m])).new n5 (.tup [.ref p1, .ref p2])
  have kA : Kp (upd H l1 (.lst [])) (upd (upd (upd (upd (upd H l1 (.lst [])) p1 (.tup [.ref l1, kV m])) l2 (.lst [])) p2 (.tup [.ref l2, kV m])) pr (.tup [.ref p1, .ref p2])) := ((((Kp.refl _).new n2 _).new n3 _).new n4 _).new n5 _
  have kB : Kp (upd (upd H l1 (.lst [])) p1 (.tup [.ref l1, kV m])) (upd (upd (upd (upd (upd H l1 (.lst [])) p1 (.tup [.ref l1, kV m])) l2 (.lst [])) p2 (.tup [.ref l2, kV m])) pr (.tup [.ref p1, .ref p2])) := (((Kp.refl _).new n3 _).new n4 _).new n5 _
  have kC : Kp (upd (upd (upd H l1 (.lst [])) p1 (.tup [.ref l1, kV m])) l2 (.lst [])) (upd (upd (upd (upd (upd H l1 (.lst [])) p1 (.tup [.ref l1, kV m])) l2 (.lst [])) p2 (.tup [.ref l2, kV m])) pr (.tup [.ref p1, .ref p2])) := ((Kp.refl _).new n4 _).new n5 _
  have kD : Kp (upd (upd (upd (upd H l1 (.lst [])) p1 (.tup [.ref l1, kV m])) l2 (.lst [])) p2 (.tup [.ref l2, kV m])) (upd (upd (upd (upd (upd H l1 (.lst [])) p1 (.tup [.ref l1, kV m])) l2 (.lst [])) p2 (.tup [.ref l2, kV m])) pr (.tup [.ref p1, .ref p2])) := (Kp.refl _).new n5 _
  refine q pr p1 p2 l1 l2 [] [] [] [] m m T0 _ sa5 (fun _ _ h => h) (k4.new n5 _) ⟨upd_same, kB.tup upd_same, kD.tup upd_same, kA.lst upd_same, kC.lst upd_same, TsAt.nil, TsAt.nil⟩ ⟨?_, ?_, hv, hv, (fun _ h => nomatch h), (fun _ h => nomatch h), Nat.zero_le _, Nat.zero_le _⟩ (.same n m)
  · rw [ksum_cons]; omega
  · rw [ksum_cons]; omega
theorem ok_join0 (T : Txt K mg) : Pr P w K mg base 6 "joined" ["stamper", "count", "elder", "marks"] (spJoin 0) := by
  refine T.joined_.ok scJoin (fun vs H Q E h => ?_) (fun f cdv A outer s H vs Q E hr h => ?_)
  · obtain ⟨_, _, _, _, _, _, _, _, rfl, _⟩ := h; rfl
  obtain ⟨g, ma, n, e, ms, k, T0, r, rfl, h1, hle, hn, hma, hml, hv, hsz, hs, q⟩ := h
  have hn1 : n = 1 := by have : 2 ^ 0 = 1 := rfl; omega
  have he1 : e = 1 := by omega
  subst hn1 he1
  rw [howMany_same (by omega)] at hml
  obtain ⟨m, rfl⟩ := List.length_eq_one_iff.mp hml
  refine ⟨_, pss_cons (ps_if (pt_cmpR op_eq (pv 2) (pv 1) (nomark _)) (pss_one (ps_ret (pe_tup (pa_cons (pe_tup (pa_cons (pe_lst pa_nil) (pa_cons (pe_ix ix_tup (pv 3) pe_int (fun _ _ => rfl)) pa_nil))) (pa_cons (pe_tup (pa_cons (pe_lst pa_nil) (pa_cons (pe_ix ix_tup (pv 3) pe_int (fun _ _ => rfl)) pa_nil))) pa_nil))))) pss_nil) (pss_cons ps_never (pss_cons ps_never (pss_cons ps_never (pss_cons ps_never (pss_cons ps_never (pss_one ps_never)))))), ?_⟩
  refine ⟨_, rfl, _, rfl, rfl, _, rfl, iteT ?_⟩
  exact base_ok (n := 1) rfl hma (hv m (List.mem_cons_self ..)) (hs.le (by omega)) q
theorem ok_joinS (T : Txt K mg) {d : Nat} (hd : d ≤ 40) (ih : Pr P w K mg base (6 + d) "joined" ["stamper", "count", "elder", "marks"] (spJoin d)) : Pr P w K mg base (6 + d + 1) "joined" ["stamper", "count", "elder", "marks"] (spJoin (d + 1)) := by
  refine T.joined_.ok scJoin (fun vs H Q E h => ?_) (fun f cdv A outer s H vs Q E hr h => ?_)
  · obtain ⟨_, _, _, _, _, _, _, _, rfl, _⟩ := h; rfl
  obtain ⟨g, ma, n, e, ms, k, T0, r, rfl, h1, hle, hn, hma, hml, hv, hsz, hs, q⟩ := h
  have hz := sizeLine_eq
  have z2 : 2 ≤ sizeLine := by omega
  have z3 : 3 ≤ sizeLine := by omega
  refine ⟨_, pss_cons (ps_if (pt_cmpR op_eq (pv 2) (pv 1) (nomark _)) (pss_one (ps_ret (pe_tup (pa_cons (pe_tup (pa_cons (pe_lst pa_nil) (pa_cons (pe_ix ix_tup (pv 3) pe_int (fun _ _ => rfl)) pa_nil))) (pa_cons (pe_tup (pa_cons (pe_lst pa_nil) (pa_cons (pe_ix ix_tup (pv 3) pe_int (fun _ _ => rfl)) pa_nil))) pa_nil))))) pss_nil)
    (pss_cons (ps_set (i := 4) scJoin.nd rfl (Or.inl rfl) (pe_cl (ok_half T) (hr.mono (by omega)) (pa_cons (pv 1) pa_nil)))
    (pss_cons (ps_if (pt_cmpR op_le (pv 2) (pv 4) (nomark _))
      (pss_cons (ps_asg (pe_cl ih hr (pa_cons (pv 0) (pa_cons (pv 4) (pa_cons (pv 2) (pa_cons (pe_slice sl_tup (pv 3) po_none (po_some (pe_un un_neg pe_int))) pa_nil))))) (pg_tup (by rfl) (pgs_cons (pg_name (i := 5) scJoin.nd rfl (Or.inl rfl)) (pgs_cons (pg_name (i := 6) scJoin.nd rfl (Or.inl rfl)) pgs_nil))))
      (pss_cons (ps_set (i := 7) scJoin.nd rfl (Or.inl rfl) (pe_tup (pa_cons pe_str (pa_cons (pe_ix ix_tup (pv 5) pe_int (fun _ _ => rfl)) (pa_cons (pe_ix ix_tup (pv 3) (pe_un un_neg pe_int) (fun _ _ => rfl)) pa_nil)))))
      (pss_one (ps_ret (pe_tup (pa_cons (pe_tup (pa_cons (pe_op op_cat (pe_ix ix_tup (pv 5) pe_int (fun _ _ => rfl)) (pe_lst (pa_cons (pv 7) pa_nil))) (pa_cons (pe_st (i := 0) T hr (pv 7) (hj := by omega)) pa_nil))) (pa_cons (pv 6) pa_nil)))))))
      pss_nil)
    (pss_cons (ps_asg (pe_cl ih hr (pa_cons (pv 0) (pa_cons (pe_op op_sub (pv 1) (pv 4)) (pa_cons (pe_op op_sub (pv 2) (pv 4)) (pa_cons (pe_slice sl_tup (pv 3) (po_some pe_int) po_none) pa_nil))))) (pg_tup (by rfl) (pgs_cons (pg_name (i := 5) scJoin.nd rfl (Or.inl rfl)) (pgs_cons (pg_name (i := 6) scJoin.nd rfl (Or.inl rfl)) pgs_nil))))
    (pss_cons (ps_set (i := 7) scJoin.nd rfl (Or.inl rfl) (pe_tup (pa_cons pe_str (pa_cons (pe_ix ix_tup (pv 3) pe_int (fun _ _ => rfl)) (pa_cons (pe_ix ix_tup (pv 5) pe_int (fun _ _ => rfl)) pa_nil)))))
    (pss_cons (ps_set (i := 8) scJoin.nd rfl (Or.inl rfl) (pe_tup (pa_cons pe_str (pa_cons (pe_ix ix_tup (pv 3) pe_int (fun _ _ => rfl)) (pa_cons (pe_ix ix_tup (pv 6) pe_int (fun _ _ => rfl)) pa_nil)))))
    (pss_one (ps_ret (pe_tup (pa_cons (pe_tup (pa_cons (pe_op op_cat (pe_ix ix_tup (pv 5) pe_int (fun _ _ => rfl)) (pe_lst (pa_cons (pv 7) pa_nil))) (pa_cons (pe_st (i := 0) T hr (pv 7) (hj := by omega)) pa_nil)))
      (pa_cons (pe_tup (pa_cons (pe_op op_cat (pe_ix ix_tup (pv 6) pe_int (fun _ _ => rfl)) (pe_lst (pa_cons (pv 8) pa_nil))) (pa_cons (pe_st (i := 0) T hr (pv 8) (hj := by omega)) pa_nil))) pa_nil)))))))))), ?_⟩
  refine ⟨_, rfl, _, rfl, rfl, _, rfl, ite2 (fun c => ?_) (fun c => ?_)⟩
  · have he : e = n := by have := of_decide_eq_true c; injection this with this; omega
    subst he
    rw [howMany_same (by omega)] at hml
    obtain ⟨m, rfl⟩ := List.length_eq_one_iff.mp hml
    exact base_ok (n := e) rfl hma (hv m (List.mem_cons_self ..)) (hs.le (by omega)) q
  have hne : e < n := by
    refine Nat.lt_of_le_of_ne hle fun z => c ?_
    rw [z]; exact decide_eq_true rfl
  have hlt := half_lt (n := n) (by omega)
  have hpos := half_pos n
  have hge := half_ge (n := n) (by omega)
  have hpw := half_le_pow (by omega) hn
  have hn60 : n ≤ 2 ^ 60 := Nat.le_trans hn (Nat.pow_le_pow_right (by decide) (by omega))
  have hmb : ms.length ≤ 50 := by
    have := howMany_le (d + 1) (e := e) hn
    omega
  refine ⟨_, rfl, n, rfl, by omega, hn60, ?_⟩
  refine ⟨_, rfl, _, rfl, _, _, rfl, rfl, _, rfl, ite2 (fun c2 => ?_) (fun c2 => ?_)⟩
  · have h4 : e ≤ half n := by have := of_decide_eq_true c2; omega
    rw [howMany_l hne h1 h4] at hml
    obtain ⟨ms1, m, rfl⟩ : ∃ ms1 m, ms = ms1 ++ [m] := by
      rcases List.eq_nil_or_concat ms with z | ⟨l, b, z⟩
      · rw [z] at hml; simp at hml
      · exact ⟨l, b, by rw [z, List.concat_eq_append]⟩
    have hl1 : ms1.length = howMany (half n) e := by rw [List.length_append] at hml; exact Nat.succ.inj hml
    have ecut : cutV (kVs (ms1 ++ [m])) none (some (-1)) = kVs ms1 := by
      rw [cut_head, List.length_map, List.length_append, ← List.map_take]
      congr 1
      exact List.take_left' (by show ms1.length = ms1.length + 1 - 1; omega)
    have hlen : (ms1 ++ [m]).length = ms1.length + 1 := by rw [List.length_append]; rfl
    have hks : ksum (ms1 ++ [m]) = ksum ms1 + klen m := by rw [ksum_append, ksum_cons, ksum_nil]; omega
    have hvm : Vk m := hv m (by simp)
    refine ⟨_, rfl, _, rfl, _, rfl, _, rfl, 1, rfl, -1, rfl, ma, _, rfl, SqT.of hma, ?_, fun p hp => ?_⟩
    · rintro ⟨_, z⟩
      have z : (-1 + ((kVs (ms1 ++ [m])).length : Int)).toNat = (kVs (ms1 ++ [m])).length := z
      rw [List.length_map, List.length_append] at z
      simp at z
      omega
    rw [ecut]
    have kp0 : Kp H (upd H p (.tup (kVs ms1))) := (Kp.refl H).new hp _
    refine ⟨g, p, half n, e, ms1, k, T0, r + 2, rfl, h1, h4, hpw, upd_same, hl1, fun k hk => hv k (by simp [hk]), by omega, (hs.new hp _).le (by rw [List.length_append]; show _ ≤ r + 2 * (ms1.length + 1); omega), fun pr py po ly lo bsy bso yts ots y o T1 H2 sa1 le1 kp1 ja jb jt => ?_⟩
    have kpA := kp0.trans kp1
    have hby := jb.by_
    have hma2 := kpA.tup hma
    refine ⟨pr, _, rfl, SqT.of ja.hr, rfl, _, _, rfl, _, _, rfl, rfl, ?_⟩
    refine ⟨_, rfl, py, _, _, _, rfl, rfl, SqT.of ja.hy, at_of (j := 1) rfl rfl, _, rfl, 1, rfl, ma, _, _, _, rfl, rfl, SqT.of hma2, atI_last (v := kV m) (by rw [List.getLast?_map, getLast_snoc]; rfl), z3, fun jp hjp => ?_⟩
    have okj : OkT (tJoint y m) := ok_joint jb.vy hvm (by omega)
    have kj : Kp H2 (upd H2 jp (.tup (kVs (tJoint y m)))) := (Kp.refl H2).new hjp _
    show tSide K 5 7 [some (.ref g), some (.int n), some (.int e), some (.ref ma), some (.int (half n : Nat)), some (.ref py), some (.ref po), some (.ref jp), none] (upd H2 jp (.tup (kVs (tJoint y m)))) (fun x H1 => tCons (tVar 6) tNil [some (.ref g), some (.int n), some (.int e), some (.ref ma), some (.int (half n : Nat)), some (.ref py), some (.ref po), some (.ref jp), none] H1 fun xs H2 => (x :: xs).length ≤ sizeLine ∧ ∀ p, H2 p = none → Q (.ref p) (upd H2 p (.tup (x :: xs))))
    refine side_ok (σ := [some (.ref g), some (.int n), some (.int e), some (.ref ma), some (.int (half n : Nat)), some (.ref py), some (.ref po), some (.ref jp), none]) (i := 5) (j := 7) (K := K) (bs := bsy) (t := tJoint y m) (k := k) (T := T1) (r := r + 1) rfl rfl rfl (kj.tup ja.hy) (kj.lst ja.ly_) upd_same okj (by rw [ja.ty.len]; have := jb.ny; omega) (sa1.new hjp _) fun p3 lp s' T2 H3 sa2 le2 hs2 kp2 hp3 hlp => ?_
    refine ⟨_, rfl, z2, fun pr2 hpr2 => ?_⟩
    have kF : Kp H3 (upd H3 pr2 (.tup [.ref p3, .ref po])) := (Kp.refl H3).new hpr2 _
    have kE : Kp H2 (upd H3 pr2 (.tup [.ref p3, .ref po])) := (kj.trans kp2).trans kF
    have hbd := sa2.bd _ _ hs2
    rw [len_joint] at hbd
    have l3 : (tJoint y m).length = 3 := rfl
    refine q pr2 p3 po lp lo (bsy ++ [jp]) bso (yts ++ [tJoint y m]) ots s' o T2 _ ((sa2.new hpr2 _).le (by omega)) (fun _ _ h => le2 _ _ (le1 _ _ h)) (kpA.trans kE) ⟨upd_same, kF.tup hp3, kE.tup ja.ho, kF.lst hlp, kE.lst ja.lo_, (ja.ty.kp kE).app (TsAt.one ((kp2.trans kF).tup upd_same)), ja.to.kp kE⟩
      ⟨by rw [hks, hlen]; omega, by have := jb.bo; rw [hks, hlen]; omega, sa2.vd _ _ hs2, jb.vo, fun t ht => (List.mem_append.mp ht).elim (jb.ky t) fun z => by rw [List.mem_singleton.mp z]; exact okj, jb.ko, by rw [List.length_append, hlen]; have := jb.ny; show _ + 1 ≤ _; omega, by have := jb.no; rw [hlen]; omega⟩ (.left hne h4 (jt.mono le2) hs2)
  · have h4 : half n < e := by
      have : ¬ ((e : Int) ≤ (half n : Nat)) := fun z => c2 (decide_eq_true z)
      omega
    rw [howMany_r hne h4] at hml
    obtain ⟨m, ms1, rfl⟩ : ∃ m ms1, ms = m :: ms1 := by
      cases ms with
      | nil => simp at hml
      | cons m ms1 => exact ⟨m, ms1, rfl⟩
    have hl1 : ms1.length = howMany (n - half n) (e - half n) := Nat.succ.inj hml
    have ecut : cutV (kVs (m :: ms1)) (some 1) none = kVs ms1 := by
      rw [cut_tail, List.length_map, List.length_cons]
      have : min 1 (ms1.length + 1) = 1 := by omega
      rw [this]
      rfl
    have hlen : (m :: ms1).length = ms1.length + 1 := rfl
    have hks : ksum (m :: ms1) = klen m + ksum ms1 := ksum_cons m ms1
    have hvm : Vk m := hv m (List.mem_cons_self ..)
    have e1 : ((n : Int) - (half n : Nat)) = ((n - half n : Nat) : Int) := by omega
    have e2 : ((e : Int) - (half n : Nat)) = ((e - half n : Nat) : Int) := by omega
    refine ⟨_, rfl, _, rfl, _, rfl, _, _, rfl, rfl, _, rfl, _, rfl, _, _, rfl, rfl, _, rfl, 1, rfl, ma, _, rfl, SqT.of hma, ?_, fun p hp => ?_⟩
    · rintro ⟨z, _⟩
      have z : min (1 : Int).toNat (kVs (m :: ms1)).length = 0 := z
      rw [List.length_map, List.length_cons] at z
      have : (1 : Int).toNat = 1 := rfl
      omega
    rw [ecut]
    have kp0 : Kp H (upd H p (.tup (kVs ms1))) := (Kp.refl H).new hp _
    refine ⟨g, p, n - half n, e - half n, ms1, k, T0, r + 2, ?_, by omega, by omega, by omega, upd_same, hl1, fun k hk => hv k (List.mem_cons_of_mem _ hk), by omega, (hs.new hp _).le (by omega), fun pr py po ly lo bsy bso yts ots y o T1 H2 sa1 le1 kp1 ja jb jt => ?_⟩
    · show [V.ref g, V.int ((n : Int) - (half n : Nat)), V.int ((e : Int) - (half n : Nat)), V.ref p] = _
      rw [e1, e2]
    have kpA := kp0.trans kp1
    have hby := jb.by_
    have hbo := jb.bo
    have hma2 := kpA.tup hma
    refine ⟨pr, _, rfl, SqT.of ja.hr, rfl, _, _, rfl, _, _, rfl, rfl, ?_⟩
    refine ⟨_, rfl, ma, _, _, _, rfl, rfl, SqT.of hma2, at_of (j := 0) rfl rfl, _, rfl, py, _, _, _, rfl, rfl, SqT.of ja.hy, at_of (j := 1) rfl rfl, z3, fun jp hjp => ?_⟩
    have okj : OkT (tJoint m y) := ok_joint hvm jb.vy (by omega)
    have okk : OkT (tJoint m o) := ok_joint hvm jb.vo (by omega)
    have kj : Kp H2 (upd H2 jp (.tup (kVs (tJoint m y)))) := (Kp.refl H2).new hjp _
    refine ⟨_, rfl, ma, _, _, _, rfl, rfl, SqT.of (kj.tup hma2), at_of (j := 0) rfl rfl, _, rfl, po, _, _, _, rfl, rfl, SqT.of (kj.tup ja.ho), at_of (j := 1) rfl rfl, z3, fun kp hkp => ?_⟩
    have kk : Kp (upd H2 jp (.tup (kVs (tJoint m y)))) (upd (upd H2 jp (.tup (kVs (tJoint m y)))) kp (.tup (kVs (tJoint m o)))) := (Kp.refl _).new hkp _
    have kjk := kj.trans kk
    show tSide K 5 7 [some (.ref g), some (.int n), some (.int e), some (.ref ma), some (.int (half n : Nat)), some (.ref py), some (.ref po), some (.ref jp), some (.ref kp)] (upd (upd H2 jp (.tup (kVs (tJoint m y)))) kp (.tup (kVs (tJoint m o)))) (fun x H1 => tCons (tSide K 6 8) tNil [some (.ref g), some (.int n), some (.int e), some (.ref ma), some (.int (half n : Nat)), some (.ref py), some (.ref po), some (.ref jp), some (.ref kp)] H1 fun xs H2 => (x :: xs).length ≤ sizeLine ∧ ∀ p, H2 p = none → Q (.ref p) (upd H2 p (.tup (x :: xs))))
    refine side_ok (σ := [some (.ref g), some (.int n), some (.int e), some (.ref ma), some (.int (half n : Nat)), some (.ref py), some (.ref po), some (.ref jp), some (.ref kp)]) (i := 5) (j := 7) (K := K) (bs := bsy) (t := tJoint m y) (k := k) (T := T1) (r := r + 1) rfl rfl rfl (kjk.tup ja.hy) (kjk.lst ja.ly_) (kk.tup upd_same) okj (by rw [ja.ty.len]; have := jb.ny; omega) ((sa1.new hjp _).new hkp _) fun p3 lp s' T2 H3 sa2 le2 hs2 kp2 hp3 hlp => ?_
    have kE := kjk.trans kp2
    refine side_ok (σ := [some (.ref g), some (.int n), some (.int e), some (.ref ma), some (.int (half n : Nat)), some (.ref py), some (.ref po), some (.ref jp), some (.ref kp)]) (i := 6) (j := 8) (K := K) (bs := bso) (t := tJoint m o) (k := k) (T := T2) (r := r) rfl rfl rfl (kE.tup ja.ho) (kE.lst ja.lo_) (kp2.tup upd_same) okk (by rw [ja.to.len]; have := jb.no; omega) sa2 fun p4 lp4 s4 T3 H4 sa3 le3 hs3 kp3 hp4 hlp4 => ?_
    refine ⟨z2, fun pr2 hpr2 => ?_⟩
    have kF : Kp H4 (upd H4 pr2 (.tup [.ref p3, .ref p4])) := (Kp.refl H4).new hpr2 _
    have kG := kp3.trans kF
    have kH := kE.trans kG
    have hbd := sa2.bd _ _ hs2
    have hbd2 := sa3.bd _ _ hs3
    rw [len_joint] at hbd hbd2
    have l3 : (tJoint m y).length = 3 := rfl
    have l4 : (tJoint m o).length = 3 := rfl
    refine q pr2 p3 p4 lp lp4 (bsy ++ [jp]) (bso ++ [kp]) (yts ++ [tJoint m y]) (ots ++ [tJoint m o]) s' s4 T3 _ (sa3.new hpr2 _) (fun _ _ h => le3 _ _ (le2 _ _ (le1 _ _ h))) (kpA.trans kH)
      ⟨upd_same, kG.tup hp3, kF.tup hp4, kG.lst hlp, kF.lst hlp4, (ja.ty.kp kH).app (TsAt.one ((kk.trans (kp2.trans kG)).tup upd_same)), (ja.to.kp kH).app (TsAt.one ((kp2.trans kG).tup upd_same))⟩
      ⟨by rw [hks, hlen]; omega, by rw [hks, hlen]; omega, sa2.vd _ _ hs2, sa3.vd _ _ hs3, fun t ht => (List.mem_append.mp ht).elim (jb.ky t) fun z => by rw [List.mem_singleton.mp z]; exact okj, fun t ht => (List.mem_append.mp ht).elim (jb.ko t) fun z => by rw [List.mem_singleton.mp z]; exact okk,
        by rw [List.length_append, hlen]; have := jb.ny; show _ + 1 ≤ _; omega, by rw [List.length_append, hlen]; have := jb.no; show _ + 1 ≤ _; omega⟩ (.right hne h4 (jt.mono fun _ _ h => le3 _ _ (le2 _ _ h)) (le3 _ _ hs2) hs3)
theorem ok_join (T : Txt K mg) : ∀ d, d ≤ 40 → Pr P w K mg base (6 + d) "joined" ["stamper", "count", "elder", "marks"] (spJoin d)
  | 0, _ => ok_join0 T
  | d + 1, h => ok_joinS T (by omega) (ok_join T d (by omega))
end
end Rs
set_option Elab.async false
set_option linter.all false
set_option maxRecDepth 100000
set_option maxHeartbeats 4000000
/-! Rootstamp, growth_terms, growth_answer, _law_grown. -/
namespace Rs
open PySem PySem.Spec PyProof.Rows L2
section
variable {P : Program} {w : World} {K : PySem.W.Frag} {mg : Str → Option Value} {base : Heap}
/-- x[0] + [('row', count, x[1])] -/
def tRowS (K : PySem.W.Frag) (i j : Nat) : TE := tOp rCat (tOp (rIxT K) (tVar i) (tC (.int 0))) (tLst (tCons (tTup (tCons (tC (.str "row")) (tCons (tVar j) (tCons (tOp (rIxT K) (tVar i) (tC (.int 1))) tNil)))) tNil))
theorem row_ok {i j : Nat} {σ : L2.St} {H : Hp} {Q : VK} {py ly : Addr} {y : Key} {n : Nat} {bs : List Addr} (hi : σ[i]? = some (some (.ref py))) (hj : σ[j]? = some (some (.int (n : Int)))) (hy : H py = some (.tup [.ref ly, kV y])) (hl : H ly = some (.lst (bs.map V.ref))) (hb : bs.length ≤ 1000)
    (q : ∀ (l b : Addr) (H' : Hp), Same H H' → H' l = some (.lst ((bs ++ [b]).map V.ref)) → H' b = some (.tup (kVs (tRow n y))) → Q (.ref l) H') : tRowS K i j σ H Q := by
  have hz := sizeLine_eq
  have z3 : 3 ≤ sizeLine := by omega
  refine ⟨_, hi, py, _, _, _, rfl, rfl, SqT.of hy, at_of (j := 0) rfl rfl, _, hj, _, hi, py, _, _, _, rfl, rfl, SqT.of hy, at_of (j := 1) rfl rfl, z3, fun b hb1 => ⟨(by show 1 ≤ _; omega), fun l1 hl1 => ?_⟩⟩
  have s1 : Same H (upd H b (.tup (kVs (tRow n y)))) := same_new hb1 _
  have s2 : Same (upd H b (.tup (kVs (tRow n y)))) (upd (upd H b (.tup (kVs (tRow n y)))) l1 (.lst [.ref b])) := same_new hl1 _
  refine ⟨ly, l1, _, _, rfl, rfl, s2 _ _ (s1 _ _ hl), upd_same, by rw [List.length_map]; show _ + 1 ≤ _; omega, fun l hl2 => ?_⟩
  have s3 : Same (upd (upd H b (.tup (kVs (tRow n y)))) l1 (.lst [.ref b])) (upd (upd (upd H b (.tup (kVs (tRow n y)))) l1 (.lst [.ref b])) l (.lst (bs.map V.ref ++ [.ref b]))) := same_new hl2 _
  refine q l b _ (fun a o h => s3 _ _ (s2 _ _ (s1 _ _ h))) ?_ (s3 _ _ (s2 _ _ upd_same))
  rw [List.map_append]; exact upd_same
structure GAt (H : Hp) (pr ly lo : Addr) (bsy bso : List Addr) (yts ots : List Term) (n e : Nat) (y o : Key) : Prop where
  hr : H pr = some (.tup [.ref ly, .ref lo])
  ly_ : H ly = some (.lst (bsy.map V.ref))
  lo_ : H lo = some (.lst (bso.map V.ref))
  ty : TsAt H bsy (yts ++ [tRow n y])
  to : TsAt H bso (ots ++ [tRow e o])
def spGT : Sp := fun vs H Q _ => ∃ (f ma : Addr) (n e : Nat) (ms : List Key) (k : Kd) (T : TR) (r : Nat), vs = [.ref f, .int n, .int e, .ref ma] ∧ 1 ≤ e ∧ e ≤ n ∧ n ≤ 2 ^ 13 ∧ H ma = some (.tup (kVs ms)) ∧ ms.length = howMany n e ∧ (∀ k ∈ ms, Vk k) ∧ ksum ms ≤ 5000000 ∧
  SA k f T (r + 2 * ms.length) H ∧ ∀ (pr ly lo : Addr) (bsy bso : List Addr) (yts ots : List Term) (y o : Key) (T' : TR) (H' : Hp), SA k f T' r H' → LeT T T' → Kp H H' → GAt H' pr ly lo bsy bso yts ots n e y o → (∀ t ∈ yts ++ [tRow n y], OkT t) → (∀ t ∈ ots ++ [tRow e o], OkT t) → bsy.length ≤ 100 → bso.length ≤ 100 → JT T' n e ms yts y ots o → Q (.ref pr) H'
theorem scGT : FnScope ["stamper", "count", "elder", "marks", "younger", "older", "bare"] ["stamper", "count", "elder", "marks"] (defScope (top 28)) := ⟨rfl, rfl, rfl, by decide +kernel, rfl, by decide +kernel, by decide +kernel⟩
theorem ok_gterms (T : Txt K mg) : Pr P w K mg base 20 "growth_terms" ["stamper", "count", "elder", "marks"] spGT := by
  refine T.growth_terms_.ok scGT (fun vs H Q E h => ?_) (fun f cdv A outer s H vs Q E hr h => ?_)
  · obtain ⟨_, _, _, _, _, _, _, _, rfl, _⟩ := h; rfl
  obtain ⟨g, ma, n, e, ms, k, T0, r, rfl, h1, hle, hn, hma, hml, hv, hsz, hs, q⟩ := h
  have hz := sizeLine_eq
  have z2 : 2 ≤ sizeLine := by omega
  have hn2 : n ≤ 8192 := hn
  have hmb : ms.length ≤ 14 := by
    have := howMany_le 13 (e := e) hn
    omega
  refine ⟨_, pss_cons (ps_if (PW.pt (pw_or (pt_not (pt_val (pe_cl (ok_below T) (hr.mono (by decide)) (pa_cons (pv 1) (pa_cons (pe_op op_shl pe_int pe_int) pa_nil))))) (pw_or1 (pt_not (pt_val (pe_cl (ok_below T) (hr.mono (by decide)) (pa_cons (pv 2) (pa_cons (pe_op op_add (pv 1) pe_int) pa_nil)))))))) (pss_one ps_never) pss_nil)
    (pss_cons (ps_if (pt_not (pt_val (pe_cl (ok_marks T) (hr.mono (by decide)) (pa_cons (pv 3) (pa_cons (pe_cl (ok_many T) (hr.mono (by decide)) (pa_cons (pv 1) (pa_cons (pv 2) pa_nil))) pa_nil))))) (pss_one ps_never) pss_nil)
    (pss_cons (ps_if (pt_cmpR op_gt (pv 2) pe_int (nomark _))
      (pss_cons (ps_asg (pe_cl (ok_join T 13 (by decide)) hr (pa_cons (pv 0) (pa_cons (pv 1) (pa_cons (pv 2) (pa_cons (pv 3) pa_nil))))) (pg_tup (by rfl) (pgs_cons (pg_name (i := 4) scGT.nd rfl (Or.inl rfl)) (pgs_cons (pg_name (i := 5) scGT.nd rfl (Or.inl rfl)) pgs_nil))))
      (pss_one (ps_ret (pe_tup (pa_cons (pe_op op_cat (pe_ix ix_tup (pv 4) pe_int (fun _ _ => rfl)) (pe_lst (pa_cons (pe_tup (pa_cons pe_str (pa_cons (pv 1) (pa_cons (pe_ix ix_tup (pv 4) pe_int (fun _ _ => rfl)) pa_nil)))) pa_nil)))
        (pa_cons (pe_op op_cat (pe_ix ix_tup (pv 5) pe_int (fun _ _ => rfl)) (pe_lst (pa_cons (pe_tup (pa_cons pe_str (pa_cons (pv 2) (pa_cons (pe_ix ix_tup (pv 5) pe_int (fun _ _ => rfl)) pa_nil)))) pa_nil))) pa_nil))))))
      pss_nil)
    (pss_cons ps_never (pss_cons ps_never (pss_one ps_never))))), ?_⟩
  refine ⟨_, rfl, _, _, rfl, rfl, ⟨by decide, by decide, by decide⟩, (n : Int), _, rfl, by omega, ?_, _, rfl, ?_⟩
  · show (n : Int) < 1 * 2 ^ 60
    omega
  refine iteF ⟨_, rfl, _, rfl, _, _, rfl, rfl, (e : Int), _, rfl, by omega, by omega, _, rfl, iteF ?_⟩
  refine ⟨_, rfl, _, rfl, _, rfl, n, e, rfl, h1, hle, by omega, ma, ms, ?_, hma, hv, _, rfl, iteF ?_⟩
  · show [V.ref ma, V.int ((howMany n e : Nat) : Int)] = _
    rw [hml]
  refine ⟨_, rfl, _, _, rfl, rfl, _, rfl, ite2 (fun _ => ?_) (fun c => absurd (decide_eq_true (by omega)) c)⟩
  refine ⟨_, rfl, _, rfl, _, rfl, _, rfl, ?_⟩
  refine ⟨g, ma, n, e, ms, k, T0, r, rfl, h1, hle, hn, hma, hml, hv, hsz, hs, fun pr py po ly lo bsy bso yts ots y o T1 H2 sa le kp ja jb jt => ?_⟩
  have hby := jb.by_
  have hbo := jb.bo
  have hny := jb.ny
  have hno := jb.no
  have hly := ja.ty.len
  have hlo := ja.to.len
  refine ⟨pr, _, rfl, SqT.of ja.hr, rfl, _, _, rfl, _, _, rfl, rfl, ?_⟩
  show tRowS K 4 1 [some (.ref g), some (.int n), some (.int e), some (.ref ma), some (.ref py), some (.ref po), none] H2 (fun x H1 => tCons (tRowS K 5 2) tNil [some (.ref g), some (.int n), some (.int e), some (.ref ma), some (.ref py), some (.ref po), none] H1 fun xs H2 => (x :: xs).length ≤ sizeLine ∧ ∀ p, H2 p = none → Q (.ref p) (upd H2 p (.tup (x :: xs))))
  refine row_ok (i := 4) (j := 1) (n := n) rfl rfl ja.hy ja.ly_ (by omega) fun l1 b1 H3 s3 hl1 hb1 => ?_
  refine row_ok (i := 5) (j := 2) (n := e) rfl rfl (s3 _ _ ja.ho) (s3 _ _ ja.lo_) (by omega) fun l2 b2 H4 s4 hl2 hb2 => ?_
  refine ⟨z2, fun p hp => ?_⟩
  have s5 : Same H4 (upd H4 p (.tup [.ref l1, .ref l2])) := same_new hp _
  have s45 : Same H3 (upd H4 p (.tup [.ref l1, .ref l2])) := fun a o h => s5 _ _ (s4 _ _ h)
  have sE : Same H2 (upd H4 p (.tup [.ref l1, .ref l2])) := fun a o h => s45 _ _ (s3 _ _ h)
  refine q p l1 l2 (bsy ++ [b1]) (bso ++ [b2]) yts ots y o T1 _ (sa.same sE) le (kp.trans (Kp.of sE)) ⟨upd_same, s45 _ _ hl1, s5 _ _ hl2, (ja.ty.kp (Kp.of sE)).app (TsAt.one (s45 _ _ hb1)), (ja.to.kp (Kp.of sE)).app (TsAt.one (s5 _ _ hb2))⟩
    (fun t ht => (List.mem_append.mp ht).elim (jb.ky t) fun z => by rw [List.mem_singleton.mp z]; exact ok_row (by omega) jb.vy (by omega)) (fun t ht => (List.mem_append.mp ht).elim (jb.ko t) fun z => by rw [List.mem_singleton.mp z]; exact ok_row (by omega) jb.vo (by omega))
    (by rw [List.length_append]; show _ + 1 ≤ _; omega) (by rw [List.length_append]; show _ + 1 ≤ _; omega) jt
/-! growth_answer -/
def spGA (C : Addr) : Sp := fun vs H Q E => ∃ (f ha ma : Addr) (n e : Nat) (hk : Key) (ms : List Key) (k : Kd) (T : TR) (r : Nat), vs = [.ref f, .ref ha, .int e, .ref ma] ∧ HeadAt H ha n hk ∧ Vk hk ∧ 1 ≤ e ∧ e ≤ n ∧ n ≤ 2 ^ 13 ∧ H ma = some (.tup (kVs ms)) ∧ ms.length = howMany n e ∧ (∀ k ∈ ms, Vk k) ∧ ksum ms ≤ 5000000 ∧
  SA k f T (r + 2 * ms.length + 2) H ∧ (∀ (yts ots : List Term) (y o s' : Key) (T' : TR) (H' : Hp), SA k f T' r H' → LeT T T' → Kp H H' → JT T' n e ms yts y ots o → T' (tRow n y) hk → T' (tRow e o) s' → Q (kV s') H') ∧
  (∀ (yts ots : List Term) (y o s' : Key) (T' : TR) (H' : Hp) (d : Option Addr), SA k f T' r H' → LeT T T' → Kp H H' → JT T' n e ms yts y ots o → T' (tRow n y) s' → s' ≠ hk → E (.ref C) d H')
theorem scGA : FnScope ["stamper", "head", "elder", "marks", "younger", "older", "came"] ["stamper", "head", "elder", "marks"] (defScope (top 29)) := ⟨rfl, rfl, rfl, by decide +kernel, rfl, by decide +kernel, by decide +kernel⟩
theorem ok_gans (T : Txt K mg) {C : Addr} (B : Brk K mg C) : PrX P w K mg base 21 "growth_answer" ["stamper", "head", "elder", "marks"] (spGA C) := by
  refine T.growth_answer_.okX scGA (fun vs H Q E h => ?_) (fun f cdv A outer s H vs Q E hr h => ?_)
  · obtain ⟨_, _, _, _, _, _, _, _, _, _, rfl, _⟩ := h; rfl
  obtain ⟨g, ha, ma, n, e, hk, ms, k, T0, r, rfl, hh, hvk, h1, hle, hn, hma, hml, hv, hsz, hs, q1, q2⟩ := h
  have hn2 : n ≤ 8192 := hn
  refine ⟨_, pss_cons (ps_if (pt_not (pt_val (pe_cl (ok_head T) (hr.mono (by decide)) (pa_cons (pv 1) pa_nil)))) (pss_one ps_never) pss_nil)
    (pss_cons (ps_asg (pe_cl (ok_gterms T) hr (pa_cons (pv 0) (pa_cons (pe_ix ix_tup (pv 1) pe_int (fun _ _ => rfl)) (pa_cons (pv 2) (pa_cons (pv 3) pa_nil))))) (pg_tup (by rfl) (pgs_cons (pg_name (i := 4) scGA.nd rfl (Or.inl rfl)) (pgs_cons (pg_name (i := 5) scGA.nd rfl (Or.inl rfl)) pgs_nil))))
    (pss_cons (ps_set (i := 6) scGA.nd rfl (Or.inl rfl) (pe_st (i := 0) T hr (pe_ix ix_list (pv 4) (pe_un un_neg pe_int) (fun _ _ => rfl))))
    (pss_cons (ps_if (pt_cmpR op_ne (pv 6) (pe_ix ix_tup (pv 1) pe_int (fun _ _ => rfl)) (nomark _)) (pss_one (ps_brk B rfl (takes_of rfl rfl rfl rfl) hr (by decide) (pa_cons (pe_ix ix_tup (pv 1) pe_int (fun _ _ => rfl)) (pa_cons (pv 6) pa_nil)) (hm := ?_))) pss_nil)
    (pss_one (ps_ret (pe_st (i := 0) T hr (pe_ix ix_list (pv 5) (pe_un un_neg pe_int) (fun _ _ => rfl)))))))), ?_⟩
  · rintro σ H Q Q' m ⟨v, a, j, a1, a2, a3, a4, a5, a6, a7, u, b1, b2⟩
    exact ⟨v, a, j, a1, a2, a3, a4, a5, a6, a7, u, b1, m _ _ b2⟩
  refine ⟨_, rfl, ha, n, hk, rfl, hh, by omega, hvk, _, rfl, iteF ?_⟩
  refine ⟨_, rfl, _, rfl, ha, _, _, _, rfl, rfl, SqT.of hh, at_of (j := 0) rfl rfl, _, rfl, _, rfl, ?_⟩
  refine ⟨g, ma, n, e, ms, k, T0, r + 2, rfl, h1, hle, hn, hma, hml, hv, hsz, hs.le (by omega), fun pr ly lo bsy bso yts ots y o T1 H1 sa le kp ga oy oo _ _ jt => ?_⟩
  refine ⟨pr, _, rfl, SqT.of ga.hr, rfl, _, _, rfl, _, _, rfl, rfl, ?_⟩
  obtain ⟨c, hc, hct⟩ := tsLast ga.ty
  obtain ⟨c2, hc2, hct2⟩ := tsLast ga.to
  refine ⟨g, rfl, ⟨k, T1, _, sa⟩, _, rfl, 1, rfl, ly, _, _, _, rfl, rfl, SqL.of ga.ly_, atI_last (ref_last hc), c, _, k, T1, r + 1, rfl, hct, oy _ (by simp), sa, fun s' T2 H2 sa2 le2 hts2 kp2 => ?_⟩
  have hh' := (kp.trans kp2).tup hh
  have leA : LeT T0 T2 := fun _ _ h => le2 _ _ (le _ _ h)
  refine ⟨_, rfl, _, rfl, ha, _, _, _, rfl, rfl, SqT.of hh', at_of (j := 1) rfl rfl, scal_k _ _, _, rfl, ?_⟩
  by_cases es : s' = hk
  · subst es
    rw [decide_eq_true rfl]
    refine iteF ⟨g, rfl, ⟨k, T2, _, sa2⟩, _, rfl, 1, rfl, lo, _, _, _, rfl, rfl, SqL.of (kp2.lst ga.lo_), atI_last (ref_last hc2), c2, _, k, T2, r, rfl, kp2.tup hct2, oo _ (by simp), sa2, fun s3 T3 H3 sa3 le3 hts3 kp3 => ?_⟩
    exact q1 yts ots y o s3 T3 H3 sa3 (fun _ _ h => le3 _ _ (leA _ _ h)) ((kp.trans kp2).trans kp3) (jt.mono fun _ _ h => le3 _ _ (le2 _ _ h)) (le3 _ _ hts2) hts3
  · rw [decide_eq_false (fun z => es (kV_inj z))]
    refine iteT ?_
    exact ⟨_, rfl, ha, _, _, _, rfl, rfl, SqT.of hh', at_of (j := 1) rfl rfl, _, rfl, _, _, rfl, fun dx hdx => q2 yts ots y o s' T2 _ (some dx) ((sa2.new hdx _).le (by omega)) leA ((kp.trans kp2).new hdx _) (jt.mono le2) hts2 es⟩
/-! _law_grown -/
def spGrown : Sp := fun vs H Q _ => ∃ (f ma : Addr) (n e : Nat) (ms : List Key) (k : Kd) (T : TR) (r : Nat), vs = [.ref f, .int n, .int e, .ref ma] ∧ 1 ≤ e ∧ e ≤ n ∧ n ≤ 2 ^ 13 ∧ H ma = some (.tup (kVs ms)) ∧ ms.length = howMany n e ∧ (∀ k ∈ ms, Vk k) ∧ ksum ms ≤ 5000000 ∧
  SA k f T (r + 2 * ms.length) H ∧ ∀ (l : Addr) (bs : List Addr) (yts ots : List Term) (y o : Key) (T' : TR) (H' : Hp), SA k f T' r H' → LeT T T' → Kp H H' → H l = none → H' l = some (.lst (bs.map V.ref)) → TsAt H' bs ((yts ++ [tRow n y]) ++ (ots ++ [tRow e o])) → (∀ t ∈ (yts ++ [tRow n y]) ++ (ots ++ [tRow e o]), OkT t) → bs.length ≤ 200 → JT T' n e ms yts y ots o → Q (.ref l) H'
theorem scGrown : FnScope ["_law_stamper_here", "_law_count", "_law_elder", "_law_marks", "_law_found"] ["_law_stamper_here", "_law_count", "_law_elder", "_law_marks"] (defScope (top 61)) := ⟨rfl, rfl, rfl, by decide +kernel, rfl, by decide +kernel, by decide +kernel⟩
theorem ok_grown (T : Txt K mg) : Pr P w K mg base 21 "_law_grown" ["_law_stamper_here", "_law_count", "_law_elder", "_law_marks"] spGrown := by
  refine T.law_grown_.ok scGrown (fun vs H Q E h => ?_) (fun f cdv A outer s H vs Q E hr h => ?_)
  · obtain ⟨_, _, _, _, _, _, _, _, rfl, _⟩ := h; rfl
  obtain ⟨g, ma, n, e, ms, k, T0, r, rfl, h1, hle, hn, hma, hml, hv, hsz, hs, q⟩ := h
  have hz := sizeLine_eq
  refine ⟨_, pss_cons (ps_set (i := 4) scGrown.nd rfl (Or.inl rfl) (pe_cl (ok_gterms T) hr (pa_cons (pv 0) (pa_cons (pv 1) (pa_cons (pv 2) (pa_cons (pv 3) pa_nil))))))
    (pss_one (ps_ret (pe_op op_cat (pe_ix ix_tup (pv 4) pe_int (fun _ _ => rfl)) (pe_ix ix_tup (pv 4) pe_int (fun _ _ => rfl))))), ?_⟩
  refine ⟨_, rfl, _, rfl, _, rfl, _, rfl, ?_⟩
  refine ⟨g, ma, n, e, ms, k, T0, r, rfl, h1, hle, hn, hma, hml, hv, hsz, hs, fun pr ly lo bsy bso yts ots y o T1 H1 sa le kp ga oy oo b1 b2 jt => ?_⟩
  refine ⟨_, rfl, pr, _, _, _, rfl, rfl, SqT.of ga.hr, at_of (j := 0) rfl rfl, _, rfl, pr, _, _, _, rfl, rfl, SqT.of ga.hr, at_of (j := 1) rfl rfl, ly, lo, _, _, rfl, rfl, ga.ly_, ga.lo_, by rw [List.length_map, List.length_map]; omega, fun p hp => ?_⟩
  have kE : Kp H1 (upd H1 p (.lst (bsy.map V.ref ++ bso.map V.ref))) := (Kp.refl H1).new hp _
  refine q p (bsy ++ bso) yts ots y o T1 _ (sa.new hp _) le (kp.trans kE) (kp.n _ hp) (by rw [upd_same, List.map_append]) ((ga.ty.kp kE).app (ga.to.kp kE)) (fun t ht => (List.mem_append.mp ht).elim (oy t) (oo t)) (by rw [List.length_append]; omega) jt
end
end Rs
set_option Elab.async false
set_option linter.all false
set_option maxRecDepth 100000
set_option maxHeartbeats 4000000
/-! Rootstamp, the law's small defs: cells, texts, stamps, counts. -/
namespace Rs
open PySem PySem.Spec PyProof.Rows L2
theorem SqL.kp {K : PySem.W.Frag} {H H' : Hp} {a : Addr} {xs : List V} (h : SqL K H a xs) (k : Kp H H') : SqL K H' a xs := by
  rcases h with (h | ⟨o, h⟩) | h
  · exact .inl (.inl (k.lst h))
  · exact .inl (.inr ⟨o, k.k _ _ h (fun _ z => nomatch z)⟩)
  · exact .inr h
theorem atI_nat {α : Type} {xs : List α} {i : Int} {j : Nat} {v : α} (e : i = (j : Int)) (h : xs[j]? = some v) : atI xs i = some v := by
  have hj := (List.getElem?_eq_some_iff.mp h).1
  subst e
  unfold atI ixN
  rw [if_pos (by omega), if_pos (by omega)]
  exact h
def strIn : Expr → Str
  | .Constant (.str x) _ _ => x
  | .BinOp _ _ (.Constant (.str x) _ _) _ => x
  | _ => ""
def asgV : Stmt → Expr
  | .Assign _ v _ => v
  | _ => .Name "" ⟨0, 0, 0, 0⟩
/-- the law's signs -/
def al : Str := strIn (asgV ((defBody (top 37)).getD 0 (.Pass ⟨0, 0, 0, 0⟩))) ++ strIn (asgV ((defBody (top 37)).getD 1 (.Pass ⟨0, 0, 0, 0⟩)))
def alL : List Nat := al.cps.toList
theorem alL_len : alL.length = 94 := by decide +kernel
theorem alL_lt : ∀ c ∈ alL, c < 0x110000 := by decide +kernel
def sgn (i : Nat) : Str := ⟨#[alL.getD i 0]⟩
def textBy (z : Int) : Str := Txt.join "" ((List.range (z % 5).toNat).map fun k : Nat => sgn ((z / 5 + (k : Int) * (z / 470 % 7)) % 94).toNat)
def stampBy (z : Int) : Key := if z % 4 = 0 then .inr (textBy (z / 4)) else if z % 4 = 1 then .inl (z / 4 % 10 ^ 60) else .inl (z / 4 % 7)
theorem tl_text (z : Int) : TL.tl (textBy z) = (List.range (z % 5).toNat).map fun k : Nat => alL.getD ((z / 5 + (k : Int) * (z / 470 % 7)) % 94).toNat 0 := by
  unfold textBy
  rw [TL.join_eq, TL.tl_join]
  show TL.joinL [] _ = _
  rw [joinL_nil, List.map_map]
  generalize List.range (z % 5).toNat = l
  induction l with
  | nil => rfl
  | cons k l ih => rw [List.map_cons, List.map_cons, List.flatten_cons, ih]; rfl
theorem textBy_len (z : Int) : (textBy z).length ≤ 4 := by
  rw [TL.len_tl, tl_text, List.length_map, List.length_range]
  have := Int.emod_lt_of_pos z (b := 5) (by decide)
  omega
theorem sgn_lt (i : Nat) : alL.getD i 0 < 0x110000 := by
  by_cases h : i < alL.length
  · rw [List.getD_eq_getElem?_getD, List.getElem?_eq_getElem h]
    exact alL_lt _ (List.getElem_mem h)
  · rw [List.getD_eq_getElem?_getD, List.getElem?_eq_none (by omega)]
    decide
theorem textBy_ok (z : Int) : PySem.PyData.strOk (textBy z) = true := by
  refine strOk_of fun c hc => ?_
  rw [tl_text] at hc
  obtain ⟨k, _, rfl⟩ := List.mem_map.mp hc
  exact sgn_lt _
theorem stampBy_vk (z : Int) : Vk (stampBy z) := by
  unfold stampBy
  split
  · exact textBy_ok _
  · split
    · exact ⟨Int.emod_nonneg _ (by decide), Int.emod_lt_of_pos _ (by decide)⟩
    · have h1 := Int.emod_nonneg (z / 4) (b := 7) (by decide)
      have h2 := Int.emod_lt_of_pos (z / 4) (b := 7) (by decide)
      have h3 : (7 : Int) < 10 ^ 60 := by decide
      exact ⟨h1, by omega⟩
theorem stampBy_len (z : Int) : klen (stampBy z) ≤ 61 := by
  unfold stampBy
  split
  · have := textBy_len (z / 4)
    show (textBy _).length ≤ 61
    omega
  · split <;> exact Nat.le_refl 61
section
variable {P : Program} {w : World} {K : PySem.W.Frag} {mg : Str → Option Value} {base : Heap}
/-! _law_cell_at -/
abbrev iVs (ns : List Int) : List V := ns.map V.int
def spCell : Sp := fun vs H Q _ => ∃ (a : Addr) (ns : List Int) (j : Nat), vs = [.ref a, .int (j : Int)] ∧ SqL K H a (iVs ns) ∧ Q (.int (ns.getD j 0)) H
theorem scCell : FnScope ["_law_script", "_law_k"] ["_law_script", "_law_k"] (defScope (top 35)) := ⟨rfl, rfl, rfl, by decide +kernel, rfl, by decide +kernel, by decide +kernel⟩
theorem ok_cell (T : Txt K mg) : Pr P w K mg base 1 "_law_cell_at" ["_law_script", "_law_k"] (spCell (K := K)) := by
  refine T.law_cell_at_.ok scCell (fun vs H Q E h => ?_) (fun f cdv A outer s H vs Q E hr h => ?_)
  · obtain ⟨_, _, _, rfl, _⟩ := h; rfl
  obtain ⟨a, ns, j, rfl, ha, q⟩ := h
  refine ⟨_, pss_cons (ps_if (pt_cmpR op_lt (pv 1) (pe_callB call_len_seq (by rfl) T.b_len PySem.boot_len (pa_cons (pv 0) pa_nil)) (nomark _)) (pss_one (ps_ret (pe_ix ix_list (pv 0) (pv 1) (fun _ _ => rfl)))) pss_nil)
    (pss_one (ps_ret pe_int)), ?_⟩
  refine ⟨_, rfl, _, rfl, a, _, rfl, .inl ha, _, _, rfl, rfl, _, rfl, ite2 (fun c => ?_) (fun c => ?_)⟩
  · have hj : j < ns.length := by
      have := of_decide_eq_true c
      rw [List.length_map] at this
      omega
    refine ⟨_, rfl, _, rfl, a, _, _, V.int (ns.getD j 0), rfl, rfl, ha, at_of (j := j) rfl ?_, q⟩
    · rw [List.getElem?_map, List.getD_eq_getElem?_getD, List.getElem?_eq_getElem hj]; rfl
  · have hj : ns.length ≤ j := by
      have : ¬ ((j : Int) < ((iVs ns).length : Int)) := fun z => c (decide_eq_true z)
      rw [List.length_map] at this
      omega
    have e : ns.getD j 0 = 0 := by rw [List.getD_eq_getElem?_getD, List.getElem?_eq_none hj]; rfl
    rw [e] at q
    exact q
/-! _law_text_by, _law_stamp_by -/
def spText : Sp := fun vs H Q _ => ∃ z : Int, vs = [.int z] ∧ ∀ H', Same H H' → Q (.str (textBy z)) H'
theorem scText : FnScope ["_law_cell", "_law_some", "_law_k"] ["_law_cell"] (defScope (top 37)) := ⟨rfl, rfl, rfl, by decide +kernel, rfl, by decide +kernel, by decide +kernel⟩
theorem ok_text (T : Txt K mg) : Pr P w K mg base 1 "_law_text_by" ["_law_cell"] spText := by
  refine T.law_text_by_.ok scText (fun vs H Q E h => ?_) (fun f cdv A outer s H vs Q E hr h => ?_)
  · obtain ⟨_, rfl, _⟩ := h; rfl
  obtain ⟨z, rfl, q⟩ := h
  have hz := sizeLine_eq
  refine ⟨_, pss_cons (ps_set (i := 1) scText.nd rfl (Or.inr rfl) pe_str)
    (pss_cons (ps_set (i := 1) scText.nd rfl (Or.inr rfl) (pe_op op_add_str (pv 1) pe_str))
    (pss_one (ps_ret (pe_join pe_str (pe_lc (own := [("_law_k", 2)]) (g := gName 2) (tt := tYes) rfl scText.nd (pi_range1 (by rfl) T.b_range (pa_cons (pe_op op_mod (pv 0) pe_int) pa_nil)) (blkOk_by (N := ["_law_cell", "_law_some", "_law_k"]) (sc := defScope (top 37)) (by decide +kernel)) (fun _ _ _ _ _ => pg_name (i := 2) scText.nd rfl (Or.inl rfl)) (fun _ _ _ _ _ => pts_nil)
      (fun _ _ _ _ _ => pe_ix ix_str (pv 1) (pe_op op_mod (pe_op op_add (pe_op op_fdiv (pv 0) pe_int) (pe_op op_mul (pv 2) (pe_op op_mod (pe_op op_fdiv (pv 0) pe_int) pe_int))) pe_int) (fun _ _ => rfl))))))), ?_⟩
  have hm0 := Int.emod_nonneg z (b := 5) (by decide)
  have hm5 := Int.emod_lt_of_pos z (b := 5) (by decide)
  refine ⟨_, rfl, _, _, rfl, rfl, ?_, ?_⟩
  · show (strIn (asgV ((defBody (top 37)).getD 0 (.Pass ⟨0, 0, 0, 0⟩)))).length + (strIn (asgV ((defBody (top 37)).getD 1 (.Pass ⟨0, 0, 0, 0⟩)))).length ≤ _
    have : (strIn (asgV ((defBody (top 37)).getD 0 (.Pass ⟨0, 0, 0, 0⟩)))).length + (strIn (asgV ((defBody (top 37)).getD 1 (.Pass ⟨0, 0, 0, 0⟩)))).length ≤ 100 := by decide +kernel
    omega
  refine ⟨⟨_, rfl⟩, ?_⟩
  refine ⟨_, rfl, _, _, rfl, rfl, (by show (0 : Int) < 5; decide), z % 5, rfl, by omega, by omega, fun D hD => lc_range (lo := 0) (n := (z % 5).toNat) (fun i H' => Same H H' ∧ H' D = some (.lst (((List.range i).map fun k : Nat => sgn ((z / 5 + (k : Int) * (z / 470 % 7)) % 94).toNat).map V.str))) ⟨same_new hD _, upd_same⟩ ?_ ?_⟩
  · rintro i H' hi ⟨sm, hL⟩
    have hk0 := Int.emod_nonneg (z / 5 + (i : Int) * (z / 470 % 7)) (b := 94) (by decide)
    have hk9 := Int.emod_lt_of_pos (z / 5 + (i : Int) * (z / 470 % 7)) (b := 94) (by decide)
    refine ⟨rfl, _, rfl, _, rfl, _, _, rfl, rfl, ⟨by decide, by decide⟩, _, rfl, _, rfl, _, _, rfl, rfl, ⟨by decide, by decide⟩, _, _, rfl, rfl, (by show (0 : Int) < 7; decide), _, _, rfl, rfl, .inl ⟨by omega, by omega⟩, _, _, rfl, rfl, _, _, rfl, rfl, (by show (0 : Int) < 94; decide), ?_⟩
    refine ⟨al, (z / 5 + (i : Int) * (z / 470 % 7)) % 94, alL.getD ((z / 5 + (i : Int) * (z / 470 % 7)) % 94).toNat 0, rfl, ?_, ?_, atI_nat (j := ((z / 5 + (i : Int) * (z / 470 % 7)) % 94).toNat) ?_ ?_, _, hL, ?_, same_upd hD sm _, ?_⟩
    · show V.int ((z / 5 + (0 + (i : Int)) * (z / 470 % 7)) % 94) = _
      rw [Int.zero_add]
    · show alL.length ≤ _
      rw [alL_len]; omega
    · exact (Int.toNat_of_nonneg hk0).symm
    · show alL[_]? = _
      rw [List.getD_eq_getElem?_getD, List.getElem?_eq_getElem (by rw [alL_len]; omega)]; rfl
    · rw [List.length_map, List.length_map, List.length_range]; omega
    · rw [List.range_succ, List.map_append, List.map_append]
      exact upd_same
  · rintro H' ⟨sm, hL⟩
    refine ⟨"", D, (List.range (z % 5).toNat).map fun k : Nat => sgn ((z / 5 + (k : Int) * (z / 470 % 7)) % 94).toNat, rfl, rfl, .inl (SqL.of hL), ?_, q H' sm⟩
    have : ∀ l : List Nat, ((l.map fun k : Nat => sgn ((z / 5 + (k : Int) * (z / 470 % 7)) % 94).toNat).map (·.length)).sum = l.length := fun l => by
      induction l with
      | nil => rfl
      | cons k l ih => rw [List.map_cons, List.map_cons, List.sum_cons, ih, List.length_cons]; show 1 + _ = _; omega
    rw [this, List.length_range]
    show _ + _ * 0 ≤ _
    omega
def spSBy : Sp := fun vs H Q _ => ∃ z : Int, vs = [.int z] ∧ ∀ H', Same H H' → Q (kV (stampBy z)) H'
theorem scSBy : FnScope ["_law_cell"] ["_law_cell"] (defScope (top 38)) := ⟨rfl, rfl, rfl, by decide +kernel, rfl, by decide +kernel, by decide +kernel⟩
theorem ok_sby (T : Txt K mg) : Pr P w K mg base 2 "_law_stamp_by" ["_law_cell"] spSBy := by
  refine T.law_stamp_by_.ok scSBy (fun vs H Q E h => ?_) (fun f cdv A outer s H vs Q E hr h => ?_)
  · obtain ⟨_, rfl, _⟩ := h; rfl
  obtain ⟨z, rfl, q⟩ := h
  refine ⟨_, pss_cons (ps_if (pt_cmpR op_eq (pe_op op_mod (pv 0) pe_int) pe_int (nomark _)) (pss_one (ps_ret (pe_cl (ok_text T) hr (pa_cons (pe_op op_fdiv (pv 0) pe_int) pa_nil)))) pss_nil)
    (pss_cons (ps_if (pt_cmpR op_eq (pe_op op_mod (pv 0) pe_int) pe_int (nomark _)) (pss_one (ps_ret (pe_op op_mod (pe_op op_fdiv (pv 0) pe_int) (pe_op op_pow pe_int pe_int)))) pss_nil)
    (pss_one (ps_ret (pe_op op_mod (pe_op op_fdiv (pv 0) pe_int) pe_int)))), ?_⟩
  unfold stampBy at q
  refine ⟨_, rfl, _, _, rfl, rfl, (by show (0 : Int) < 4; decide), rfl, _, rfl, ite2 (fun c => ?_) (fun c => ?_)⟩
  · have h0 : z % 4 = 0 := by have := of_decide_eq_true c; injection this
    rw [if_pos h0] at q
    exact ⟨_, rfl, _, _, rfl, rfl, ⟨by decide, by decide⟩, _, rfl, q⟩
  · have h0 : ¬ z % 4 = 0 := fun e => c (decide_eq_true (by show V.int (z % 4) = V.int 0; rw [e]))
    rw [if_neg h0] at q
    refine ⟨_, rfl, _, _, rfl, rfl, (by show (0 : Int) < 4; decide), rfl, _, rfl, ite2 (fun c => ?_) (fun c => ?_)⟩
    · have h1 : z % 4 = 1 := by have := of_decide_eq_true c; injection this
      rw [if_pos h1] at q
      exact ⟨_, rfl, _, _, rfl, rfl, ⟨by decide, by decide⟩, _, _, rfl, rfl, ⟨by decide, by decide, by decide⟩, _, _, rfl, rfl, (by show (0 : Int) < 10 ^ 60; decide), q H fun _ _ h => h⟩
    · have h1 : ¬ z % 4 = 1 := fun e => c (decide_eq_true (by show V.int (z % 4) = V.int 1; rw [e]))
      rw [if_neg h1] at q
      exact ⟨_, rfl, _, _, rfl, rfl, ⟨by decide, by decide⟩, _, _, rfl, rfl, (by show (0 : Int) < 7; decide), q H fun _ _ h => h⟩
/-! _law_count_by, _law_lesser -/
def spCount : Sp := fun vs H Q _ => ∃ z : Int, vs = [.int z] ∧ ∀ n : Nat, 1 ≤ n → n ≤ 4098 → Q (.int (n : Int)) H
theorem scCount : FnScope ["_law_cell"] ["_law_cell"] (defScope (top 43)) := ⟨rfl, rfl, rfl, by decide +kernel, rfl, by decide +kernel, by decide +kernel⟩
theorem natQ {Q : VK} {H : Hp} {z : Int} (q : ∀ n : Nat, 1 ≤ n → n ≤ 4098 → Q (.int (n : Int)) H) (h1 : 1 ≤ z) (h2 : z ≤ 4098) : Q (.int z) H := by
  have e : z = ((z.toNat : Nat) : Int) := by omega
  rw [e]
  exact q _ (by omega) (by omega)
theorem ok_count (T : Txt K mg) : Pr P w K mg base 1 "_law_count_by" ["_law_cell"] spCount := by
  refine T.law_count_by_.ok scCount (fun vs H Q E h => ?_) (fun f cdv A outer s H vs Q E hr h => ?_)
  · obtain ⟨_, rfl, _⟩ := h; rfl
  obtain ⟨z, rfl, q⟩ := h
  refine ⟨_, pss_cons (ps_if (pt_cmpR op_eq (pe_op op_mod (pv 0) pe_int) pe_int (nomark _)) (pss_one (ps_ret (pe_op op_add pe_int (pe_op op_mod (pe_op op_fdiv (pv 0) pe_int) pe_int)))) pss_nil)
    (pss_cons (ps_if (pt_cmpR op_eq (pe_op op_mod (pv 0) pe_int) pe_int (nomark _)) (pss_one (ps_ret (pe_op op_sub (pe_op op_add (pe_op op_oneShl pe_int (pe_op op_add pe_int (pe_op op_mod (pe_op op_fdiv (pv 0) pe_int) pe_int))) (pe_op op_mod (pe_op op_fdiv (pv 0) pe_int) pe_int)) pe_int))) pss_nil)
    (pss_one (ps_ret (pe_op op_add pe_int (pe_op op_mod (pe_op op_fdiv (pv 0) pe_int) (pe_op op_shl pe_int pe_int)))))), ?_⟩
  have m41 := Int.emod_nonneg (z / 3) (b := 41) (by decide)
  have m41' := Int.emod_lt_of_pos (z / 3) (b := 41) (by decide)
  have m12 := Int.emod_nonneg (z / 3) (b := 12) (by decide)
  have m12' := Int.emod_lt_of_pos (z / 3) (b := 12) (by decide)
  have m4 := Int.emod_nonneg (z / 36) (b := 4) (by decide)
  have m4' := Int.emod_lt_of_pos (z / 36) (b := 4) (by decide)
  refine ⟨_, rfl, _, _, rfl, rfl, (by show (0 : Int) < 3; decide), rfl, _, rfl, ite2 (fun c => ?_) (fun c => ?_)⟩
  · refine ⟨_, rfl, _, _, rfl, rfl, ⟨by decide, by decide⟩, _, _, rfl, rfl, (by show (0 : Int) < 41; decide), _, _, rfl, rfl, ?_⟩
    exact natQ q (by omega) (by omega)
  · refine ⟨_, rfl, _, _, rfl, rfl, (by show (0 : Int) < 3; decide), rfl, _, rfl, ite2 (fun c => ?_) (fun c => ?_)⟩
    · obtain ⟨k, hk⟩ : ∃ k : Nat, 1 + z / 3 % 12 = (k : Int) := ⟨(1 + z / 3 % 12).toNat, by omega⟩
      refine ⟨_, rfl, _, _, rfl, rfl, ⟨by decide, by decide⟩, _, _, rfl, rfl, (by show (0 : Int) < 12; decide), _, _, rfl, rfl, k, rfl, ?_, by omega, _, rfl, _, _, rfl, rfl, ⟨by decide, by decide⟩, _, _, rfl, rfl, (by show (0 : Int) < 4; decide), _, _, rfl, rfl, _, _, rfl, rfl, ?_⟩
      · show V.int (1 + z / 3 % 12) = _
        rw [hk]
      · have hk12 : k ≤ 12 := by omega
        have hk1 : 1 ≤ k := by omega
        have h1 : (2 : Nat) ^ 1 ≤ 2 ^ k := Nat.pow_le_pow_right (by decide) hk1
        have h2 : (2 : Nat) ^ k ≤ 2 ^ 12 := Nat.pow_le_pow_right (by decide) hk12
        have e : ((2 : Int) ^ k) = ((2 ^ k : Nat) : Int) := by rw [Int.natCast_pow]; rfl
        have h3 : (2 : Nat) ^ 12 = 4096 := rfl
        have h4 : (2 : Nat) ^ 1 = 2 := rfl
        refine natQ (z := 2 ^ k + z / 36 % 4 - 1) q ?_ ?_
        · rw [e]; omega
        · rw [e]; omega
    · refine ⟨_, rfl, _, _, rfl, rfl, ⟨by decide, by decide⟩, _, _, rfl, rfl, ⟨by decide, by decide, by decide⟩, _, _, rfl, rfl, (by show (0 : Int) < 1 * 2 ^ 12; decide), _, _, rfl, rfl, ?_⟩
      have h1 := Int.emod_nonneg (z / 3) (b := 1 * 2 ^ 12) (by decide)
      have h2 := Int.emod_lt_of_pos (z / 3) (b := 1 * 2 ^ 12) (by decide)
      have h3 : (1 * 2 ^ 12 : Int) = 4096 := rfl
      exact natQ (z := 1 + z / 3 % (1 * 2 ^ 12)) q (by omega) (by omega)
def spLess : Sp := fun vs H Q _ => ∃ (z : Int) (c : Nat), vs = [.int z, .int (c : Int)] ∧ 1 ≤ c ∧ ∀ n : Nat, 1 ≤ n → n ≤ c → Q (.int (n : Int)) H
theorem scLess : FnScope ["_law_cell", "_law_count"] ["_law_cell", "_law_count"] (defScope (top 44)) := ⟨rfl, rfl, rfl, by decide +kernel, rfl, by decide +kernel, by decide +kernel⟩
theorem ok_less (T : Txt K mg) : Pr P w K mg base 1 "_law_lesser" ["_law_cell", "_law_count"] spLess := by
  refine T.law_lesser_.ok scLess (fun vs H Q E h => ?_) (fun f cdv A outer s H vs Q E hr h => ?_)
  · obtain ⟨_, _, rfl, _⟩ := h; rfl
  obtain ⟨z, c, rfl, hc, q⟩ := h
  refine ⟨_, pss_cons (ps_if (pt_cmpR op_eq (pe_op op_mod (pv 0) pe_int) pe_int (nomark _)) (pss_one (ps_ret (pv 1))) pss_nil)
    (pss_one (ps_ret (pe_op op_add pe_int (pe_op op_mod (pe_op op_fdiv (pv 0) pe_int) (pv 1))))), ?_⟩
  have m0 := Int.emod_nonneg (z / 4) (b := (c : Int)) (by omega)
  have m1 := Int.emod_lt_of_pos (z / 4) (b := (c : Int)) (by omega)
  refine ⟨_, rfl, _, _, rfl, rfl, (by show (0 : Int) < 4; decide), rfl, _, rfl, ite2 (fun c2 => ?_) (fun c2 => ?_)⟩
  · exact ⟨_, rfl, q c hc (Nat.le_refl _)⟩
  · refine ⟨_, rfl, _, _, rfl, rfl, ⟨by decide, by decide⟩, _, rfl, _, _, rfl, rfl, (by show (0 : Int) < c; omega), _, _, rfl, rfl, ?_⟩
    have e : 1 + z / 4 % (c : Int) = (((1 + z / 4 % (c : Int)).toNat : Nat) : Int) := by omega
    show Q (.int (1 + z / 4 % (c : Int))) H
    rw [e]
    exact q _ (by omega) (by omega)
end
end Rs
set_option Elab.async false
set_option linter.all false
set_option maxRecDepth 100000
set_option maxHeartbeats 4000000
/-! Rootstamp, the law's own row: _law_top, _law_head. -/
namespace Rs
open PySem PySem.Spec PyProof.Rows L2
structure TreeAt (H : Hp) (a b : Addr) (t : Tree) : Prop where
  a_ : H a = some (.tup [.int (t.seed : Int), .ref b, kV t.entry])
  b_ : H b = some (.lst [.int (t.place : Int), .int (t.s1 : Int), .int (t.s2 : Int)])
  dr : ∀ n : Nat, t.dr n = stampBy (n : Int)
  ve : Vk t.entry
  le : klen t.entry ≤ 61
theorem TreeAt.kp {H H' : Hp} {a b : Addr} {t : Tree} (h : TreeAt H a b t) (k : Kp H H') : TreeAt H' a b t := ⟨k.tup h.a_, k.lst h.b_, h.dr, h.ve, h.le⟩
theorem TreeAt.ok {H : Hp} {a b : Addr} {t : Tree} (h : TreeAt H a b t) : t.Ok := ⟨h.ve, h.le, fun n => by rw [h.dr]; exact stampBy_vk _, fun n => by rw [h.dr]; exact stampBy_len _⟩
def spots (t : Tree) : List Nat := [t.place, t.s1, t.s2]
def inRow (low many : Nat) (p : Nat) : Bool := decide (low ≤ p) && decide (p < low + many)
abbrev nVs (l : List Nat) : List V := l.map fun n => V.int ((n : Nat) : Int)
theorem inRow_hit {t : Tree} {low many : Nat} : (spots t).filter (inRow low many) = [] ↔ ¬ t.hit low many := by
  rw [List.filter_eq_nil_iff]
  unfold spots Tree.hit inRow
  simp only [List.mem_cons, List.not_mem_nil, or_false, Bool.and_eq_true, decide_eq_true_eq]
  constructor
  · intro h z
    rcases z with z | z | z
    · exact h _ (.inl rfl) z
    · exact h _ (.inr (.inl rfl)) z
    · exact h _ (.inr (.inr rfl)) z
  · rintro h p (rfl | rfl | rfl) z
    · exact h (.inl z)
    · exact h (.inr (.inl z))
    · exact h (.inr (.inr z))
abbrev nDs (l : List Nat) : List PyData := l.map fun n => PyData.int ((n : Nat) : Int)
theorem dp_ns {K : PySem.W.Frag} {H : Hp} : ∀ l : List Nat, DpAll K H (nVs l) (nDs l)
  | [] => .nil
  | n :: l => .cons (.int _) (dp_ns l)
theorem nDs_lay : ∀ l : List Nat, PyData.canLayAll0 (nDs l) = true
  | [] => rfl
  | n :: l => by
    show (PyData.canLay0 (.int (n : Int)) && PyData.canLayAll0 (nDs l)) = true
    rw [nDs_lay l]; rfl
theorem nDs_depth : ∀ l : List Nat, PyData.depthAll (nDs l) = 0
  | [] => rfl
  | n :: l => by
    show max (PyData.depth (.int (n : Int))) (PyData.depthAll (nDs l)) = 0
    rw [nDs_depth l]; rfl
theorem nDs_shaped (l : List Nat) : SeqAt.shaped (.list (nDs l)) = true := by
  show (PyData.canLayAll0 (nDs l) && decide (PyData.depthAll (nDs l) + 1 ≤ 64)) = true
  rw [nDs_lay, nDs_depth]; rfl
theorem nDs_eqv (l : List Nat) : PyData.eqv (.list (nDs l)) (.list []) = decide (l = []) := by
  cases l with
  | nil => rfl
  | cons n l => rw [decide_eq_false (by simp)]; rfl
section
variable {P : Program} {w : World} {K : PySem.W.Frag} {mg : Str → Option Value} {base : Heap}
def spTop (d : Nat) : Sp := fun vs H Q _ => ∃ (f ta tb : Addr) (low many : Nat) (t : Tree) (k : Kd) (T : TR) (r : Nat), vs = [.ref f, .ref ta, .int low, .int many] ∧ 1 ≤ many ∧ many ≤ 2 ^ d ∧ TreeAt H ta tb t ∧ SA k f T (r + 2 * many - 1) H ∧
  many ≤ 5000 ∧ ∀ (s : Key) (T' : TR) (H' : Hp), SA k f T' r H' → LeT T T' → Kp H H' → Top T' t low many s → Q (kV s) H'
theorem scTop : FnScope ["_law_stamper_here", "_law_tree", "_law_low", "_law_many", "_law_cut", "_law_left", "_law_spot"] ["_law_stamper_here", "_law_tree", "_law_low", "_law_many"] (defScope (top 46)) := ⟨rfl, rfl, rfl, by decide +kernel, rfl, by decide +kernel, by decide +kernel⟩
theorem top_ok (TX : Txt K mg) {d : Nat} (hd : d ≤ 40) {i : Nat} (tl : ∀ {f : Addr} {cdv : Value} {A : Around} {outer : List Env} {s : Shared} {H : Hp} {E : XK} (hr : Room (5 + d) (A.deeper (envOfC "_law_top" (defScope (top 46)) s.heap.objs.size f cdv))),
    ∃ t3, PSs (cxOf CX0 P w K mg base ["_law_stamper_here", "_law_tree", "_law_low", "_law_many", "_law_cut", "_law_left", "_law_spot"] "_law_top" (defScope (top 46)) f cdv A outer s H E).nox ((defBody (top 46)).drop 2) t3 ∧
      ∀ (g ta tb : Addr) (low many : Nat) (t : Tree) (k : Kd) (T : TR) (r : Nat) (Q : VK) (H1 : Hp), 2 ≤ many → many ≤ 2 ^ d → many ≤ 5000 → t.hit low many → TreeAt H1 ta tb t → SA k g T (r + 2 * many - 1) H1 → (∀ (s : Key) (T' : TR) (H' : Hp), SA k g T' r H' → LeT T T' → Kp H1 H' → Top T' t low many s → Q (kV s) H') →
        t3 { nx := fun _ H' => Q .non H', rt := Q } [some (.ref g), some (.ref ta), some (.int low), some (.int many), none, none, none] H1) :
    Pr P w K mg base (5 + d + 1) "_law_top" ["_law_stamper_here", "_law_tree", "_law_low", "_law_many"] (spTop d) := by
  refine TX.law_top_.ok scTop (fun vs H Q E h => ?_) (fun f cdv A outer s H vs Q E hr h => ?_)
  · obtain ⟨_, _, _, _, _, _, _, _, _, rfl, _⟩ := h; rfl
  obtain ⟨g, ta, tb, low, many, t, k, T0, r, rfl, h1, h2, tr, sa, h5, q⟩ := h
  have hz := sizeLine_eq
  have z2 : 2 ≤ sizeLine := by omega
  have z3 : 3 ≤ sizeLine := by omega
  obtain ⟨t3, ht3, tail⟩ := tl (outer := outer) (H := H) (E := E) hr
  refine ⟨_, pss_cons (ps_if (PW.pt (pw_and (pt_cmpR op_eq (pv 3) pe_int (nomark _)) (pw_and1 (pt_cmpR op_eq (pv 2) (pe_ix ix_list (pe_ix ix_tup (pv 1) pe_int (fun _ _ => rfl)) pe_int (fun _ _ => rfl)) (nomark _))))) (pss_one (ps_ret (pe_st (i := 0) TX hr (pe_tup (pa_cons pe_str (pa_cons (pe_ix ix_tup (pv 1) pe_int (fun _ _ => rfl)) pa_nil))) (hj := by omega)))) pss_nil)
    (pss_cons (ps_if (PW.pt (pw_or (pt_cmpR op_eq (pv 3) pe_int (nomark _)) (pw_or1 (pt_cmpR (op_eqD hr.units) (pe_lc (own := [("_law_spot", 6)]) (g := gName 6) rfl scTop.nd (pi_list (pe_ix ix_tup (pv 1) pe_int (fun _ _ => rfl))) (blkOk_by (N := ["_law_stamper_here", "_law_tree", "_law_low", "_law_many", "_law_cut", "_law_left", "_law_spot"]) (sc := defScope (top 46)) (by decide +kernel)) (fun _ _ _ _ _ => pg_name (i := 6) scTop.nd rfl (Or.inl rfl)) (fun _ _ _ _ _ => pts_one (pt_chain op_le op_lt (pv 2) (pv 6) (pe_op op_add (pv 2) (pv 3))))
      (fun _ _ _ _ _ => pv 6)) (pe_lst pa_nil) (nomark _))))) (pss_one (ps_ret (pe_cl (ok_sby TX) (hr.mono (by omega)) (pa_cons (pe_op op_add (pe_op op_add (pe_ix ix_tup (pv 1) pe_int (fun _ _ => rfl)) (pe_op op_mul pe_int (pv 2))) (pe_op op_mul pe_int (pv 3))) pa_nil)))) pss_nil)
    ht3), ?_⟩
  have by1 : ∀ (H1 : Hp), Same H H1 → (many = 1 ∧ low ≠ t.place ∨ 2 ≤ many ∧ ¬ t.hit low many) → ∀ H2, Same H1 H2 → Q (kV (stampBy ((t.seed : Int) + 5 * (low : Int) + 3 * (many : Int)))) H2 := fun H1 s1 c H2 s2 => by
    have e : stampBy ((t.seed : Int) + 5 * (low : Int) + 3 * (many : Int)) = t.drawn low many := by
      unfold Tree.drawn
      rw [tr.dr]
      congr 1
    rw [e]
    have sm : Same H H2 := fun b o h => s2 _ _ (s1 _ _ h)
    refine q _ T0 H2 ((sa.same sm).le (by omega)) (fun _ _ h => h) (Kp.of sm) ?_
    rcases c with ⟨c1, c2⟩ | ⟨c1, c2⟩
    · subst c1; exact .one c2
    · exact .out c1 c2
  -- the second if, by whether many is 1
  have byQ : ∀ (H1 : Hp), Same H H1 → (many = 1 ∧ low ≠ t.place ∨ 2 ≤ many ∧ ¬ t.hit low many) → (tCl spSBy (tCons (tOp (rI0 fun i j => .int (i + j)) (tOp (rI0 fun i j => .int (i + j)) (tOp (rIxT K) (tVar 1) (tC (.int 0))) (tOp (rI CMul fun i j => .int (i * j)) (tC (.int 5)) (tVar 2))) (tOp (rI CMul fun i j => .int (i * j)) (tC (.int 3)) (tVar 3))) tNil))
      [some (.ref g), some (.ref ta), some (.int low), some (.int many), none, none, none] H1 Q := fun H1 s1 c => by
    refine ⟨_, rfl, ta, _, _, _, rfl, rfl, SqT.of (s1 _ _ tr.a_), at_of (j := 0) rfl rfl, _, rfl, _, _, rfl, rfl, .inl ⟨by decide, by decide⟩, _, _, rfl, rfl, _, rfl, _, _, rfl, rfl, .inl ⟨by decide, by decide⟩, _, _, rfl, rfl, ?_⟩
    exact ⟨_, rfl, fun H2 s2 => by1 H1 s1 c H2 s2⟩
  refine ⟨_, rfl, rfl, _, rfl, ite2 (fun c1 => ?_) (fun c1 => ?_)⟩
  · have hm : many = 1 := by have := of_decide_eq_true c1; injection this with this; omega
    refine ⟨_, rfl, _, rfl, ta, _, _, _, rfl, rfl, SqT.of tr.a_, at_of (j := 1) rfl rfl, tb, _, _, _, rfl, rfl, SqL.of tr.b_, at_of (j := 0) rfl rfl, rfl, _, rfl, ite2 (fun c2 => ?_) (fun c2 => ?_)⟩
    · have hl : low = t.place := by have := of_decide_eq_true c2; injection this with this; omega
      subst hm hl
      have sa1 : SA k g T0 (r + 1) H := sa.le (by omega)
      refine ⟨g, rfl, ⟨k, T0, _, sa1⟩, _, rfl, ta, _, _, _, rfl, rfl, SqT.of tr.a_, at_of (j := 2) rfl rfl, z2, fun p hp => ?_⟩
      have k1 : Kp H (upd H p (.tup (kVs (tEntry t.entry)))) := (Kp.refl H).new hp _
      exact ⟨p, tEntry t.entry, k, T0, r, rfl, upd_same, ok_entry tr.ve (by have := tr.le; omega), sa1.new hp _, fun s' T' H2 sa2 le hs k2 => q s' T' H2 sa2 le (k1.trans k2) (.entry hs)⟩
    · have hl : low ≠ t.place := fun e => c2 (by rw [e]; exact decide_eq_true rfl)
      refine ⟨_, rfl, rfl, _, rfl, ite2 (fun _ => ?_) (fun c => absurd c1 c)⟩
      exact byQ H (fun _ _ h => h) (.inl ⟨hm, hl⟩)
  · have hm : many ≠ 1 := fun e => c1 (by rw [e]; exact decide_eq_true rfl)
    refine ⟨_, rfl, rfl, _, rfl, ite2 (fun c => absurd c c1) (fun _ => ?_)⟩
    refine ⟨_, rfl, ta, _, _, _, rfl, rfl, SqT.of tr.a_, at_of (j := 1) rfl rfl, tb, rfl, ⟨_, SqL.of tr.b_⟩, fun D hD => lc_list (K := K) (a := tb) (xs := nVs (spots t)) (fun i H' => Same H H' ∧ H' D = some (.lst (nVs (((spots t).take i).filter (inRow low many))))) ⟨same_new hD _, upd_same⟩ (fun i H' _ ⟨s, _⟩ => SqL.of (s _ _ tr.b_)) ?_ ?_⟩
    · rintro i y H' hi ⟨sm, hL⟩
      rw [List.getElem?_map] at hi
      cases ei : (spots t)[i]? with
      | none => rw [ei] at hi; cases hi
      | some p =>
        rw [ei] at hi
        cases hi
        have hlen : ((spots t).take i).length ≤ 3 := by rw [List.length_take]; exact Nat.le_trans (Nat.min_le_right _ _) (Nat.le_refl _)
        have hfl := List.length_filter_le (inRow low many) ((spots t).take i)
        have etake : (spots t).take (i + 1) = (spots t).take i ++ [p] := by rw [List.take_add_one, ei]; rfl
        refine ⟨rfl, _, rfl, _, rfl, _, _, rfl, rfl, _, rfl, ite2 (fun d1 => ?_) (fun d1 => ?_)⟩
        · have e1 : low ≤ p := by have := of_decide_eq_true d1; omega
          refine ⟨_, rfl, _, rfl, _, _, rfl, rfl, _, _, rfl, rfl, _, rfl, ite2 (fun d2 => ?_) (fun d2 => ?_)⟩
          · have e2 : p < low + many := by have := of_decide_eq_true d2; omega
            have eb : inRow low many p = true := by unfold inRow; rw [decide_eq_true e1, decide_eq_true e2]; rfl
            refine ⟨_, rfl, _, hL, by rw [List.length_map]; omega, same_upd hD sm _, ?_⟩
            rw [etake, List.filter_append, List.filter_cons, if_pos eb, List.filter_nil, show nVs (List.filter (inRow low many) (List.take i (spots t)) ++ [p]) = nVs (List.filter (inRow low many) (List.take i (spots t))) ++ [V.int (p : Int)] from List.map_append]
            exact upd_same
          · have e2 : ¬ p < low + many := fun z => d2 (decide_eq_true (by omega))
            have eb : ¬ inRow low many p = true := by unfold inRow; rw [decide_eq_false e2, Bool.and_false]; exact Bool.false_ne_true
            refine ⟨sm, ?_⟩
            rw [etake, List.filter_append, List.filter_cons, if_neg eb, List.filter_nil, List.append_nil]
            exact hL
        · have e1 : ¬ low ≤ p := fun z => d1 (decide_eq_true (by omega))
          have eb : ¬ inRow low many p = true := by unfold inRow; rw [decide_eq_false e1, Bool.false_and]; exact Bool.false_ne_true
          refine ⟨_, rfl, iteF ⟨sm, ?_⟩⟩
          rw [etake, List.filter_append, List.filter_cons, if_neg eb, List.filter_nil, List.append_nil]
          exact hL
    · rintro H' ⟨sm, hL⟩
      have e3 : (spots t).take (nVs (spots t)).length = spots t := by rw [List.length_map, List.take_length]
      rw [e3] at hL
      refine ⟨Nat.zero_le _, fun p hp => ?_⟩
      have sE : Same H (upd H' p (.lst [])) := fun b o h => (same_new hp _) _ _ (sm _ _ h)
      refine ⟨.list (nDs ((spots t).filter (inRow low many))), .list [], .lst (SqL.of (by rw [upd_ne (ne_of_none hL hp)]; exact hL)) (dp_ns _), .lst (SqL.of upd_same) .nil, nDs_shaped _, nDs_shaped [], _, rfl, ?_⟩
      rw [nDs_eqv]
      by_cases hh : (spots t).filter (inRow low many) = []
      · rw [decide_eq_true hh]
        exact iteT (byQ _ sE (.inr ⟨by omega, inRow_hit.mp hh⟩))
      · rw [decide_eq_false hh]
        refine iteF ?_
        have hit : t.hit low many := Classical.not_not.mp fun z => hh (inRow_hit.mpr z)
        exact tail g ta tb low many t k T0 r Q _ (by omega) h2 h5 hit (tr.kp (Kp.of sE)) (sa.same sE) fun s T' H2 sa2 le kp tp => q s T' H2 sa2 le ((Kp.of sE).trans kp) tp
theorem ok_top (T : Txt K mg) : ∀ d, d ≤ 40 → Pr P w K mg base (5 + d + 1) "_law_top" ["_law_stamper_here", "_law_tree", "_law_low", "_law_many"] (spTop d)
  | 0, h => by
    refine top_ok T h (i := 0) fun {f cdv A outer s H E} hr => ?_
    refine ⟨_, pss_cons ps_never (pss_cons ps_never (pss_one ps_never)), fun g ta tb low many t k T0 r Q H1 h1 h2 => ?_⟩
    have : 2 ^ 0 = 1 := rfl
    omega
  | d + 1, h => by
    have ih := ok_top T d (by omega)
    refine top_ok T h (i := 0) fun {f cdv A outer s H E} hr => ?_
    refine ⟨_, pss_cons (ps_set (i := 4) scTop.nd rfl (Or.inl rfl) (pe_cl (ok_lhalf T) (hr.mono (by omega)) (pa_cons (pv 3) pa_nil)))
      (pss_cons (ps_set (i := 5) scTop.nd rfl (Or.inl rfl) (pe_cl ih hr (pa_cons (pv 0) (pa_cons (pv 1) (pa_cons (pv 2) (pa_cons (pv 4) pa_nil))))))
      (pss_one (ps_ret (pe_st (i := 0) T hr (pe_tup (pa_cons pe_str (pa_cons (pv 5) (pa_cons (pe_cl ih hr (pa_cons (pv 0) (pa_cons (pv 1) (pa_cons (pe_op op_add (pv 2) (pv 4)) (pa_cons (pe_op op_sub (pv 3) (pv 4)) pa_nil))))) pa_nil)))) (hj := by omega))))), fun g ta tb low many t k T0 r Q H1 h1 h2 h5 hit tr sa q => ?_⟩
    have hz := sizeLine_eq
    have hlt := half_lt h1
    have hpos := half_pos many
    have hge := half_ge h1
    have hpw := half_le_pow h1 h2
    refine ⟨_, rfl, many, rfl, h1, by omega, ?_⟩
    refine ⟨_, rfl, _, rfl, _, rfl, _, rfl, ?_⟩
    refine ⟨g, ta, tb, low, half many, t, k, T0, r + 2 * (many - half many), rfl, hpos, hpw, tr, sa.le (by omega), by omega, fun s1 T1 H2 sa1 le1 kp1 top1 => ?_⟩
    refine ⟨g, rfl, ⟨k, T1, _, sa1⟩, _, rfl, _, rfl, _, rfl, _, rfl, _, rfl, _, _, rfl, rfl, _, rfl, _, rfl, _, _, rfl, rfl, ?_⟩
    refine ⟨g, ta, tb, low + half many, many - half many, t, k, T1, r + 1, ?_, by omega, by omega, tr.kp kp1, sa1.le (by omega), by omega, fun s2 T2 H3 sa2 le2 kp2 top2 => ?_⟩
    · have e1 : (low : Int) + (half many : Nat) = ((low + half many : Nat) : Int) := by omega
      have e2 : (many : Int) - (half many : Nat) = ((many - half many : Nat) : Int) := by omega
      show [V.ref g, V.ref ta, V.int ((low : Int) + (half many : Nat)), V.int ((many : Int) - (half many : Nat))] = _
      rw [e1, e2]
    have top1' := top1.mono le2
    obtain ⟨b1, v1⟩ := top1'.bd sa2.bd sa2.vd tr.ok
    obtain ⟨b2, v2⟩ := top2.bd sa2.bd sa2.vd tr.ok
    refine ⟨(by show 3 ≤ _; omega), fun p hp => ?_⟩
    have k3 : Kp H3 (upd H3 p (.tup (kVs (tJoint s1 s2)))) := (Kp.refl H3).new hp _
    refine ⟨p, tJoint s1 s2, k, T2, r, rfl, upd_same, ok_joint v1 v2 (by omega), sa2.new hp _, fun s' T' H4 sa3 le3 hs k4 => ?_⟩
    exact q s' T' H4 sa3 (fun _ _ h => le3 _ _ (le2 _ _ (le1 _ _ h))) (((kp1.trans kp2).trans k3).trans k4) (.join h1 hit (top1'.mono le3) (top2.mono le3) hs)
/-! _law_head -/
def spHd : Sp := fun vs H Q _ => ∃ (f ta tb : Addr) (n : Nat) (t : Tree) (k : Kd) (T : TR) (r : Nat), vs = [.ref f, .ref ta, .int n] ∧ 1 ≤ n ∧ n ≤ 5000 ∧ TreeAt H ta tb t ∧ SA k f T (r + 2 * n) H ∧
  ∀ (p : Addr) (s hk : Key) (T' : TR) (H' : Hp), SA k f T' r H' → LeT T T' → Kp H H' → H p = none → HeadAt H' p n hk → Top T' t 0 n s → T' (tRow n s) hk → Q (.ref p) H'
theorem scHd : FnScope ["_law_stamper_here", "_law_tree", "_law_count"] ["_law_stamper_here", "_law_tree", "_law_count"] (defScope (top 47)) := ⟨rfl, rfl, rfl, by decide +kernel, rfl, by decide +kernel, by decide +kernel⟩
theorem ok_hd (T : Txt K mg) : Pr P w K mg base 20 "_law_head" ["_law_stamper_here", "_law_tree", "_law_count"] spHd := by
  refine T.law_head_.ok scHd (fun vs H Q E h => ?_) (fun f cdv A outer s H vs Q E hr h => ?_)
  · obtain ⟨_, _, _, _, _, _, _, _, rfl, _⟩ := h; rfl
  obtain ⟨g, ta, tb, n, t, k, T0, r, rfl, h1, h5, tr, sa, q⟩ := h
  have hz := sizeLine_eq
  refine ⟨_, pss_one (ps_ret (pe_tup (pa_cons (pv 2) (pa_cons (pe_st (i := 0) T hr (pe_tup (pa_cons pe_str (pa_cons (pv 2) (pa_cons (pe_cl (ok_top T 13 (by decide)) hr (pa_cons (pv 0) (pa_cons (pv 1) (pa_cons pe_int (pa_cons (pv 2) pa_nil))))) pa_nil))))) pa_nil)))), ?_⟩
  have h213 : 2 ^ 13 = 8192 := rfl
  refine ⟨_, rfl, g, rfl, ⟨k, T0, _, sa⟩, _, rfl, _, rfl, _, rfl, _, rfl, ?_⟩
  refine ⟨g, ta, tb, 0, n, t, k, T0, r + 1, rfl, h1, by omega, tr, sa.le (by omega), h5, fun s1 T1 H1 sa1 le1 kp1 top1 => ?_⟩
  obtain ⟨b1, v1⟩ := top1.bd sa1.bd sa1.vd tr.ok
  refine ⟨(by show 3 ≤ _; omega), fun p hp => ?_⟩
  have k2 : Kp H1 (upd H1 p (.tup (kVs (tRow n s1)))) := (Kp.refl H1).new hp _
  refine ⟨p, tRow n s1, k, T1, r, rfl, upd_same, ok_row (by omega) v1 (by omega), sa1.new hp _, fun s' T' H2 sa2 le2 hs k3 => ?_⟩
  refine ⟨(by show 2 ≤ _; omega), fun p2 hp2 => ?_⟩
  have kA := (kp1.trans k2).trans k3
  exact q p2 s1 s' T' _ (sa2.new hp2 _) (fun _ _ h => le2 _ _ (le1 _ _ h)) (kA.new hp2 _) (kA.n _ hp2) upd_same (top1.mono le2) hs
end
end Rs
set_option Elab.async false
set_option linter.all false
set_option maxRecDepth 100000
set_option maxHeartbeats 4000000
/-! Rootstamp, a further rule: list(reversed(a list)). -/
namespace Rs
open PySem PySem.Spec PyProof.Rows L2 RT
section
variable {prog : Program} {w : World} {A : Around} {E : Value → Shared → Prop} {s : Shared}
theorem extend_rev {R : Result → Shared → Prop} {it l S : Addr} {items : Array Value} (res : Value) (hh : A.handled = none) (hit : s.heap.IsRevIter it l ((items.size : Int) - 1)) (hl : s.heap.IsList l items) (hne : l ≠ it) (hSi : S ≠ it) (hSl : S ≠ l) (hn : items.size ≤ sizeLine) {c₀ : Nat} (hS : s.heap.get? S = some { cls := .type "list", data := .seq #[] c₀ })
    (hR : ∀ (h' : Heap) (tk : Nat) (acc' : Array Value) (c' : Nat), (∀ b o, b ≠ S → b ≠ it → s.heap.get? b = some o → h'.get? b = some o) → h'.get? S = some { cls := .type "list", dict := none, data := .seq acc' c', slots := #[] } → ItemsOf (fun i v => items[items.size - 1 - i]? = some v) acc' items.size → R (.ok (.ret res)) { s with heap := h', toks := tk }) :
    wpAny (model prog w) A.in1 (Builtin.List.listExtendWith (.ref S) (.ref it) res)
      (fun fin s' => match fin with | .done f => R (.ok f) s' | .again c' => c'.quiet = true ∧ codeAny (model prog w) A c' R s') (fun e s' => R (.error e) s') s := by
  have W := (Walks.listRev (prog := prog) (w := w) (A := A.in1) hh it l hne items).toS
  have hSf : S ∉ [it, l] := by simp only [List.mem_cons, List.not_mem_nil, or_false, not_or]; exact ⟨hSi, hSl⟩
  have hT : s.TypeIs (.ref it) "list_reverseiterator" := hit.typeIs
  have h1 : Builtin.List.listSameRef (.ref S) (.ref it) = false := by simp [Builtin.List.listSameRef, hSi]
  unfold Builtin.List.listExtendWith
  refine wpAny_bind (wpAny_typeOf hT ?_)
  rw [if_neg (by rw [h1]; decide)]
  refine wpAny_bind (wpAny_pyIter_revIter (s := s) hit ?_)
  refine wpAny_bind (wpAny_holding ?_)
  unfold Builtin.List.listLengthHint
  refine wpAny_bind (wpAny_specialOf hT nolen_lri ?_)
  show wpAny _ A.in1 (specialOf (Value.ref it) (Str.ofString "__length_hint__") >>= _) _ _ _
  refine wpAny_bind (wpAny_specialOf hT hint_lri ?_)
  generalize hid : ("list_reverseiterator.__length_hint__" : String) = id0
  wp_delta
  rw [show splitId id0 = some ("list_reverseiterator", "__length_hint__") from by subst hid; decide +kernel]
  subst hid
  refine wpAny_bind (wpAny_isInstance (b := true) hT (by rw [isSubtype_type]; kernel_rfl) ?_)
  refine wpAny_pure ?_
  rw [if_neg (by decide)]
  have e0 : ((items.size : Nat) : Int) - 1 - ((0 : Nat) : Int) = (items.size : Int) - 1 := by omega
  refine wpAny_pure ⟨plainId_quiet F.plain_extend_loop _, codeAny_extend_loopS W hn _ hSf _ items.size 0 _ _ _ rfl (Nat.zero_le _) ⟨Nat.zero_le _, by rw [e0]; exact hit, hl⟩ hS (ItemsOf.nil _) fun s' acc' c' hm hS' hacc => ?_⟩
  rw [Moved.eq_with hm]
  refine hR s'.heap s'.toks acc' c' (fun b o hb hb2 e => hm.heap b o (fun hmem => ?_) e) hS' hacc
  rcases List.mem_cons.mp hmem with e' | hmem
  · exact hb e'
  · exact hb2 (List.mem_singleton.mp hmem)
theorem call_list_rev {it l : Addr} {items : Array Value} {Q : Value → Shared → Prop} (hh : A.handled = none) (hit : s.heap.IsRevIter it l ((items.size : Int) - 1)) (hl : s.heap.IsList l items) (hne : l ≠ it) (hn : items.size ≤ sizeLine)
    (hQ : ∀ (h' : Heap) (tk : Nat) (acc : Array Value) (c' : Nat), (∀ b o, b ≠ it → s.heap.get? b = some o → h'.get? b = some o) → h'.get? s.heap.objs.size = some { cls := .type "list", dict := none, data := .seq acc c', slots := #[] } → ItemsOf (fun i v => items[items.size - 1 - i]? = some v) acc items.size →
      Q (.ref s.heap.objs.size) { s with heap := h', toks := tk }) :
    wpAny (model prog w) A (call (.type "list") [.ref it]) Q E s := by
  obtain ⟨oi, hoi, _⟩ := id hit
  obtain ⟨ol, hol, _⟩ := id hl
  have hSi : s.heap.objs.size ≠ it := Nat.ne_of_gt (Heap.lt_size hoi)
  have hSl : s.heap.objs.size ≠ l := Nat.ne_of_gt (Heap.lt_size hol)
  refine callType_codes (Q₁ := fun obj s₁ => obj = .ref s.heap.objs.size ∧ s₁ = { s with heap := s.heap.push { cls := .type "list", data := .seq #[] } }) F.called_list (F.typeCall_list_1 _) F.entry_list_init
    (code_list_new _ ⟨rfl, rfl⟩) fun obj s₁ h₁ => ?_
  obtain ⟨rfl, rfl⟩ := h₁
  have hS : (s.heap.push { cls := .type "list", data := .seq #[] }).get? s.heap.objs.size = some { cls := .type "list", data := .seq #[] } := Heap.get?_push_size _ rfl
  refine ⟨⟨_, hS, rfl⟩, F.args_list_init_2 _ _, ?_⟩
  show wpAny _ _ (do let old ← Builtin.List.listItems (.ref s.heap.objs.size); Builtin.List.listUpdate (.ref s.heap.objs.size) (fun _ => #[]); letGo old.toList.reverse; Builtin.List.listExtendWith (.ref s.heap.objs.size) (.ref it) .none) _ _ _
  refine wpAny_bind ?_
  unfold Builtin.List.listItems
  refine wpAny_bind (wpAny_seqItems hS rfl (wpAny_pure ?_))
  show wpAny _ _ (updateSeq s.heap.objs.size (fun _ => #[]) >>= fun _ => letGo (#[] : Array Value).toList.reverse >>= fun _ => Builtin.List.listExtendWith (.ref s.heap.objs.size) (.ref it) .none) _ _ _
  refine wpAny_bind (wpAny_updateSeq hS rfl ?_)
  have hS₂ := Heap.get?_update_self (Obj.mapSeq (fun _ => (#[] : Array Value))) hS rfl
  have oth : ∀ b o, b ≠ s.heap.objs.size → s.heap.get? b = some o → ((s.heap.push { cls := .type "list", data := .seq #[] }).update s.heap.objs.size (Obj.mapSeq (fun _ => (#[] : Array Value)))).get? b = some o :=
    fun b o hb e => (Heap.get?_update_other _ _ (Ne.symm hb)).trans (Heap.get?_push_of_some _ e)
  refine wpAny_bind (wpAny_letGo ?_)
  refine extend_rev (A := A.in1) .none hh (hit.at fun o e => oth _ o (Ne.symm hSi) e) ?_ hne hSi hSl hn hS₂ fun h' tk acc c' hk hS' hacc => ?_
  · obtain ⟨o, e, r⟩ := id hl
    exact ⟨o, oth _ o (Ne.symm hSl) e, r⟩
  · exact ⟨rfl, hQ h' tk acc c' (fun b o hb e => hk b o (Nat.ne_of_lt (Heap.lt_size e)) hb (oth b o (Nat.ne_of_lt (Heap.lt_size e)) e)) hS' hacc⟩
end
section
variable {X : Cx}
/-- list(reversed(x)), x a list: a new list -/
def tListRev (K : PySem.W.Frag) (te : TE) : TE := fun σ H Q => te σ H fun v H1 => ∃ (a : Addr) (xs : List V), v = .ref a ∧ SqL K H1 a xs ∧ ∀ q, H1 q = none → Q (.ref q) (upd H1 q (.lst xs.reverse))
theorem pe_listRev {e : Expr} {te : TE} {p p2 pos pos2 : Pos} (hc : X.calm = true) (hg : Gl X "list") (hm : X.mg "list" = none) (hg2 : Gl X "reversed") (hm2 : X.mg "reversed" = none) (he : PE X e te)
    (hs : starEach [e] X.env = (false, eval e X.env) :: starEach [] X.env := by rfl)
    (hs2 : starEach [.Call (.Name "reversed" p2) [e] [] pos2] X.env = (false, eval (.Call (.Name "reversed" p2) [e] [] pos2) X.env) :: starEach [] X.env := by rfl) :
    PE X (.Call (.Name "list" p) [.Call (.Name "reversed" p2) [e] [] pos2] [] pos) (tListRev X.K te) := by
  refine ⟨fun pins s σ H Q I h => ?_⟩
  refine Call_ (ld_blt I hg hm (by decide +kernel) (PyProof.Rows.callWith_type1 (T := "list") (args_cons (Call_ (ld_blt I hg2 hm2 PyProof.Rows.boot_reversed (PyProof.Rows.callWith_type1 (args_cons (thn (he.run pins s σ H _ I h) fun u s1 ⟨v, H1, I1, r1, q1⟩ => args_nil ?_) hs) hs rfl))) hs2) hs2 rfl))
  obtain ⟨a, xs, ev, hq, q⟩ := q1
  subst ev
  obtain rfl : u = Value.ref a := r1
  obtain ⟨its, rv, p', hz⟩ := I1.list hq
  refine call_reversed_list p'.isList (args_nil ?_)
  have k0 : ∀ b o, s1.heap.get? b = some o → (s1.heap.push (revObj a ((its.toArray.size : Int) - 1))).get? b = some o := fun b o e => Heap.get?_push_of_some _ e
  have I2 : Inv X pins σ H1 { s1 with heap := s1.heap.push (revObj a ((its.toArray.size : Int) - 1)) } := I1.kept (t' := s1.toks) k0
  obtain ⟨f0, f1, f2, f3, f4, f5⟩ := I1.fpOk (H' := H1) (b := s1.heap.objs.size) (Nat.le_refl _) (I1.hok.fresh (Nat.le_refl _))
  have hl := p'.isList
  obtain ⟨ol, hol, _⟩ := id hl
  have hne : a ≠ s1.heap.objs.size := Nat.ne_of_lt (Heap.lt_size hol)
  have hn : its.toArray.size ≤ sizeLine := by rw [List.size_toArray, ← rv.length]; exact hz
  refine call_list_rev (s := { s1 with heap := s1.heap.push (revObj a ((its.toArray.size : Int) - 1)) }) (I1.ok.hd hc) ⟨_, Heap.get?_push_size _ rfl, rfl, rfl⟩ (hl.push _) hne hn fun h' tk acc c' hk hS hi => ?_
  have I3 : Inv X pins σ H1 { s1 with heap := h', toks := tk } := I2.turned (t' := tk) (fun b o hb e => hk b o hb e) f0 f1 f3 f4 f5
  have hnew : (s1.heap.push (revObj a ((its.toArray.size : Int) - 1))).objs.size = s1.heap.objs.size + 1 := by simp
  have hfr : H1 (s1.heap.push (revObj a ((its.toArray.size : Int) - 1))).objs.size = none := I2.hok.fresh (Nat.le_refl _)
  have hle : s1.heap.objs.size ≤ (s1.heap.push (revObj a ((its.toArray.size : Int) - 1))).objs.size := by omega
  refine ⟨.ref _, upd H1 (s1.heap.push (revObj a ((its.toArray.size : Int) - 1))).objs.size (.lst xs.reverse), I1.laid (t' := tk) (h' := h') (fun c o e => hk c o (Nat.ne_of_lt (Heap.lt_size e)) (k0 c o e)) hle (show ObjOk X.prog X.w _ _ _ (.lst xs.reverse) from ⟨by rw [List.length_reverse]; exact hz, acc.toList, c', vals_rev rv hi, ?_⟩), rfl, q _ hfr⟩
  · rw [Array.toArray_toList]
    exact hS
end
end Rs
set_option Elab.async false
set_option linter.all false
set_option maxRecDepth 100000
set_option maxHeartbeats 4000000
/-! Rootstamp, the law's papers: _law_paper, _law_growth. -/
namespace Rs
open PySem PySem.Spec PyProof.Rows L2
theorem kVs_snoc (pre : List Key) (m : Key) : kVs (pre ++ [m]) = kVs pre ++ [kV m] := List.map_append
theorem test_tOp {r : R2} {ta tb : TE} (hr : ∀ x y H Q Q', (∀ v H', Q v H' → Q' v H') → r x y H Q → r x y H Q') (ha : ∀ σ H Q Q', (∀ v H', Q v H' → Q' v H') → ta σ H Q → ta σ H Q') (hb : ∀ σ H Q Q', (∀ v H', Q v H' → Q' v H') → tb σ H Q → tb σ H Q') :
    ∀ (σ : L2.St) (H : Hp) (Q Q' : VK), (∀ v H', Q v H' → Q' v H') → tOp r ta tb σ H Q → tOp r ta tb σ H Q' := fun σ H Q Q' m h => ha σ H _ _ (fun v H1 h1 => hb σ H1 _ _ (fun u H2 h2 => hr v u H2 _ _ m h2) h1) h
section
variable {P : Program} {w : World} {K : PySem.W.Frag} {mg : Str → Option Value} {base : Heap}
def spPap : Sp := fun vs H Q _ => ∃ (f ta tb : Addr) (n : Nat) (t : Tree) (k : Kd) (T : TR) (r : Nat), vs = [.ref f, .ref ta, .int n] ∧ 1 ≤ n ∧ n ≤ 5000 ∧ t.place < n ∧ TreeAt H ta tb t ∧ SA k f T (r + 2 * n) H ∧
  ∀ (pa pb : Addr) (ms : List Key) (T' : TR) (H' : Hp), SA k f T' r H' → LeT T T' → Kp H H' → PapAt H' pa pb t.entry ms → PM T' t 0 n ms → Q (.ref pa) H'
theorem scPap : FnScope ["_law_stamper_here", "_law_tree", "_law_many", "_law_marks", "_law_low", "_law_cut"] ["_law_stamper_here", "_law_tree", "_law_many"] (defScope (top 48)) := ⟨rfl, rfl, rfl, by decide +kernel, rfl, by decide +kernel, by decide +kernel⟩
def ppInv (H : Hp) (k : Kd) (T0 : TR) (g ta lm : Addr) (n r : Nat) (t : Tree) (σ : L2.St) (H' : Hp) : Prop :=
  ∃ (low many : Nat) (pre : List Key) (T1 : TR) (c : Option V), σ = [some (.ref g), some (.ref ta), some (.int many), some (.ref lm), some (.int low), c] ∧ 1 ≤ many ∧ many ≤ n ∧ low ≤ t.place ∧ t.place < low + many ∧ Kp H H' ∧ H' lm = some (.lst (kVs pre)) ∧ SA k g T1 (r + 2 * many) H' ∧ LeT T0 T1 ∧ pre.length + many ≤ n ∧
    ∀ (T2 : TR) (ms : List Key), LeT T1 T2 → PM T2 t low many ms → PM T2 t 0 n (pre ++ ms)
theorem ok_pap (T : Txt K mg) : Pr P w K mg base 20 "_law_paper" ["_law_stamper_here", "_law_tree", "_law_many"] spPap := by
  refine T.law_paper_.ok scPap (fun vs H Q E h => ?_) (fun f cdv A outer s H vs Q E hr h => ?_)
  · obtain ⟨_, _, _, _, _, _, _, _, rfl, _⟩ := h; rfl
  obtain ⟨g, ta, tb, n, t, k, T0, r, rfl, h1, h5, hpl, tr, sa, q⟩ := h
  have hz := sizeLine_eq
  have h213 : 2 ^ 13 = 8192 := rfl
  refine ⟨_, pss_cons (ps_set (i := 3) scPap.nd rfl (Or.inl rfl) (pe_lst pa_nil))
    (pss_cons (ps_set (i := 4) scPap.nd rfl (Or.inl rfl) pe_int)
    (pss_cons (ps_while PassesOwn.never (pt_cmpR op_gt (pv 2) pe_int (nomark _))
      (pss_cons (ps_set (i := 5) scPap.nd rfl (Or.inl rfl) (pe_cl (ok_lhalf T) (hr.mono (by decide)) (pa_cons (pv 2) pa_nil)))
      (pss_one (ps_if (pt_cmpR op_lt (pe_ix ix_list (pe_ix ix_tup (pv 1) pe_int (fun _ _ => rfl)) pe_int (fun _ _ => rfl)) (pe_op op_add (pv 4) (pv 5)) (nomark _))
        (pss_cons (ps_expr (pe_bm PySem.F.plainAttrs_list PySem.F.slot_list_append PySem.F.type_list_append mt_append (pv 3) (pa_cons (pe_cl (ok_top T 13 (by decide)) hr (pa_cons (pv 0) (pa_cons (pv 1) (pa_cons (pe_op op_add (pv 4) (pv 5)) (pa_cons (pe_op op_sub (pv 2) (pv 5)) pa_nil))))) pa_nil)))
          (pss_one (ps_set (i := 2) scPap.nd rfl (Or.inl rfl) (pv 5))))
        (pss_cons (ps_expr (pe_bm PySem.F.plainAttrs_list PySem.F.slot_list_append PySem.F.type_list_append mt_append (pv 3) (pa_cons (pe_cl (ok_top T 13 (by decide)) hr (pa_cons (pv 0) (pa_cons (pv 1) (pa_cons (pv 4) (pa_cons (pv 5) pa_nil))))) pa_nil)))
          (pss_cons (ps_set (i := 4) scPap.nd rfl (Or.inl rfl) (pe_op op_add (pv 4) (pv 5))) (pss_one (ps_set (i := 2) scPap.nd rfl (Or.inl rfl) (pe_op op_sub (pv 2) (pv 5))))))))))
    (pss_one (ps_ret (pe_tup (pa_cons (pe_ix ix_tup (pv 1) pe_int (fun _ _ => rfl)) (pa_cons (pe_callTy call_tuple_of (by rfl) T.b_tuple (by decide +kernel) (pa_cons (pv 3) pa_nil)) pa_nil))))))), ?_⟩
  refine ⟨(by show 0 ≤ sizeLine; decide), fun lm hlm => ?_⟩
  refine while_by (ppInv H k T0 g ta lm n r t) (fun σ _ => intAt σ 2) ⟨0, n, [], T0, none, rfl, h1, Nat.le_refl _, Nat.zero_le _, by omega, (Kp.refl H).new hlm _, upd_same, sa.new hlm _, fun _ _ h => h, by show 0 + n ≤ n; omega, fun T2 ms _ h => h⟩ ?_ (test_mono i0_mono var_mono c_mono)
  rintro σ H' ⟨low, many, pre, T1, c, rfl, hm1, hmn, hp1, hp2, kp, hL, sa1, le1, hpl2, cont⟩
  refine ⟨_, rfl, _, _, rfl, rfl, _, rfl, ite2 (fun c1 => ?_) (fun c1 => ?_)⟩
  · have h2 : 2 ≤ many := by have := of_decide_eq_true c1; omega
    have hlt := half_lt h2
    have hpos := half_pos many
    have tr' := tr.kp kp
    have hsz : (kVs pre).length < sizeLine := by rw [List.length_map]; omega
    refine ⟨_, rfl, many, rfl, h2, by omega, ?_⟩
    refine ⟨_, rfl, ta, _, _, _, rfl, rfl, SqT.of tr'.a_, at_of (j := 1) rfl rfl, tb, _, _, _, rfl, rfl, SqL.of tr'.b_, at_of (j := 0) rfl rfl, _, rfl, _, rfl, _, _, rfl, rfl, _, _, rfl, rfl, _, rfl, ite2 (fun c2 => ?_) (fun c2 => ?_)⟩
    · have h4 : t.place < low + half many := by have := of_decide_eq_true c2; omega
      refine ⟨_, rfl, .inl ⟨rfl, _, SqL.of hL⟩, _, rfl, _, rfl, _, rfl, _, rfl, _, _, rfl, rfl, _, rfl, _, rfl, _, _, rfl, rfl, ?_⟩
      refine ⟨g, ta, tb, low + half many, many - half many, t, k, T1, r + 2 * half many + 1, ?_, by omega, by omega, tr', sa1.le (by omega), by omega, fun m T2 H2 sa2 le2 kp2 top2 => ?_⟩
      · have e1 : (low : Int) + (half many : Nat) = ((low + half many : Nat) : Int) := by omega
        have e2 : (many : Int) - (half many : Nat) = ((many - half many : Nat) : Int) := by omega
        show [V.ref g, V.ref ta, V.int ((low : Int) + (half many : Nat)), V.int ((many : Int) - (half many : Nat))] = _
        rw [e1, e2]
      refine ⟨lm, _, _, rfl, rfl, kp2.lst hL, hsz, ?_⟩
      refine ⟨_, rfl, ⟨low, half many, pre ++ [m], T2, _, rfl, hpos, by omega, hp1, h4, (kp.trans kp2).wr hlm _, by rw [kVs_snoc]; exact upd_same, (sa2.lst (kp2.lst hL) _).le (by omega), fun _ _ h => le2 _ _ (le1 _ _ h), by rw [List.length_append]; show _ + 1 + _ ≤ _; omega, fun T3 ms le3 h => ?_⟩, ?_⟩
      · rw [List.append_assoc]
        exact cont T3 _ (fun _ _ h => le3 _ _ (le2 _ _ h)) (.left h2 h4 (top2.mono le3) h)
      · show (half many : Int).toNat < (many : Int).toNat
        omega
    · have h4 : ¬ t.place < low + half many := fun z => c2 (decide_eq_true (by omega))
      refine ⟨_, rfl, .inl ⟨rfl, _, SqL.of hL⟩, _, rfl, _, rfl, _, rfl, _, rfl, ?_⟩
      refine ⟨g, ta, tb, low, half many, t, k, T1, r + 2 * (many - half many) + 1, rfl, by omega, by omega, tr', sa1.le (by omega), by omega, fun m T2 H2 sa2 le2 kp2 top2 => ?_⟩
      refine ⟨lm, _, _, rfl, rfl, kp2.lst hL, hsz, ?_⟩
      have e1 : (low : Int) + (half many : Nat) = ((low + half many : Nat) : Int) := by omega
      have e2 : (many : Int) - (half many : Nat) = ((many - half many : Nat) : Int) := by omega
      refine ⟨_, rfl, _, rfl, _, _, rfl, rfl, _, rfl, _, rfl, _, _, rfl, rfl, ⟨low + half many, many - half many, pre ++ [m], T2, some (.int (half many : Nat)), by rw [← e1, ← e2]; rfl, by omega, by omega, by omega, by omega, (kp.trans kp2).wr hlm _, by rw [kVs_snoc]; exact upd_same, (sa2.lst (kp2.lst hL) _).le (by omega), fun _ _ h => le2 _ _ (le1 _ _ h), by rw [List.length_append]; show _ + 1 + _ ≤ _; omega, fun T3 ms le3 h => ?_⟩, ?_⟩
      · rw [List.append_assoc]
        exact cont T3 _ (fun _ _ h => le3 _ _ (le2 _ _ h)) (.right h2 h4 (top2.mono le3) h)
      · show ((many : Int) - (half many : Nat)).toNat < (many : Int).toNat
        omega
  · have h2 : many ≤ 1 := by
      have : ¬ ((1 : Int) < many) := fun z => c1 (decide_eq_true z)
      omega
    have tr' := tr.kp kp
    refine ⟨_, rfl, ta, _, _, _, rfl, rfl, SqT.of tr'.a_, at_of (j := 2) rfl rfl, _, rfl, lm, _, rfl, .inl ⟨SqL.of hL, fun p hp => ⟨(by show 2 ≤ _; omega), fun p2 hp2 => ?_⟩⟩⟩
    have e : PM T1 t 0 n (pre ++ []) := cont T1 [] (fun _ _ h => h) (.nil h2)
    rw [List.append_nil] at e
    refine q p2 p pre T1 _ (((sa1.new hp _).new hp2 _).le (by omega)) le1 ((kp.new hp _).new hp2 _) ⟨upd_same, ?_⟩ e
    rw [upd_ne (ne_of_none upd_same hp2), upd_same]
/-! _law_growth -/
def spGrow : Sp := fun vs H Q _ => ∃ (f ta tb : Addr) (n e : Nat) (t : Tree) (k : Kd) (T : TR) (r : Nat), vs = [.ref f, .ref ta, .int n, .int e] ∧ 1 ≤ e ∧ e ≤ n ∧ n ≤ 5000 ∧ TreeAt H ta tb t ∧ SA k f T (r + 2 * n) H ∧
  ∀ (ma : Addr) (ms : List Key) (T' : TR) (H' : Hp), SA k f T' r H' → LeT T T' → Kp H H' → H' ma = some (.tup (kVs ms)) → GM T' t 0 n e ms → Q (.ref ma) H'
theorem scGrow : FnScope ["_law_stamper_here", "_law_tree", "_law_many", "_law_elder", "_law_ahead", "_law_behind", "_law_low", "_law_cut"] ["_law_stamper_here", "_law_tree", "_law_many", "_law_elder"] (defScope (top 49)) := ⟨rfl, rfl, rfl, by decide +kernel, rfl, by decide +kernel, by decide +kernel⟩
def ggInv (H : Hp) (k : Kd) (T0 : TR) (g ta lA lB : Addr) (n e r : Nat) (t : Tree) (σ : L2.St) (H' : Hp) : Prop :=
  ∃ (low many : Nat) (pre post : List Key) (T1 : TR) (c : Option V), σ = [some (.ref g), some (.ref ta), some (.int many), some (.int e), some (.ref lA), some (.ref lB), some (.int low), c] ∧ low < e ∧ e ≤ low + many ∧ many ≤ n ∧ Kp H H' ∧ H' lA = some (.lst (kVs pre)) ∧ H' lB = some (.lst (kVs post)) ∧ SA k g T1 (r + 2 * many) H' ∧ LeT T0 T1 ∧ pre.length + post.length + many ≤ n ∧
    ∀ (T2 : TR) (ms : List Key), LeT T1 T2 → GM T2 t low many (e - low) ms → GM T2 t 0 n e (pre ++ ms ++ post.reverse)
theorem ok_grow (T : Txt K mg) : Pr P w K mg base 20 "_law_growth" ["_law_stamper_here", "_law_tree", "_law_many", "_law_elder"] spGrow := by
  refine T.law_growth_.ok scGrow (fun vs H Q E h => ?_) (fun f cdv A outer s H vs Q E hr h => ?_)
  · obtain ⟨_, _, _, _, _, _, _, _, _, rfl, _⟩ := h; rfl
  obtain ⟨g, ta, tb, n, e, t, k, T0, r, rfl, h1, hle, h5, tr, sa, q⟩ := h
  have hz := sizeLine_eq
  have h213 : 2 ^ 13 = 8192 := rfl
  refine ⟨_, pss_cons (ps_set (i := 4) scGrow.nd rfl (Or.inl rfl) (pe_lst pa_nil))
    (pss_cons (ps_set (i := 5) scGrow.nd rfl (Or.inl rfl) (pe_lst pa_nil))
    (pss_cons (ps_set (i := 6) scGrow.nd rfl (Or.inl rfl) pe_int)
    (pss_cons (ps_while PassesOwn.never (pt_cmpR op_lt (pe_op op_sub (pv 3) (pv 6)) (pv 2) (nomark _))
      (pss_cons (ps_set (i := 7) scGrow.nd rfl (Or.inl rfl) (pe_cl (ok_lhalf T) (hr.mono (by decide)) (pa_cons (pv 2) pa_nil)))
      (pss_one (ps_if (pt_cmpR op_gt (pe_op op_sub (pv 3) (pv 6)) (pv 7) (nomark _))
        (pss_cons (ps_expr (pe_bm PySem.F.plainAttrs_list PySem.F.slot_list_append PySem.F.type_list_append mt_append (pv 4) (pa_cons (pe_cl (ok_top T 13 (by decide)) hr (pa_cons (pv 0) (pa_cons (pv 1) (pa_cons (pv 6) (pa_cons (pv 7) pa_nil))))) pa_nil)))
          (pss_cons (ps_set (i := 6) scGrow.nd rfl (Or.inl rfl) (pe_op op_add (pv 6) (pv 7))) (pss_one (ps_set (i := 2) scGrow.nd rfl (Or.inl rfl) (pe_op op_sub (pv 2) (pv 7))))))
        (pss_cons (ps_expr (pe_bm PySem.F.plainAttrs_list PySem.F.slot_list_append PySem.F.type_list_append mt_append (pv 5) (pa_cons (pe_cl (ok_top T 13 (by decide)) hr (pa_cons (pv 0) (pa_cons (pv 1) (pa_cons (pe_op op_add (pv 6) (pv 7)) (pa_cons (pe_op op_sub (pv 2) (pv 7)) pa_nil))))) pa_nil)))
          (pss_one (ps_set (i := 2) scGrow.nd rfl (Or.inl rfl) (pv 7))))))))
    (pss_cons (ps_expr (pe_bm PySem.F.plainAttrs_list PySem.F.slot_list_append PySem.F.type_list_append mt_append (pv 4) (pa_cons (pe_cl (ok_top T 13 (by decide)) hr (pa_cons (pv 0) (pa_cons (pv 1) (pa_cons (pv 6) (pa_cons (pv 2) pa_nil))))) pa_nil)))
    (pss_one (ps_ret (pe_callTy call_tuple_of (by rfl) T.b_tuple (by decide +kernel) (pa_cons (pe_op op_cat (pv 4) (pe_listRev (by rfl) (by rfl) T.b_list (by rfl) T.b_reversed (pv 5))) pa_nil)))))))), ?_⟩
  refine ⟨(by show 0 ≤ sizeLine; decide), fun lA hA => ⟨(by show 0 ≤ sizeLine; decide), fun lB hB => ?_⟩⟩
  have hB0 : H lB = none := upd_n hB
  have hAB : lA ≠ lB := fun z => by rw [← z, upd_same] at hB; cases hB
  refine while_by (ggInv H k T0 g ta lA lB n e r t) (fun σ _ => intAt σ 2) ⟨0, n, [], [], T0, none, rfl, h1, by omega, Nat.le_refl _, ((Kp.refl H).new hA _).new hB _, by rw [upd_ne hAB]; exact upd_same, upd_same, (sa.new hA _).new hB _, fun _ _ h => h, by show 0 + 0 + n ≤ n; omega, fun T2 ms _ h => by
    have h : GM T2 t 0 n e ms := h
    rw [List.nil_append, List.reverse_nil, List.append_nil]
    exact h⟩ ?_ (test_mono i0_mono (test_tOp i0_mono var_mono var_mono) var_mono)
  rintro σ H' ⟨low, many, pre, post, T1, c, rfl, hl1, hl2, hmn, kp, hLA, hLB, sa1, le1, hpl2, cont⟩
  have tr' := tr.kp kp
  have e3 : (e : Int) - (low : Int) = ((e - low : Nat) : Int) := by omega
  refine ⟨_, rfl, _, rfl, _, _, rfl, rfl, _, rfl, _, _, rfl, rfl, _, rfl, ite2 (fun c1 => ?_) (fun c1 => ?_)⟩
  · have h2 : e - low < many := by have := of_decide_eq_true c1; omega
    have h22 : 2 ≤ many := by omega
    have hlt := half_lt h22
    have hpos := half_pos many
    have hszA : (kVs pre).length < sizeLine := by rw [List.length_map]; omega
    have hszB : (kVs post).length < sizeLine := by rw [List.length_map]; omega
    have e1 : (low : Int) + (half many : Nat) = ((low + half many : Nat) : Int) := by omega
    have e2 : (many : Int) - (half many : Nat) = ((many - half many : Nat) : Int) := by omega
    refine ⟨_, rfl, many, rfl, h22, by omega, ?_⟩
    refine ⟨_, rfl, _, rfl, _, _, rfl, rfl, _, rfl, _, _, rfl, rfl, _, rfl, ite2 (fun c2 => ?_) (fun c2 => ?_)⟩
    · have h4 : half many < e - low := by have := of_decide_eq_true c2; omega
      refine ⟨_, rfl, .inl ⟨rfl, _, SqL.of hLA⟩, _, rfl, _, rfl, _, rfl, _, rfl, ?_⟩
      refine ⟨g, ta, tb, low, half many, t, k, T1, r + 2 * (many - half many) + 1, rfl, by omega, by omega, tr', sa1.le (by omega), by omega, fun m T2 H2 sa2 le2 kp2 top2 => ?_⟩
      refine ⟨lA, _, _, rfl, rfl, kp2.lst hLA, hszA, ?_⟩
      refine ⟨_, rfl, _, rfl, _, _, rfl, rfl, _, rfl, _, rfl, _, _, rfl, rfl, ⟨low + half many, many - half many, pre ++ [m], post, T2, some (.int (half many : Nat)), by rw [← e1, ← e2]; rfl, by omega, by omega, by omega, (kp.trans kp2).wr hA _, by rw [kVs_snoc]; exact upd_same, by rw [upd_ne (Ne.symm hAB)]; exact kp2.lst hLB, (sa2.lst (kp2.lst hLA) _).le (by omega), fun _ _ h => le2 _ _ (le1 _ _ h), by rw [List.length_append]; show _ + 1 + _ + _ ≤ _; omega, fun T3 ms le3 h => ?_⟩, ?_⟩
      · have e5 : e - (low + half many) = e - low - half many := by omega
        rw [e5] at h
        have := cont T3 _ (fun _ _ h => le3 _ _ (le2 _ _ h)) (.right h2 h4 (top2.mono le3) h)
        rw [List.append_assoc pre [m] ms]
        exact this
      · show ((many : Int) - (half many : Nat)).toNat < (many : Int).toNat
        omega
    · have h4 : e - low ≤ half many := by
        have : ¬ ((half many : Nat) : Int) < (e : Int) - (low : Int) := fun z => c2 (decide_eq_true z)
        omega
      refine ⟨_, rfl, .inl ⟨rfl, _, SqL.of hLB⟩, _, rfl, _, rfl, _, rfl, _, rfl, _, _, rfl, rfl, _, rfl, _, rfl, _, _, rfl, rfl, ?_⟩
      refine ⟨g, ta, tb, low + half many, many - half many, t, k, T1, r + 2 * half many + 1, ?_, by omega, by omega, tr', sa1.le (by omega), by omega, fun m T2 H2 sa2 le2 kp2 top2 => ?_⟩
      · show [V.ref g, V.ref ta, V.int ((low : Int) + (half many : Nat)), V.int ((many : Int) - (half many : Nat))] = _
        rw [e1, e2]
      refine ⟨lB, _, _, rfl, rfl, kp2.lst hLB, hszB, ?_⟩
      refine ⟨_, rfl, ⟨low, half many, pre, post ++ [m], T2, _, rfl, hl1, by omega, by omega, (kp.trans kp2).wr hB0 _, by rw [upd_ne hAB]; exact kp2.lst hLA, by rw [kVs_snoc]; exact upd_same, (sa2.lst (kp2.lst hLB) _).le (by omega), fun _ _ h => le2 _ _ (le1 _ _ h), by rw [List.length_append]; show _ + (_ + 1) + _ ≤ _; omega, fun T3 ms le3 h => ?_⟩, ?_⟩
      · have := cont T3 _ (fun _ _ h => le3 _ _ (le2 _ _ h)) (.left h2 h4 (top2.mono le3) h)
        rw [List.reverse_append, List.reverse_singleton, ← List.append_assoc]
        rw [← List.append_assoc] at this
        exact this
      · show (half many : Int).toNat < (many : Int).toNat
        omega
  · have h2 : e - low = many := by
      have : ¬ ((e : Int) - (low : Int) < (many : Int)) := fun z => c1 (decide_eq_true z)
      omega
    have hszA : (kVs pre).length < sizeLine := by rw [List.length_map]; omega
    refine ⟨_, rfl, .inl ⟨rfl, _, SqL.of hLA⟩, _, rfl, _, rfl, _, rfl, _, rfl, ?_⟩
    refine ⟨g, ta, tb, low, many, t, k, T1, r, rfl, by omega, by omega, tr', sa1.le (by omega), by omega, fun m T2 H2 sa2 le2 kp2 top2 => ?_⟩
    refine ⟨lA, _, _, rfl, rfl, kp2.lst hLA, hszA, ?_⟩
    have kp3 : Kp H (upd H2 lA (.lst (kVs pre ++ [kV m]))) := (kp.trans kp2).wr hA _
    have hLB3 : (upd H2 lA (.lst (kVs pre ++ [kV m]))) lB = some (.lst (kVs post)) := by rw [upd_ne (Ne.symm hAB)]; exact kp2.lst hLB
    refine ⟨_, rfl, _, rfl, lB, _, rfl, SqL.of hLB3, fun lR hR => ?_⟩
    refine ⟨lA, lR, _, _, rfl, rfl, by rw [upd_ne (ne_of_none upd_same hR)]; exact upd_same, upd_same, by rw [List.length_append, List.length_map, List.length_reverse, List.length_map]; show _ + 1 + _ ≤ _; omega, fun lC hC => ?_⟩
    refine ⟨lC, _, rfl, .inl ⟨SqL.of upd_same, fun lT hT => ?_⟩⟩
    have gm := cont T2 [m] le2 (by rw [h2]; exact .same top2)
    refine q lT (pre ++ [m] ++ post.reverse) T2 _ ((((sa2.lst (kp2.lst hLA) _).new hR _).new hC _).new hT _) (fun _ _ h => le2 _ _ (le1 _ _ h)) (((kp3.new hR _).new hC _).new hT _) ?_ gm
    rw [upd_same]
    congr 2
    show kVs pre ++ [kV m] ++ (kVs post).reverse = kVs _
    rw [← List.map_reverse, show kVs (pre ++ [m] ++ post.reverse) = kVs (pre ++ [m]) ++ kVs post.reverse from List.map_append, kVs_snoc]
end
end Rs
set_option Elab.async false
set_option linter.all false
set_option maxRecDepth 100000
set_option maxHeartbeats 4000000
/-! Rootstamp, the terms that the law plants: _law_hands, _law_dealt, _law_term, _law_place_term, _law_growth_term. -/
namespace Rs
open PySem PySem.Spec PyProof.Rows L2
section
variable {P : Program} {w : World} {K : PySem.W.Frag} {mg : Str → Option Value} {base : Heap}
def spHands : Sp := fun vs H Q _ => ∃ n e : Nat, vs = [.int n, .int e] ∧ 1 ≤ e ∧ e ≤ n ∧ n ≤ 2 ^ 60 ∧ ∀ (l : Addr) (hs : List Bool) (H' : Hp), Same H H' → H' l = some (.lst (hs.map tv)) → hs.length + 1 = howMany n e → Q (.ref l) H'
theorem scHands : FnScope ["_law_count", "_law_elder", "_law_hands_here", "_law_low", "_law_cut"] ["_law_count", "_law_elder"] (defScope (top 50)) := ⟨rfl, rfl, rfl, by decide +kernel, rfl, by decide +kernel, by decide +kernel⟩
theorem ok_hands (T : Txt K mg) : Pr P w K mg base 2 "_law_hands" ["_law_count", "_law_elder"] spHands := by
  refine T.law_hands_.ok scHands (fun vs H Q E h => ?_) (fun f cdv A outer s H vs Q E hr h => ?_)
  · obtain ⟨_, _, rfl, _⟩ := h; rfl
  obtain ⟨n, e, rfl, h1, hle, hn, q⟩ := h
  have hlen := howMany_le 60 (e := e) hn
  refine ⟨_, pss_cons (ps_set (i := 2) scHands.nd rfl (Or.inl rfl) (pe_lst pa_nil))
    (pss_cons (ps_set (i := 3) scHands.nd rfl (Or.inl rfl) pe_int)
    (pss_cons (ps_while PassesOwn.never (pt_cmpR op_lt (pe_op op_sub (pv 1) (pv 3)) (pv 0) (nomark _))
      (pss_cons (ps_set (i := 4) scHands.nd rfl (Or.inl rfl) (pe_cl (ok_lhalf T) hr (pa_cons (pv 0) pa_nil)))
      (pss_cons (ps_expr (pe_bm PySem.F.plainAttrs_list PySem.F.slot_list_append PySem.F.type_list_append mt_append (pv 2) (pa_cons (pe_callTy call_int1 (by rfl) T.b_int (by decide +kernel) (pa_cons (pe_cmpR op_gt (pe_op op_sub (pv 1) (pv 3)) (pv 4) (nomark _)) pa_nil)) pa_nil)))
      (pss_one (ps_if (pt_cmpR op_gt (pe_op op_sub (pv 1) (pv 3)) (pv 4) (nomark _))
        (pss_cons (ps_set (i := 3) scHands.nd rfl (Or.inl rfl) (pe_op op_add (pv 3) (pv 4))) (pss_one (ps_set (i := 0) scHands.nd rfl (Or.inl rfl) (pe_op op_sub (pv 0) (pv 4)))))
        (pss_one (ps_set (i := 0) scHands.nd rfl (Or.inl rfl) (pv 4))))))))
    (pss_one (ps_ret (pv 2))))), ?_⟩
  refine ⟨(by show 0 ≤ sizeLine; decide), fun l hl => ?_⟩
  refine while_by (fun σ H' => ∃ (low c : Nat) (pre : List Bool) (v : Option V), σ = [some (.int c), some (.int e), some (.ref l), some (.int low), v] ∧ low < e ∧ e ≤ low + c ∧ c ≤ n ∧ howMany n e = pre.length + howMany c (e - low) ∧ Same H H' ∧ H' l = some (.lst (pre.map tv)))
    (fun σ _ => intAt σ 0) ⟨0, n, [], none, rfl, h1, by omega, Nat.le_refl _, by show _ = 0 + howMany n e; omega, same_new hl _, upd_same⟩ ?_ (test_mono i0_mono (test_tOp i0_mono var_mono var_mono) var_mono)
  rintro σ H' ⟨low, c, pre, v, rfl, hl1, hl2, hcn, hw, sm, hL⟩
  refine ⟨_, rfl, _, rfl, _, _, rfl, rfl, _, rfl, _, _, rfl, rfl, _, rfl, ite2 (fun c1 => ?_) (fun c1 => ?_)⟩
  · have h2 : e - low < c := by have := of_decide_eq_true c1; omega
    have h22 : 2 ≤ c := by omega
    have hlt := half_lt h22
    have hpos := half_pos c
    have hle : pre.length < 70 := by omega
    have hsz : (pre.map tv).length < sizeLine := by rw [List.length_map]; exact small60 (by omega)
    refine ⟨_, rfl, c, rfl, h22, by omega, ?_⟩
    refine ⟨_, rfl, .inl ⟨rfl, _, SqL.of hL⟩, _, rfl, _, rfl, _, _, rfl, rfl, _, rfl, _, _, rfl, rfl, .inr ⟨_, rfl, ?_⟩⟩
    refine ⟨l, _, _, rfl, rfl, hL, hsz, ?_⟩
    refine ⟨_, rfl, _, rfl, _, _, rfl, rfl, _, rfl, _, _, rfl, rfl, _, rfl, ite2 (fun c2 => ?_) (fun c2 => ?_)⟩
    · have h4 : half c < e - low := by have := of_decide_eq_true c2; omega
      refine ⟨_, rfl, _, rfl, _, _, rfl, rfl, _, rfl, _, rfl, _, _, rfl, rfl, ⟨low + half c, c - half c, pre ++ [true], some (.int (half c : Nat)), ?_, by omega, by omega, by omega, ?_, same_upd hl sm _, ?_⟩, ?_⟩
      · have e1 : (low : Int) + (half c : Nat) = ((low + half c : Nat) : Int) := by omega
        have e2 : (c : Int) - (half c : Nat) = ((c - half c : Nat) : Int) := by omega
        rw [← e1, ← e2]; rfl
      · rw [howMany_r h2 h4] at hw
        have e5 : e - (low + half c) = e - low - half c := by omega
        rw [e5, List.length_append]
        show _ = pre.length + 1 + _
        omega
      · rw [List.map_append]
        have e3 : decide (((half c : Nat) : Int) < (e : Int) - (low : Int)) = true := decide_eq_true (by omega)
        rw [e3]
        exact upd_same
      · show ((c : Int) - (half c : Nat)).toNat < (c : Int).toNat
        omega
    · have h4 : e - low ≤ half c := by
        have : ¬ ((half c : Nat) : Int) < (e : Int) - (low : Int) := fun z => c2 (decide_eq_true z)
        omega
      refine ⟨_, rfl, ⟨low, half c, pre ++ [false], _, rfl, hl1, by omega, by omega, ?_, same_upd hl sm _, ?_⟩, ?_⟩
      · rw [howMany_l h2 (by omega) h4] at hw
        rw [List.length_append]
        show _ = pre.length + 1 + _
        omega
      · rw [List.map_append]
        have e3 : decide (((half c : Nat) : Int) < (e : Int) - (low : Int)) = false := decide_eq_false (by omega)
        rw [e3]
        exact upd_same
      · show (half c : Int).toNat < (c : Int).toNat
        omega
  · have h2 : e - low = c := by
      have : ¬ ((e : Int) - (low : Int) < (c : Int)) := fun z => c1 (decide_eq_true z)
      omega
    rw [howMany_same (n := c) (e := e - low) (by omega)] at hw
    exact ⟨_, rfl, q l pre H' sm hL hw.symm⟩
/-! _law_dealt -/
def spDealt : Sp := fun vs H Q _ => ∃ (lh ma : Addr) (hs : List Bool) (ms : List Key), vs = [.ref lh, .ref ma] ∧ H lh = some (.lst (hs.map tv)) ∧ H ma = some (.tup (kVs ms)) ∧ ms.length = hs.length + 1 ∧ hs.length ≤ 70 ∧
  ∀ (l : Addr) (ds : List Key) (H' : Hp), Same H H' → H' l = some (.lst (kVs ds)) → ds.length = ms.length → (∀ d ∈ ds, d ∈ ms) → ksum ds = ksum ms → Q (.ref l) H'
theorem scDealt : FnScope ["_law_hands_here", "_law_marks", "_law_dealt_here", "_law_low", "_law_high", "_law_hand"] ["_law_hands_here", "_law_marks"] (defScope (top 52)) := ⟨rfl, rfl, rfl, by decide +kernel, rfl, by decide +kernel, by decide +kernel⟩
def seg (ms : List Key) (lo hi : Nat) : List Key := (ms.drop lo).take (hi - lo)
theorem seg_l {ms : List Key} {lo hi : Nat} {m : Key} (h : ms[lo]? = some m) (hl : lo < hi) : ksum (seg ms lo hi) = klen m + ksum (seg ms (lo + 1) hi) := by
  unfold seg
  have e : hi - lo = (hi - (lo + 1)) + 1 := by omega
  rw [drop_cons h, e, List.take_succ_cons, ksum_cons]
theorem seg_r {ms : List Key} {lo hi : Nat} {m : Key} (h : ms[hi - 1]? = some m) (hl : lo < hi) : ksum (seg ms lo hi) = ksum (seg ms lo (hi - 1)) + klen m := by
  unfold seg
  have e : hi - lo = (hi - 1 - lo) + 1 := by omega
  have e2 : (ms.drop lo)[hi - 1 - lo]? = some m := by
    rw [List.getElem?_drop]
    have : lo + (hi - 1 - lo) = hi - 1 := by omega
    rw [this]; exact h
  rw [e, List.take_add_one, e2, ksum_append]
  show _ + ksum [m] = _
  rw [ksum_cons, ksum_nil]; rfl
theorem seg_all (ms : List Key) : seg ms 0 ms.length = ms := by
  unfold seg
  rw [List.drop_zero, Nat.sub_zero, List.take_length]
theorem tv_eq1 (b : Bool) : decide (tv b = V.int 1) = b := by cases b <;> rfl
theorem ok_dealt (T : Txt K mg) : Pr P w K mg base 1 "_law_dealt" ["_law_hands_here", "_law_marks"] spDealt := by
  refine T.law_dealt_.ok scDealt (fun vs H Q E h => ?_) (fun f cdv A outer s H vs Q E hr h => ?_)
  · obtain ⟨_, _, _, _, rfl, _⟩ := h; rfl
  obtain ⟨lh, ma, hs, ms, rfl, hlh, hma, hml, hb, q⟩ := h
  have hz := sizeLine_eq
  refine ⟨_, pss_cons (ps_set (i := 2) scDealt.nd rfl (Or.inl rfl) (pe_lst pa_nil))
    (pss_cons (ps_set (i := 3) scDealt.nd rfl (Or.inl rfl) pe_int)
    (pss_cons (ps_set (i := 4) scDealt.nd rfl (Or.inl rfl) (pe_callB call_len_seq (by rfl) T.b_len PySem.boot_len (pa_cons (pv 1) pa_nil)))
    (pss_cons (ps_for PassesOwn.never rfl (pi_list (pv 0)) (pg_name (i := 5) scDealt.nd rfl (Or.inl rfl))
      (pss_one (ps_if (pt_cmpR op_eq (pv 5) pe_int (nomark _))
        (pss_cons (ps_expr (pe_bm PySem.F.plainAttrs_list PySem.F.slot_list_append PySem.F.type_list_append mt_append (pv 2) (pa_cons (pe_ix ix_tup (pv 1) (pv 3) (fun _ _ => rfl)) pa_nil))) (pss_one (ps_set (i := 3) scDealt.nd rfl (Or.inl rfl) (pe_op op_add (pv 3) pe_int))))
        (pss_cons (ps_set (i := 4) scDealt.nd rfl (Or.inl rfl) (pe_op op_sub (pv 4) pe_int)) (pss_one (ps_expr (pe_bm PySem.F.plainAttrs_list PySem.F.slot_list_append PySem.F.type_list_append mt_append (pv 2) (pa_cons (pe_ix ix_tup (pv 1) (pv 4) (fun _ _ => rfl)) pa_nil))))))))
    (pss_one (ps_ret (pe_op op_cat (pv 2) (pe_lst (pa_cons (pe_ix ix_tup (pv 1) (pv 3) (fun _ _ => rfl)) pa_nil)))))))), ?_⟩
  refine ⟨(by show 0 ≤ sizeLine; decide), fun ld hld => ?_⟩
  have hma0 : (upd H ld (.lst [])) ma = some (.tup (kVs ms)) := same_new hld _ _ _ hma
  refine ⟨_, rfl, ma, _, rfl, .inr (SqT.of hma0), ?_⟩
  have kv_at : ∀ {j : Nat}, j < ms.length → ∃ m, ms[j]? = some m ∧ (kVs ms)[j]? = some (kV m) ∧ m ∈ ms := fun {j} hj =>
    ⟨ms[j], List.getElem?_eq_getElem hj, by rw [List.getElem?_map, List.getElem?_eq_getElem hj]; rfl, List.getElem_mem hj⟩
  refine ⟨_, rfl, lh, rfl, ⟨_, SqL.of (same_new hld _ _ _ hlh)⟩, for_list (K := K) (a := lh) (xs := hs.map tv) (fun i σ H' => i ≤ hs.length ∧ ∃ (lo hi : Nat) (ds : List Key) (v : Option V), σ = [some (.ref lh), some (.ref ma), some (.ref ld), some (.int lo), some (.int hi), v] ∧ lo + ms.length = i + hi ∧ lo ≤ i ∧ Same H H' ∧ H' ld = some (.lst (kVs ds)) ∧ ds.length = i ∧ ksum ds + ksum (seg ms lo hi) = ksum ms ∧ ∀ d ∈ ds, d ∈ ms)
    ⟨Nat.zero_le _, 0, ms.length, [], none, by rw [show ((kVs ms).length) = ms.length from List.length_map _]; rfl, by omega, Nat.le_refl _, same_new hld _, upd_same, rfl, by rw [seg_all, ksum_nil]; omega, fun _ h => nomatch h⟩ (fun i σ H' _ ⟨_, _, _, _, _, _, _, _, sm, _⟩ => SqL.of (sm _ _ hlh)) ?_ ?_⟩
  · rintro i y σ H' hi ⟨hil, lo, hi', ds, v, rfl, hsum, hlo, sm, hL, hdl, hkd, hdm⟩
    obtain ⟨b, hbi, rfl⟩ := bs_get hi
    have hih : i < hs.length := (List.getElem?_eq_some_iff.mp hbi).1
    have hsz : (kVs ds).length < sizeLine := by rw [List.length_map]; omega
    refine ⟨_, rfl, by cases b <;> rfl, _, rfl, ?_⟩
    rw [tv_eq1]
    cases b with
    | true =>
      obtain ⟨m, hmi, hm, hmm⟩ := kv_at (j := lo) (by omega)
      refine iteT ⟨_, rfl, .inl ⟨rfl, _, SqL.of hL⟩, _, rfl, _, rfl, ma, _, _, _, rfl, rfl, SqT.of (sm _ _ hma), at_of (j := lo) rfl hm, ld, _, _, rfl, rfl, hL, hsz, ?_⟩
      refine ⟨_, rfl, _, _, rfl, rfl, hih, lo + 1, hi', ds ++ [m], _, rfl, by omega, by omega, same_upd hld sm _, by rw [kVs_snoc]; exact upd_same, by rw [List.length_append, hdl]; rfl, by rw [seg_l hmi (by omega)] at hkd; rw [ksum_append, ksum_cons, ksum_nil]; omega, fun d hd => (List.mem_append.mp hd).elim (hdm d) fun z => by rw [List.mem_singleton.mp z]; exact hmm⟩
    | false =>
      obtain ⟨m, hmi, hm, hmm⟩ := kv_at (j := hi' - 1) (by omega)
      have e1 : (hi' : Int) - 1 = ((hi' - 1 : Nat) : Int) := by omega
      refine iteF ⟨_, rfl, _, _, rfl, rfl, ?_⟩
      refine ⟨_, rfl, .inl ⟨rfl, _, SqL.of hL⟩, _, rfl, _, rfl, ma, _, _, _, rfl, rfl, SqT.of (sm _ _ hma), at_of (j := hi' - 1) e1 hm, ld, _, _, rfl, rfl, hL, hsz, ?_⟩
      refine ⟨hih, lo, hi' - 1, ds ++ [m], some (tv false), by rw [← e1]; rfl, by omega, by omega, same_upd hld sm _, by rw [kVs_snoc]; exact upd_same, by rw [List.length_append, hdl]; rfl, by rw [seg_r hmi (by omega)] at hkd; rw [ksum_append, ksum_cons, ksum_nil]; omega, fun d hd => (List.mem_append.mp hd).elim (hdm d) fun z => by rw [List.mem_singleton.mp z]; exact hmm⟩
  · rintro σ H' ⟨hil, lo, hi', ds, v, rfl, hsum, hlo, sm, hL, hdl, hkd, hdm⟩
    have e0 : (hs.map tv).length = hs.length := List.length_map _
    rw [e0] at hsum hlo hdl
    obtain ⟨m, hmi, hm, hmm⟩ := kv_at (j := lo) (by omega)
    refine ⟨_, rfl, _, rfl, _, rfl, ma, _, _, _, rfl, rfl, SqT.of (sm _ _ hma), at_of (j := lo) rfl hm, (by show 1 ≤ _; omega), fun l1 h1 => ?_⟩
    refine ⟨ld, l1, _, _, rfl, rfl, by rw [upd_ne (ne_of_none hL h1)]; exact hL, upd_same, by rw [List.length_map]; show _ + 1 ≤ _; omega, fun l2 h2 => ?_⟩
    refine q l2 (ds ++ [m]) _ (fun a o h => same_new h2 _ _ _ (same_new h1 _ _ _ (sm _ _ h))) (by rw [kVs_snoc]; exact upd_same) (by rw [List.length_append, hdl, hml]; rfl) (fun d hd => (List.mem_append.mp hd).elim (hdm d) fun z => by rw [List.mem_singleton.mp z]; exact hmm) (by
      have e9 : seg ms (lo + 1) hi' = [] := by unfold seg; rw [show hi' - (lo + 1) = 0 by omega, List.take_zero]
      rw [seg_l hmi (by omega), e9, ksum_nil] at hkd
      rw [ksum_append, ksum_cons, ksum_nil]; omega)
end
end Rs
set_option Elab.async false
set_option linter.all false
set_option maxRecDepth 100000
set_option maxHeartbeats 4000000
/-! Rootstamp, the terms that the law plants: _law_term, _law_place_term, _law_growth_term. -/
namespace Rs
open PySem PySem.Spec PyProof.Rows L2
/-- a list or a tuple of marks -/
def MarksAt (H : Hp) (a : Addr) (ms : List Key) : Prop := H a = some (.lst (kVs ms)) ∨ H a = some (.tup (kVs ms))
theorem MarksAt.kp {H H' : Hp} {a : Addr} {ms : List Key} (h : MarksAt H a ms) (k : Kp H H') : MarksAt H' a ms := h.elim (fun z => .inl (k.lst z)) fun z => .inr (k.tup z)
theorem ix_marks {K : PySem.W.Frag} {H : Hp} {a : Addr} {ms : List Key} {i : Int} {v : V} {Q : VK} (h : MarksAt H a ms) (e : atI (kVs ms) i = some v) (q : Q v H) : rIx K (.ref a) (.int i) H Q := by
  rcases h with h | h
  · exact .inl ⟨a, _, i, v, rfl, rfl, SqL.of h, e, q⟩
  · exact .inr (.inl ⟨a, _, i, v, rfl, rfl, SqT.of h, e, q⟩)
theorem Kp.same {H H' : Hp} (s : Same H H') : Kp H H' := Kp.of s
section
variable {P : Program} {w : World} {K : PySem.W.Frag} {mg : Str → Option Value} {base : Heap}
def spTm : Sp := fun vs H Q _ => ∃ (f lh ma : Addr) (n h : Nat) (hs : List Bool) (ms : List Key) (s0 : Key) (k : Kd) (T : TR) (r : Nat), vs = [.ref f, .int n, .ref lh, .ref ma, kV s0, .int h] ∧ H lh = some (.lst (hs.map tv)) ∧ MarksAt H ma ms ∧ ms.length = hs.length ∧ h ≤ hs.length ∧ hs.length ≤ 70 ∧ n < 2 ^ 59 ∧
  Vk s0 ∧ klen s0 ≤ 6000000 ∧ (∀ k ∈ ms, Vk k) ∧ ksum ms ≤ 6000000 ∧ SA k f T (r + h) H ∧ ∀ (p : Addr) (t : Term) (T' : TR) (H' : Hp), SA k f T' r H' → LeT T T' → Kp H H' → H' p = some (.tup (kVs t)) → OkT t → Q (.ref p) H'
theorem scTm : FnScope ["_law_stamper_here", "_law_count", "_law_hands_here", "_law_marks", "_law_top_here", "_law_height", "_law_k", "_law_term_here"] ["_law_stamper_here", "_law_count", "_law_hands_here", "_law_marks", "_law_top_here", "_law_height"] (defScope (top 53)) := ⟨rfl, rfl, rfl, by decide +kernel, rfl, by decide +kernel, by decide +kernel⟩
def tmInv (H : Hp) (k : Kd) (T0 : TR) (g lh ma : Addr) (n h r : Nat) (ms : List Key) (s0 : Key) (i : Nat) (σ : L2.St) (H' : Hp) : Prop :=
  i ≤ h ∧ ∃ (s : Key) (T1 : TR) (x y : Option V), σ = [some (.ref g), some (.int n), some (.ref lh), some (.ref ma), some (kV s), some (.int h), x, y] ∧ Kp H H' ∧ SA k g T1 (r + (h - i)) H' ∧ LeT T0 T1 ∧ Vk s ∧ klen s ≤ klen s0 + ksum (ms.drop (ms.length - i)) + 100 * i
theorem ok_tm (T : Txt K mg) : Pr P w K mg base 6 "_law_term" ["_law_stamper_here", "_law_count", "_law_hands_here", "_law_marks", "_law_top_here", "_law_height"] spTm := by
  refine T.law_term_.ok scTm (fun vs H Q E h => ?_) (fun f cdv A outer s H vs Q E hr hh => ?_)
  · obtain ⟨_, _, _, _, _, _, _, _, _, _, _, rfl, _⟩ := h; rfl
  obtain ⟨g, lh, ma, n, h, hs, ms, s0, k, T0, r, rfl, hlh, hma, hml, hhl, h70, hn, hv0, hk0, hvm, hks, sa, q⟩ := hh
  have hz := sizeLine_eq
  have z3 : 3 ≤ sizeLine := by omega
  refine ⟨_, pss_cons (ps_for PassesOwn.never rfl (pi_range1 (by rfl) T.b_range (pa_cons (pe_op op_add (pv 5) pe_int) pa_nil)) (pg_name (i := 6) scTm.nd rfl (Or.inl rfl))
      (pss_cons (ps_if (pt_cmpR op_eq (pv 6) (pe_callB call_len_seq (by rfl) T.b_len PySem.boot_len (pa_cons (pv 2) pa_nil)) (nomark _))
          (pss_one (ps_set (i := 7) scTm.nd rfl (Or.inl rfl) (pe_tup (pa_cons pe_str (pa_cons (pv 1) (pa_cons (pv 4) pa_nil))))))
          (pss_one (ps_if (pt_cmpR op_eq (pe_ix ix_list (pv 2) (pe_op op_sub (pe_un un_neg pe_int) (pv 6)) (fun _ _ => rfl)) pe_int (nomark _))
            (pss_one (ps_set (i := 7) scTm.nd rfl (Or.inl rfl) (pe_tup (pa_cons pe_str (pa_cons (pe_ix ix_seq (pv 3) (pe_op op_sub (pe_un un_neg pe_int) (pv 6)) (fun _ _ => rfl)) (pa_cons (pv 4) pa_nil))))))
            (pss_one (ps_set (i := 7) scTm.nd rfl (Or.inl rfl) (pe_tup (pa_cons pe_str (pa_cons (pv 4) (pa_cons (pe_ix ix_seq (pv 3) (pe_op op_sub (pe_un un_neg pe_int) (pv 6)) (fun _ _ => rfl)) pa_nil)))))))))
      (pss_cons (ps_if (pt_cmpR op_eq (pv 6) (pv 5) (nomark _)) (pss_one (ps_ret (pv 7))) pss_nil)
      (pss_one (ps_set (i := 4) scTm.nd rfl (Or.inl rfl) (pe_st (i := 0) T hr (pv 7)))))))
    (pss_one (ps_ret pe_non)), ?_⟩
  refine ⟨_, rfl, _, _, rfl, rfl, _, rfl, by omega, by omega, ?_⟩
  have eN : ((h : Int) + 1).toNat = h + 1 := by omega
  rw [eN]
  refine for_range (lo := 0) (n := h + 1) (tmInv H k T0 g lh ma n h r ms s0) ⟨Nat.zero_le _, s0, T0, none, none, rfl, Kp.refl H, sa, fun _ _ h => h, hv0, by omega⟩ ?_ ?_
  · rintro i σ H' hi ⟨hih, s1, T1, x, y, rfl, kp, sa1, le1, hv1, hkl⟩
    rw [Int.zero_add]
    have hdr : ksum (ms.drop (ms.length - i)) ≤ ksum ms := by
      have := ksum_append (ms.take (ms.length - i)) (ms.drop (ms.length - i))
      rw [List.take_append_drop] at this
      omega
    -- the end of a turn
    have fin : ∀ (p : Addr) (t : Term), H' p = none → OkT t → (i = h ∨ ∃ m, ms[ms.length - 1 - i]? = some m ∧ ksum t ≤ 5 + klen s1 + klen m ∧ t.length = 3) →
        (let X : Cx := (cxOf CX0 P w K mg base ["_law_stamper_here", "_law_count", "_law_hands_here", "_law_marks", "_law_top_here", "_law_height", "_law_k", "_law_term_here"] "_law_term" (defScope (top 53)) f cdv A outer s H E).nox
        ∀ (D : Ends), D.nx = tmInv H k T0 g lh ma n h r ms s0 (i + 1) → D.rt = Q →
        ∃ b, decide (V.int (i : Int) = V.int (h : Int)) = b ∧ (if b = true then Q (.ref p) (upd H' p (.tup (kVs t))) else tSt 0 (tVar 7) [some (.ref g), some (.int n), some (.ref lh), some (.ref ma), some (kV s1), some (.int h), some (.int (i : Int)), some (.ref p)] (upd H' p (.tup (kVs t))) (fun z H2 => D.nx [some (.ref g), some (.int n), some (.ref lh), some (.ref ma), some z, some (.int h), some (.int (i : Int)), some (.ref p)] H2))) := by
      intro p t hp hok hcase X D hD _
      refine ⟨_, rfl, ?_⟩
      have kp2 : Kp H (upd H' p (.tup (kVs t))) := kp.new hp _
      by_cases e : i = h
      · subst e
        rw [decide_eq_true rfl]
        exact iteT (q p t T1 _ ((sa1.new hp _).le (by omega)) le1 kp2 upd_same hok)
      · rw [decide_eq_false (fun z => e (by injection z with z; omega))]
        obtain ⟨m, hm, hkt, hl3⟩ := hcase.resolve_left e
        have sa2 : SA k g T1 (r + (h - (i + 1)) + 1) (upd H' p (.tup (kVs t))) := (sa1.new hp _).le (by omega)
        refine iteF ⟨g, rfl, ⟨k, T1, _, sa2⟩, _, rfl, p, t, k, T1, _, rfl, upd_same, hok, sa2, fun s' T' H2 sa3 le3 hs3 kp3 => ?_⟩
        rw [hD]
        have hb := sa3.bd _ _ hs3
        have e0 : ms.length - 1 - i + 1 = ms.length - i := by omega
        have hkm : ksum (ms.drop (ms.length - (i + 1))) = klen m + ksum (ms.drop (ms.length - i)) := by
          have : ms.length - (i + 1) = ms.length - 1 - i := by omega
          rw [this, drop_cons hm, ksum_cons, e0]
        exact ⟨by omega, s', T', _, _, rfl, kp2.trans kp3, sa3, fun _ _ h => le3 _ _ (le1 _ _ h), sa3.vd _ _ hs3, by rw [hkm]; omega⟩
    refine ⟨_, rfl, _, rfl, lh, _, rfl, .inl (SqL.of (kp.lst hlh)), rfl, _, rfl, ?_⟩
    have e0 : ((hs.map tv).length : Int) = (hs.length : Int) := by rw [List.length_map]
    by_cases hiL : i = hs.length
    · rw [decide_eq_true (by rw [hiL, e0])]
      have hih2 : i = h := by omega
      refine iteT ⟨_, rfl, _, rfl, z3, fun p hp => ?_⟩
      obtain ⟨b, hb, hq⟩ := fin p (tRow n s1) hp (ok_row (by omega) hv1 (by omega)) (.inl hih2) { nx := tmInv H k T0 g lh ma n h r ms s0 (i + 1), rt := Q } rfl rfl
      refine ⟨_, rfl, _, rfl, rfl, _, rfl, ?_⟩
      rw [hb]
      cases b with
      | true => exact iteT ⟨_, rfl, hq⟩
      | false => exact iteF hq
    · rw [decide_eq_false (fun z => hiL (by injection z with z; omega))]
      obtain ⟨b, hbi⟩ : ∃ b, hs[hs.length - 1 - i]? = some b := ⟨hs[hs.length - 1 - i], List.getElem?_eq_getElem (by omega)⟩
      obtain ⟨m, hmi⟩ : ∃ m, ms[ms.length - 1 - i]? = some m := ⟨ms[ms.length - 1 - i], List.getElem?_eq_getElem (by omega)⟩
      have hmm := List.mem_of_getElem? hmi
      have hab : atI (hs.map tv) (-1 - (i : Int)) = some (tv b) := atI_back (by rw [List.length_map]; omega) (by rw [List.length_map, List.getElem?_map, hbi]; rfl)
      have ham : atI (kVs ms) (-1 - (i : Int)) = some (kV m) := atI_back (by rw [List.length_map]; omega) (by rw [List.length_map, List.getElem?_map, hmi]; rfl)
      have hkm := ksum_mem hmm
      have hdm : klen m + ksum (ms.drop (ms.length - i)) ≤ ksum ms := by
        have a1 := ksum_append (ms.take (ms.length - 1 - i)) (ms.drop (ms.length - 1 - i))
        have a2 : ksum (ms.drop (ms.length - 1 - i)) = klen m + ksum (ms.drop (ms.length - i)) := by
          have : ms.length - 1 - i + 1 = ms.length - i := by omega
          rw [drop_cons hmi, ksum_cons, this]
        rw [List.take_append_drop] at a1
        omega
      have hok : OkT (jn b s1 m) := ok_jn hv1 (hvm m hmm) (by omega)
      refine iteF ⟨_, rfl, 1, rfl, _, rfl, _, _, rfl, rfl, lh, _, _, _, rfl, rfl, SqL.of (kp.lst hlh), hab, by cases b <;> rfl, _, rfl, ?_⟩
      rw [tv_eq1]
      have tailR : ∀ p, H' p = none → ∃ b2, decide (V.int (i : Int) = V.int (h : Int)) = b2 ∧ _ := fun p hp => fin p (jn b s1 m) hp hok (.inr ⟨m, hmi, by rw [len_jn]; exact Nat.le_refl _, by cases b <;> rfl⟩) { nx := tmInv H k T0 g lh ma n h r ms s0 (i + 1), rt := Q } rfl rfl
      cases b with
      | true =>
        refine iteT ⟨_, rfl, 1, rfl, _, rfl, _, _, rfl, rfl, ix_marks (hma.kp kp) ham ⟨_, rfl, z3, fun p hp => ?_⟩⟩
        obtain ⟨b2, hb2, hq⟩ := tailR p hp
        refine ⟨_, rfl, _, rfl, rfl, _, rfl, ?_⟩
        rw [hb2]
        cases b2 with
        | true => exact iteT ⟨_, rfl, hq⟩
        | false => exact iteF hq
      | false =>
        refine iteF ⟨_, rfl, _, rfl, 1, rfl, _, rfl, _, _, rfl, rfl, ix_marks (hma.kp kp) ham ⟨z3, fun p hp => ?_⟩⟩
        obtain ⟨b2, hb2, hq⟩ := tailR p hp
        refine ⟨_, rfl, _, rfl, rfl, _, rfl, ?_⟩
        rw [hb2]
        cases b2 with
        | true => exact iteT ⟨_, rfl, hq⟩
        | false => exact iteF hq
  · rintro σ H' ⟨hih, _⟩
    omega
/-! _law_place_term -/
def spPlT : Sp := fun vs H Q _ => ∃ (f pa pb : Addr) (n p h : Nat) (e : Key) (ms : List Key) (k : Kd) (T : TR) (r : Nat), vs = [.ref f, .int n, .int p, .ref pa, .int h] ∧ p < n ∧ n < 2 ^ 59 ∧ PapAt H pa pb e ms ∧ ms.length = (ways p n).length ∧ h ≤ ms.length + 1 ∧ Vk e ∧ klen e ≤ 1000 ∧ (∀ k ∈ ms, Vk k) ∧ ksum ms ≤ 5000000 ∧
  SA k f T (r + h) H ∧ ∀ (q : Addr) (t : Term) (T' : TR) (H' : Hp), SA k f T' r H' → LeT T T' → Kp H H' → H' q = some (.tup (kVs t)) → OkT t → Q (.ref q) H'
theorem scPlT : FnScope ["_law_stamper_here", "_law_count", "_law_place", "_law_paper_here", "_law_height", "_law_term_here"] ["_law_stamper_here", "_law_count", "_law_place", "_law_paper_here", "_law_height"] (defScope (top 54)) := ⟨rfl, rfl, rfl, by decide +kernel, rfl, by decide +kernel, by decide +kernel⟩
theorem ok_plT (T : Txt K mg) : Pr P w K mg base 7 "_law_place_term" ["_law_stamper_here", "_law_count", "_law_place", "_law_paper_here", "_law_height"] spPlT := by
  refine T.law_place_term_.ok scPlT (fun vs H Q E h => ?_) (fun f cdv A outer s H vs Q E hr hh => ?_)
  · obtain ⟨_, _, _, _, _, _, _, _, _, _, _, rfl, _⟩ := h; rfl
  obtain ⟨g, pa, pb, n, p, h, e, ms, k, T0, r, rfl, hp, hn, hpap, hml, hh, hve, hke, hvm, hks, sa, q⟩ := hh
  have hz := sizeLine_eq
  have z2 : 2 ≤ sizeLine := by omega
  have hwl := ways_len 60 (p := p) (n := n) (by omega)
  refine ⟨_, pss_cons (ps_set (i := 5) scPlT.nd rfl (Or.inl rfl) (pe_tup (pa_cons pe_str (pa_cons (pe_ix ix_tup (pv 3) pe_int (fun _ _ => rfl)) pa_nil))))
    (pss_cons (ps_if (pt_cmpR op_eq (pv 4) pe_int (nomark _)) (pss_one (ps_ret (pv 5))) pss_nil)
    (pss_one (ps_ret (pe_cl (ok_tm T) hr (pa_cons (pv 0) (pa_cons (pv 1) (pa_cons (pe_cl (ok_lway T) (hr.mono (by decide)) (pa_cons (pv 1) (pa_cons (pv 2) pa_nil))) (pa_cons (pe_ix ix_tup (pv 3) pe_int (fun _ _ => rfl)) (pa_cons (pe_st (i := 0) T hr (pv 5)) (pa_cons (pe_op op_sub (pv 4) pe_int) pa_nil)))))))))), ?_⟩
  refine ⟨_, rfl, pa, _, _, _, rfl, rfl, SqT.of hpap.p, at_of (j := 0) rfl rfl, z2, fun a ha => ?_⟩
  have kp1 : Kp H (upd H a (.tup (kVs (tEntry e)))) := (Kp.refl H).new ha _
  have oke : OkT (tEntry e) := ok_entry hve (by omega)
  refine ⟨_, rfl, rfl, _, rfl, ite2 (fun c => ?_) (fun c => ?_)⟩
  · exact ⟨_, rfl, q a (tEntry e) T0 _ ((sa.new ha _).le (by omega)) (fun _ _ h => h) kp1 upd_same oke⟩
  · have h0 : h ≠ 0 := fun e => c (by rw [e]; exact decide_eq_true rfl)
    refine ⟨_, rfl, _, rfl, _, rfl, _, rfl, p, n, rfl, hp, by omega, fun lw H1 sm hlw hL => ?_⟩
    have kp2 := kp1.trans (Kp.of sm)
    have sa1 : SA k g T0 (r + (h - 1) + 1) H1 := ((sa.new ha _).same sm).le (by omega)
    refine ⟨_, rfl, pa, _, _, _, rfl, rfl, SqT.of (kp2.tup hpap.p), at_of (j := 1) rfl rfl, g, rfl, ⟨k, T0, _, sa1⟩, _, rfl, a, tEntry e, k, T0, r + (h - 1), rfl, sm _ _ upd_same, oke, sa1, fun s' T1 H2 sa2 le2 hs2 kp3 => ?_⟩
    have hb := sa2.bd _ _ hs2
    rw [len_entry] at hb
    have l2 : (tEntry e).length = 2 := rfl
    have kp4 := kp2.trans kp3
    have e1 : (h : Int) - 1 = ((h - 1 : Nat) : Int) := by omega
    refine ⟨_, rfl, _, _, rfl, rfl, ?_⟩
    refine ⟨g, lw, pb, n, h - 1, ways p n, ms, s', k, T1, r, ?_, kp3.lst hL, .inr (kp4.tup hpap.m), hml, by omega, by omega, hn, sa2.vd _ _ hs2, by omega, hvm, by omega, sa2, fun p2 t T2 H3 sa3 le3 kp5 ht hok => q p2 t T2 H3 sa3 (fun _ _ h => le3 _ _ (le2 _ _ h)) (kp4.trans kp5) ht hok⟩
    show [V.ref g, V.int n, V.ref lw, V.ref pb, kV s', V.int ((h : Int) - 1)] = _
    rw [e1]
/-! _law_growth_term -/
def spGrT : Sp := fun vs H Q _ => ∃ (f ma : Addr) (n e h : Nat) (ms : List Key) (k : Kd) (T : TR) (r : Nat), vs = [.ref f, .int n, .int e, .ref ma, .int h] ∧ 1 ≤ e ∧ e ≤ n ∧ n < 2 ^ 59 ∧ H ma = some (.tup (kVs ms)) ∧ ms.length = howMany n e ∧ h < ms.length ∧ (∀ k ∈ ms, Vk k) ∧ ksum ms ≤ 5000000 ∧
  SA k f T (r + h) H ∧ ∀ (q : Addr) (t : Term) (T' : TR) (H' : Hp), SA k f T' r H' → LeT T T' → Kp H H' → H' q = some (.tup (kVs t)) → OkT t → Q (.ref q) H'
theorem scGrT : FnScope ["_law_stamper_here", "_law_count", "_law_elder", "_law_marks", "_law_height", "_law_hands_here", "_law_dealt_here"] ["_law_stamper_here", "_law_count", "_law_elder", "_law_marks", "_law_height"] (defScope (top 55)) := ⟨rfl, rfl, rfl, by decide +kernel, rfl, by decide +kernel, by decide +kernel⟩
theorem ok_grT (T : Txt K mg) : Pr P w K mg base 7 "_law_growth_term" ["_law_stamper_here", "_law_count", "_law_elder", "_law_marks", "_law_height"] spGrT := by
  refine T.law_growth_term_.ok scGrT (fun vs H Q E h => ?_) (fun f cdv A outer s H vs Q E hr hh => ?_)
  · obtain ⟨_, _, _, _, _, _, _, _, _, rfl, _⟩ := h; rfl
  obtain ⟨g, ma, n, e, h, ms, k, T0, r, rfl, h1, hle, hn, hma, hml, hh, hvm, hks, sa, q⟩ := hh
  have hlen := howMany_le 60 (n := n) (e := e) (by omega)
  refine ⟨_, pss_cons (ps_set (i := 5) scGrT.nd rfl (Or.inl rfl) (pe_cl (ok_hands T) (hr.mono (by decide)) (pa_cons (pv 1) (pa_cons (pv 2) pa_nil))))
    (pss_cons (ps_set (i := 6) scGrT.nd rfl (Or.inl rfl) (pe_cl (ok_dealt T) (hr.mono (by decide)) (pa_cons (pv 5) (pa_cons (pv 3) pa_nil))))
    (pss_one (ps_ret (pe_cl (ok_tm T) hr (pa_cons (pv 0) (pa_cons (pv 1) (pa_cons (pv 5) (pa_cons (pe_slice sl_list (pv 6) po_none (po_some (pe_un un_neg pe_int))) (pa_cons (pe_ix ix_list (pv 6) (pe_un un_neg pe_int) (fun _ _ => rfl)) (pa_cons (pv 4) pa_nil)))))))))), ?_⟩
  refine ⟨_, rfl, _, rfl, n, e, rfl, h1, hle, by omega, fun lh hs H1 sm1 hlh hhs => ?_⟩
  refine ⟨_, rfl, _, rfl, lh, ma, hs, ms, rfl, hlh, sm1 _ _ hma, by omega, by omega, fun ld ds H2 sm2 hld hdl hdm hdk => ?_⟩
  have sm : Same H H2 := fun b o h => sm2 _ _ (sm1 _ _ h)
  obtain ⟨ds1, d, rfl⟩ : ∃ ds1 d, ds = ds1 ++ [d] := by
    rcases List.eq_nil_or_concat ds with z | ⟨l, b, z⟩
    · rw [z] at hdl; simp at hdl; omega
    · exact ⟨l, b, by rw [z, List.concat_eq_append]⟩
  have hl1 : ds1.length + 1 = ms.length := by rw [List.length_append] at hdl; exact hdl
  have ecut : cutV (kVs (ds1 ++ [d])) none (some (-1)) = kVs ds1 := by
    rw [cut_head, List.length_map, List.length_append, ← List.map_take]
    congr 1
    exact List.take_left' (by show ds1.length = ds1.length + 1 - 1; omega)
  have hd := hdm d (by simp)
  rw [ksum_append, ksum_cons, ksum_nil] at hdk
  refine ⟨_, rfl, _, rfl, _, rfl, _, rfl, 1, rfl, -1, rfl, ld, _, rfl, SqL.of hld, fun lc hlc => ?_⟩
  rw [ecut]
  have smc : Same H2 (upd H2 lc (.lst (kVs ds1))) := same_new hlc _
  refine ⟨_, rfl, 1, rfl, ld, _, _, _, rfl, rfl, SqL.of (smc _ _ hld), atI_last (v := kV d) (by rw [List.getLast?_map, getLast_snoc]; rfl), _, rfl, ?_⟩
  refine ⟨g, lh, lc, n, h, hs, ds1, d, k, T0, r, rfl, smc _ _ (sm2 _ _ hlh), .inl upd_same, by omega, by omega, by omega, hn, hvm d hd, by omega, fun x hx => hvm x (hdm x (by simp [hx])), by omega, (sa.same sm).new hlc _, fun p2 t T2 H3 sa3 le3 kp5 ht hok => q p2 t T2 H3 sa3 le3 (((Kp.of sm).trans (Kp.of smc)).trans kp5) ht hok⟩
end
end Rs
set_option Elab.async false
set_option linter.all false
set_option maxRecDepth 100000
set_option maxHeartbeats 4000000
/-! Rootstamp, the law's changed papers: _law_near, _law_turned, _law_changed. -/
namespace Rs
open PySem PySem.Spec PyProof.Rows L2
theorem foldl_mem (c : Nat) : ∀ (n : Nat) (acc : Array Nat), (∀ x ∈ acc.toList, x = c) → ∀ x ∈ ((List.replicate n #[c]).foldl (· ++ ·) acc).toList, x = c
  | 0, acc, h => h
  | n + 1, acc, h => by
    rw [List.replicate_succ, List.foldl_cons]
    refine foldl_mem c n _ fun x hx => ?_
    rw [Array.toList_append] at hx
    rcases List.mem_append.mp hx with hx | hx
    · exact h x hx
    · simpa using hx
theorem mul_ok {c : Nat} (hc : c < 0x110000) (n : Nat) : PySem.PyData.strOk (Txt.mul ⟨#[c]⟩ (n : Int)) = true := by
  refine strOk_of fun x hx => ?_
  have key : ∀ x ∈ TL.tl (Txt.mul ⟨#[c]⟩ (n : Int)), x = c := by
    unfold Txt.mul
    by_cases h0 : n = 0
    · subst h0
      intro x hx
      exact absurd hx (by show ¬ x ∈ ([] : List Nat); simp)
    · rw [if_neg (by omega)]
      by_cases h1 : n = 1
      · subst h1
        intro x hx
        simpa using hx
      · rw [if_neg (by
          have e1 : ((n : Int) == 1) = false := beq_eq_false_iff_ne.mpr (by omega)
          rw [e1]; exact Bool.false_ne_true)]
        exact foldl_mem c _ #[] fun x hx => by simp at hx
  rw [key x hx]
  exact hc
def cutK (ms : List Key) (lo hi : Option Int) : List Key := (ms.drop (HT.sIx ms.length 0 lo)).take (HT.sIx ms.length ms.length hi - HT.sIx ms.length 0 lo)
theorem cutK_V (ms : List Key) (lo hi : Option Int) : cutV (kVs ms) lo hi = kVs (cutK ms lo hi) := by
  unfold cutV cutK
  rw [List.length_map, ← List.map_drop, ← List.map_take]
theorem cutK_to (ms : List Key) (k : Nat) : cutK ms none (some (k : Int)) = ms.take k := by
  unfold cutK
  show (ms.drop 0).take (HT.sIx ms.length ms.length (some (k : Int)) - 0) = _
  rw [HT.sIx_nat, List.drop_zero, Nat.sub_zero]
  by_cases h : k ≤ ms.length
  · rw [Nat.min_eq_left h]
  · rw [Nat.min_eq_right (by omega), List.take_of_length_le (Nat.le_refl _), List.take_of_length_le (by omega)]
theorem cutK_from (ms : List Key) (k : Nat) : cutK ms (some (k : Int)) none = ms.drop k := by
  unfold cutK
  rw [HT.sIx_nat]
  show (ms.drop (min k ms.length)).take (ms.length - min k ms.length) = _
  rw [List.take_of_length_le (by rw [List.length_drop]; exact Nat.le_refl _)]
  by_cases h : k ≤ ms.length
  · rw [Nat.min_eq_left h]
  · rw [Nat.min_eq_right (by omega), List.drop_of_length_le (by omega), List.drop_of_length_le (by omega)]
section
variable {P : Program} {w : World} {K : PySem.W.Frag} {mg : Str → Option Value} {base : Heap}
theorem sla_ok {a : Addr} {ms : List Key} {lo hi : Option Int} {H : Hp} {Q : VK} (ha : H a = some (.tup (kVs ms))) (q : ∀ (p : Addr) (H' : Hp), Same H H' → H' p = some (.tup (kVs (cutK ms lo hi))) → Q (.ref p) H') : rSlA K (.ref a) lo hi H Q := by
  refine ⟨a, _, rfl, SqT.of ha, fun ⟨z1, z2⟩ => q a H (fun _ _ h => h) ?_, fun _ p hp => q p _ (same_new hp _) ?_⟩
  · rw [ha, ← cutK_V]
    unfold cutV
    rw [z1, z2, List.drop_zero, Nat.sub_zero, List.take_length]
  · rw [upd_same, cutK_V]
theorem cata_ok {a b : Addr} {xs ys : List Key} {H : Hp} {Q : VK} (ha : H a = some (.tup (kVs xs))) (hb : H b = some (.tup (kVs ys))) (hl : xs.length + ys.length ≤ 1000000) (q : ∀ (p : Addr) (H' : Hp), Same H H' → H' p = some (.tup (kVs (xs ++ ys))) → Q (.ref p) H') : rCatA K (.ref a) (.ref b) H Q := by
  have hz := sizeLine_eq
  refine ⟨a, b, _, _, rfl, rfl, SqT.of ha, SqT.of hb, by rw [List.length_map, List.length_map]; omega, fun e => q b H (fun _ _ h => h) ?_, fun _ e => q a H (fun _ _ h => h) ?_, fun _ _ p hp => q p _ (same_new hp _) ?_⟩
  · rw [List.map_eq_nil_iff.mp e, List.nil_append]; exact hb
  · rw [List.map_eq_nil_iff.mp e, List.append_nil]; exact ha
  · rw [upd_same]; exact congrArg some (congrArg HO.tup List.map_append.symm)
/-! _law_near -/
def spNear : Sp := fun vs H Q _ => ∃ m : Key, vs = [kV m] ∧ Vk m ∧ klen m ≤ 16000000 ∧ ∀ (m' : Key) (H' : Hp), Same H H' → Vk m' → klen m' ≤ klen m → Q (kV m') H'
theorem scNear : FnScope ["_law_mark"] ["_law_mark"] (defScope (top 56)) := ⟨rfl, rfl, rfl, by decide +kernel, rfl, by decide +kernel, by decide +kernel⟩
theorem ok_near (T : Txt K mg) : Pr P w K mg base 1 "_law_near" ["_law_mark"] spNear := by
  refine T.law_near_.ok scNear (fun vs H Q E h => ?_) (fun f cdv A outer s H vs Q E hr hh => ?_)
  · obtain ⟨_, rfl, _⟩ := h; rfl
  obtain ⟨m, rfl, hv, hk, q⟩ := hh
  have hz := sizeLine_eq
  refine ⟨_, pss_cons (ps_if (pt_val (pe_isi T.b_isinstance T.b_str (pv 0) (Ts := "str") (by decide +kernel)))
      (pss_one (ps_ret (pe_op op_repS (pe_ix ix_list (pe_lst (pa_cons pe_str (pa_cons pe_str pa_nil))) (pe_callTy call_int1 (by rfl) T.b_int (by decide +kernel) (pa_cons (pe_cmpR op_eq (pe_slice sl_str (pv 0) po_none (po_some pe_int)) pe_str (nomark _)) pa_nil)) (fun _ _ => rfl)) (pe_callB call_len_str (by rfl) T.b_len PySem.boot_len (pa_cons (pv 0) pa_nil))))) pss_nil)
    (pss_one (ps_ret (pe_op op_mod (pe_op op_add (pv 0) pe_int) (pe_op op_pow pe_int pe_int)))), ?_⟩
  cases m with
  | inr x =>
    have hx : x.length ≤ 16000000 := hk
    refine ⟨_, rfl, isi_of "str" "str" true (.base (.str x)) (by decide +kernel) ⟨_, rfl, iteT ?_⟩⟩
    refine ⟨(by show 2 ≤ _; omega), fun p hp => ?_⟩
    have sm := same_new hp (.lst [.str "z", .str "y"])
    refine ⟨_, rfl, 1, rfl, x, rfl, by omega, rfl, .inr ⟨decide (V.str (cutS x none (some 1)) = V.str "z"), rfl, ?_⟩⟩
    have fin : ∀ (c : Nat), c < 0x110000 → Q (.str (Txt.mul ⟨#[c]⟩ ((x.length : Nat) : Int))) (upd H p (.lst [.str "z", .str "y"])) := fun c hc => q (.inr (Txt.mul ⟨#[c]⟩ ((x.length : Nat) : Int))) _ sm (mul_ok hc _) (by show (Txt.mul ⟨#[c]⟩ ((x.length : Nat) : Int)).length ≤ x.length; rw [mul_len]; exact Nat.le_refl _)
    generalize decide (V.str (cutS x none (some 1)) = V.str "z") = b
    cases b with
    | true => exact ⟨p, _, _, _, rfl, rfl, SqL.of upd_same, at_of (j := 1) rfl rfl, _, rfl, x, rfl, by omega, 121, x.length, rfl, rfl, hx, fin 121 (by decide)⟩
    | false => exact ⟨p, _, _, _, rfl, rfl, SqL.of upd_same, at_of (j := 0) rfl rfl, _, rfl, x, rfl, by omega, 122, x.length, rfl, rfl, hx, fin 122 (by decide)⟩
  | inl i =>
    refine ⟨_, rfl, isi_of "int" "str" false (.base (.int i)) (by decide +kernel) ⟨_, rfl, iteF ?_⟩⟩
    refine ⟨_, rfl, _, _, rfl, rfl, _, _, rfl, rfl, ⟨by decide, by decide, by decide⟩, _, _, rfl, rfl, (by show (0 : Int) < 10 ^ 60; decide), ?_⟩
    exact q (.inl ((i + 2520) % 10 ^ 60)) H (fun _ _ h => h) ⟨Int.emod_nonneg _ (by decide), Int.emod_lt_of_pos _ (by decide)⟩ (Nat.le_refl 61)
/-! _law_turned -/
structure Like (ms ms' : List Key) : Prop where
  len : ms'.length = ms.length
  vk : ∀ k ∈ ms', Vk k
  le : ksum ms' ≤ 2 * ksum ms + 61
theorem take_drop_ksum (ms : List Key) (k : Nat) : ksum (ms.take k) + ksum (ms.drop k) = ksum ms := by
  rw [← ksum_append, List.take_append_drop]
theorem like_put {ms : List Key} {j : Nat} {x : Key} (hj : j < ms.length) (hv : ∀ k ∈ ms, Vk k) (hx : Vk x) (hk : klen x ≤ ksum ms + 61) : Like ms (ms.take j ++ [x] ++ ms.drop (j + 1)) := by
  refine ⟨?_, fun k hkm => ?_, ?_⟩
  · rw [List.length_append, List.length_append, List.length_take, List.length_drop]
    show min j ms.length + 1 + _ = _
    omega
  · rcases List.mem_append.mp hkm with h | h
    · rcases List.mem_append.mp h with h | h
      · exact hv k (List.mem_of_mem_take h)
      · rw [List.mem_singleton.mp h]; exact hx
    · exact hv k (List.mem_of_mem_drop h)
  · rw [ksum_append, ksum_append, ksum_cons, ksum_nil]
    have a := take_drop_ksum ms j
    have b := drop_cons (List.getElem?_eq_getElem hj)
    have c : ksum (ms.drop j) = klen ms[j] + ksum (ms.drop (j + 1)) := by rw [b, ksum_cons]
    omega
def spTurn : Sp := fun vs H Q _ => ∃ (kd c : Int) (ma : Addr) (ms : List Key), vs = [.int kd, .int c, .ref ma] ∧ H ma = some (.tup (kVs ms)) ∧ ms.length ≤ 1000 ∧ (∀ k ∈ ms, Vk k) ∧ ksum ms ≤ 2000000 ∧
  ∀ (p : Addr) (ms' : List Key) (H' : Hp), Same H H' → H' p = some (.tup (kVs ms')) → Like ms ms' → Q (.ref p) H'
theorem scTurn : FnScope ["_law_kind", "_law_cell", "_law_marks", "_law_spot", "_law_thing"] ["_law_kind", "_law_cell", "_law_marks"] (defScope (top 57)) := ⟨rfl, rfl, rfl, by decide +kernel, rfl, by decide +kernel, by decide +kernel⟩
/-- marks[:spot] + (thing,) + marks[spot + 1:] -/
abbrev tPut (K : PySem.W.Frag) : TE := tOp (rCatA K) (tOp (rCatA K) (tSl (rSlA K) (tVar 2) tNoPart (tPart (tVar 3))) (tTup (tCons (tVar 4) tNil))) (tSl (rSlA K) (tVar 2) (tPart (tOp (rI0 fun i j => .int (i + j)) (tVar 3) (tC (.int 1)))) tNoPart)
theorem put_ok {σ : L2.St} {H : Hp} {Q : VK} {ma : Addr} {ms : List Key} {j : Nat} {x : Key} (h2 : σ[2]? = some (some (.ref ma))) (h3 : σ[3]? = some (some (.int (j : Int)))) (h4 : σ[4]? = some (some (kV x))) (hma : H ma = some (.tup (kVs ms))) (hj : j < ms.length) (hl : ms.length ≤ 1000) (hv : ∀ k ∈ ms, Vk k) (hx : Vk x) (hk : klen x ≤ ksum ms + 61)
    (q : ∀ (p : Addr) (ms' : List Key) (H' : Hp), Same H H' → H' p = some (.tup (kVs ms')) → Like ms ms' → Q (.ref p) H') : tPut K σ H Q := by
  have hz := sizeLine_eq
  refine ⟨_, h2, _, h3, _, rfl, sla_ok hma fun p1 H1 s1 h1 => ?_⟩
  rw [cutK_to] at h1
  refine ⟨_, h4, (by show 1 ≤ _; omega), fun p2 n2 => ?_⟩
  have s2 : Same H1 (upd H1 p2 (.tup (kVs [x]))) := same_new n2 _
  refine cata_ok (s2 _ _ h1) (ys := [x]) upd_same (by rw [List.length_take]; show _ + 1 ≤ _; omega) fun p3 H3 s3 h3' => ?_
  have sA : Same H H3 := fun b o h => s3 _ _ (s2 _ _ (s1 _ _ h))
  refine ⟨_, h2, _, h3, _, _, rfl, rfl, _, rfl, ?_⟩
  dsimp only [tNoPart]
  refine sla_ok (sA _ _ hma) fun p4 H4 s4 h4' => ?_
  have e1 : (some ((j : Int) + 1) : Option Int) = some ((j + 1 : Nat) : Int) := by rw [Int.natCast_add]; rfl
  have h4' : H4 p4 = some (.tup (kVs (cutK ms (some ((j : Int) + 1)) none))) := h4'
  rw [e1, cutK_from] at h4'
  refine cata_ok (s4 _ _ h3') h4' (by rw [List.length_append, List.length_take, List.length_drop]; show _ + 1 + _ ≤ _; omega) fun p5 H5 s5 h5 => ?_
  exact q p5 _ H5 (fun b o h => s5 _ _ (s4 _ _ (sA _ _ h))) h5 (like_put hj hv hx hk)
theorem ok_turn (T : Txt K mg) : Pr P w K mg base 3 "_law_turned" ["_law_kind", "_law_cell", "_law_marks"] spTurn := by
  refine T.law_turned_.ok scTurn (fun vs H Q E h => ?_) (fun f cdv A outer s H vs Q E hr hh => ?_)
  · obtain ⟨_, _, _, _, rfl, _⟩ := h; rfl
  obtain ⟨kd, c, ma, ms, rfl, hma, hl, hv, hks, q⟩ := hh
  have hz := sizeLine_eq
  refine ⟨_, pss_cons (ps_if (pt_cmpR op_eq (pe_callB call_len_seq (by rfl) T.b_len PySem.boot_len (pa_cons (pv 2) pa_nil)) pe_int (nomark _)) (pss_one (ps_ret (pv 2))) pss_nil)
    (pss_cons (ps_set (i := 3) scTurn.nd rfl (Or.inl rfl) (pe_op op_mod (pv 1) (pe_callB call_len_seq (by rfl) T.b_len PySem.boot_len (pa_cons (pv 2) pa_nil))))
    (pss_cons (ps_set (i := 4) scTurn.nd rfl (Or.inl rfl) (pe_cl (ok_near T) (hr.mono (by decide)) (pa_cons (pe_ix ix_tup (pv 2) (pv 3) (fun _ _ => rfl)) pa_nil)))
    (pss_cons (ps_if (pt_cmpR op_eq (pv 0) pe_int (nomark _)) (pss_one (ps_ret (pe_op op_catA (pe_slice sl_tupA (pv 2) (po_some pe_int) po_none) (pe_slice sl_tupA (pv 2) po_none (po_some pe_int))))) pss_nil)
    (pss_cons (ps_if (pt_cmpR op_eq (pv 0) pe_int (nomark _)) (pss_one (ps_set (i := 4) scTurn.nd rfl (Or.inl rfl) (pe_cl (ok_sby T) hr (pa_cons (pe_op op_fdiv (pv 1) pe_int) pa_nil)))) pss_nil)
    (pss_cons (ps_if (pt_cmpR op_eq (pv 0) pe_int (nomark _)) (pss_cons (ps_set (i := 3) scTurn.nd rfl (Or.inl rfl) (pe_op op_sub (pe_callB call_len_seq (by rfl) T.b_len PySem.boot_len (pa_cons (pv 2) pa_nil)) pe_int)) (pss_one (ps_set (i := 4) scTurn.nd rfl (Or.inl rfl) (pe_cl (ok_sby T) hr (pa_cons (pe_op op_fdiv (pv 1) pe_int) pa_nil))))) pss_nil)
    (pss_one (ps_ret (pe_op op_catA (pe_op op_catA (pe_slice sl_tupA (pv 2) po_none (po_some (pv 3))) (pe_tup (pa_cons (pv 4) pa_nil))) (pe_slice sl_tupA (pv 2) (po_some (pe_op op_add (pv 3) pe_int)) po_none))))))))), ?_⟩
  have el : (((kVs ms).length : Nat) : Int) = ((ms.length : Nat) : Int) := by rw [List.length_map]
  refine ⟨_, rfl, ma, _, rfl, .inr (SqT.of hma), rfl, _, rfl, ite2 (fun c1 => ?_) (fun c1 => ?_)⟩
  · exact ⟨_, rfl, q ma ms H (fun _ _ h => h) hma ⟨rfl, hv, by omega⟩⟩
  have hpos : 0 < ms.length := by
    refine Nat.pos_of_ne_zero fun e => c1 ?_
    rw [el, e]; exact decide_eq_true rfl
  have hm0 := Int.emod_nonneg c (b := (ms.length : Int)) (by omega)
  have hm1 := Int.emod_lt_of_pos c (b := (ms.length : Int)) (by omega)
  obtain ⟨j, hj⟩ : ∃ j : Nat, c % (ms.length : Int) = (j : Int) := ⟨(c % (ms.length : Int)).toNat, by omega⟩
  have hjl : j < ms.length := by omega
  have hmj : ms[j] ∈ ms := List.getElem_mem hjl
  refine ⟨_, rfl, _, rfl, ma, _, rfl, .inr (SqT.of hma), _, _, rfl, rfl, by rw [el]; omega, ?_⟩
  dsimp only
  rw [el, hj]
  refine ⟨_, rfl, _, rfl, ma, _, _, kV ms[j], rfl, rfl, SqT.of hma, at_of (j := j) rfl (by rw [List.getElem?_map, List.getElem?_eq_getElem hjl]; rfl), ms[j], rfl, hv _ hmj, Nat.le_trans (ksum_mem hmj) (by omega), fun m' H1 s1 hv' hk' => ?_⟩
  have hkm := ksum_mem hmj
  have hma1 := s1 _ _ hma
  refine ⟨_, rfl, rfl, _, rfl, ite2 (fun c2 => ?_) (fun c2 => ?_)⟩
  · refine ⟨_, rfl, 1, rfl, ?_⟩
    dsimp only [tNoPart]
    refine sla_ok hma1 fun p1 H2 s2 h2 => ?_
    have h2 : H2 p1 = some (.tup (kVs (cutK ms (some ((1 : Nat) : Int)) none))) := h2
    rw [cutK_from] at h2
    refine ⟨_, rfl, 1, rfl, sla_ok (s2 _ _ hma1) fun p2 H3 s3 h3 => ?_⟩
    have h3 : H3 p2 = some (.tup (kVs (cutK ms none (some ((1 : Nat) : Int))))) := h3
    rw [cutK_to] at h3
    refine cata_ok (s3 _ _ h2) h3 (by rw [List.length_drop, List.length_take]; omega) fun p3 H4 s4 h4 => ?_
    refine q p3 _ H4 (fun b o h => s4 _ _ (s3 _ _ (s2 _ _ (s1 _ _ h)))) h4 ⟨by rw [List.length_append, List.length_drop, List.length_take]; omega, fun k hk => (List.mem_append.mp hk).elim (fun z => hv k (List.mem_of_mem_drop z)) fun z => hv k (List.mem_of_mem_take z), by rw [ksum_append]; have := take_drop_ksum ms 1; omega⟩
  -- the last statements, at a place and a thing
  have last : ∀ (j' : Nat) (x : Key) (H2 : Hp), j' < ms.length → Same H H2 → Vk x → klen x ≤ ksum ms + 61 → tPut K [some (.int kd), some (.int c), some (.ref ma), some (.int (j' : Int)), some (kV x)] H2 Q := fun j' x H2 hj' s2 hx hkx =>
    put_ok rfl rfl rfl (s2 _ _ hma) hj' hl hv hx hkx fun p ms' H' s3 h3 lk => q p ms' H' (fun b o h => s3 _ _ (s2 _ _ h)) h3 lk
  refine ⟨_, rfl, rfl, _, rfl, ite2 (fun c3 => ?_) (fun c3 => ?_)⟩
  · have hk1 : kd = 1 := by have := of_decide_eq_true c3; injection this
    refine ⟨_, rfl, _, _, rfl, rfl, ⟨by decide, by decide⟩, _, rfl, fun H2 s2 => ?_⟩
    refine ⟨_, rfl, rfl, _, rfl, ite2 (fun c4 => ?_) (fun c4 => ?_)⟩
    · have : kd = 2 := by have := of_decide_eq_true c4; injection this
      omega
    · exact last j (stampBy (c / 60)) H2 hjl (fun b o h => s2 _ _ (s1 _ _ h)) (stampBy_vk _) (Nat.le_trans (stampBy_len _) (by omega))
  · refine ⟨_, rfl, rfl, _, rfl, ite2 (fun c4 => ?_) (fun c4 => ?_)⟩
    · refine ⟨_, rfl, ma, _, rfl, .inr (SqT.of hma1), _, _, rfl, rfl, _, rfl, _, _, rfl, rfl, ⟨by decide, by decide⟩, _, rfl, fun H2 s2 => ?_⟩
      have e1 : (((kVs ms).length : Nat) : Int) - 1 = ((ms.length - 1 : Nat) : Int) := by rw [el]; omega
      have := last (ms.length - 1) (stampBy (c / 60)) H2 (by omega) (fun b o h => s2 _ _ (s1 _ _ h)) (stampBy_vk _) (Nat.le_trans (stampBy_len _) (by omega))
      rw [← e1] at this
      exact this
    · exact last j m' H1 hjl s1 hv' (by omega)
end
end Rs
set_option Elab.async false
set_option linter.all false
set_option maxRecDepth 100000
set_option maxHeartbeats 4000000
/-! Rootstamp, _law_changed, _law_is_clash, _law_told. -/
namespace Rs
open PySem PySem.Spec PyProof.Rows L2
theorem ru65 {k : Nat} {A : Around} (hr : Room k A) : A.units + 65 < cLine := by
  have := hr.un
  omega
theorem tsDp {K : PySem.W.Frag} {H : Hp} {bs : List Addr} {ts : List Term} (h : TsAt H bs ts) : DpAll K H (bs.map V.ref) (ts.map tD) := by
  have key : ∀ (bs : List Addr) (ts : List Term), TsAt H bs ts → DpAll K H (bs.map V.ref) (ts.map tD) := by
    intro bs
    induction bs with
    | nil =>
      intro ts h
      have : ts = [] := List.eq_nil_of_length_eq_zero h.len.symm
      subst this
      exact .nil
    | cons b bs ih =>
      intro ts h
      cases ts with
      | nil => exact absurd h.len (by simp)
      | cons t ts =>
        obtain ⟨t', e1, e2⟩ := h.at_ 0 b rfl
        cases e1
        refine .cons (dp_t e2) (ih ts ⟨Nat.succ.inj h.len, fun i c e => ?_⟩)
        exact h.at_ (i + 1) c e
  exact key bs ts h
theorem tsLay : ∀ {ts : List Term}, (∀ t ∈ ts, OkT t) → PyData.canLayAll0 (ts.map tD) = true
  | [], _ => rfl
  | t :: ts, h => by
    show (PyData.canLay0 (tD t) && PyData.canLayAll0 (ts.map tD)) = true
    rw [tsLay fun x hx => h x (List.mem_cons_of_mem _ hx), show PyData.canLay0 (tD t) = true from kDs_lay (h t (List.mem_cons_self ..)).vk]; rfl
theorem tsDepth : ∀ ts : List Term, PyData.depthAll (ts.map tD) ≤ 1
  | [] => Nat.zero_le _
  | t :: ts => by
    show max (PyData.depth (tD t)) (PyData.depthAll (ts.map tD)) ≤ 1
    rw [tD_depth]
    have := tsDepth ts
    omega
theorem tsShaped {ts : List Term} (h : ∀ t ∈ ts, OkT t) : SeqAt.shaped (.list (ts.map tD)) = true := by
  show (PyData.canLayAll0 (ts.map tD) && decide (PyData.depthAll (ts.map tD) + 1 ≤ 64)) = true
  rw [tsLay h, decide_eq_true (by have := tsDepth ts; omega)]; rfl
theorem tsAny {ts : List Term} {t : Term} (h : t ∈ ts) : ((ts.map tD).any fun z => PyData.eqv z (tD t)) = true := by
  rw [List.any_eq_true]
  exact ⟨tD t, List.mem_map.mpr ⟨t, h, rfl⟩, by rw [tD_eqv, decide_eq_true rfl]⟩
section
variable {P : Program} {w : World} {K : PySem.W.Frag} {mg : Str → Option Value} {base : Heap}
def spChg : Sp := fun vs H Q _ => ∃ (kd c : Int) (pa pb : Addr) (e : Key) (ms : List Key), vs = [.int kd, .int c, .ref pa] ∧ PapAt H pa pb e ms ∧ ms.length ≤ 1000 ∧ Vk e ∧ klen e ≤ 61 ∧ (∀ k ∈ ms, Vk k) ∧ ksum ms ≤ 2000000 ∧
  ∀ (p q : Addr) (e' : Key) (ms' : List Key) (H' : Hp), Same H H' → PapAt H' p q e' ms' → Vk e' → klen e' ≤ 61 → Like ms ms' → Q (.ref p) H'
theorem scChg : FnScope ["_law_kind", "_law_cell", "_law_paper_here"] ["_law_kind", "_law_cell", "_law_paper_here"] (defScope (top 58)) := ⟨rfl, rfl, rfl, by decide +kernel, rfl, by decide +kernel, by decide +kernel⟩
theorem ok_chg (T : Txt K mg) : Pr P w K mg base 4 "_law_changed" ["_law_kind", "_law_cell", "_law_paper_here"] spChg := by
  refine T.law_changed_.ok scChg (fun vs H Q E h => ?_) (fun f cdv A outer s H vs Q E hr hh => ?_)
  · obtain ⟨_, _, _, _, _, _, rfl, _⟩ := h; rfl
  obtain ⟨kd, c, pa, pb, e, ms, rfl, hpap, hl, hve, hke, hv, hks, q⟩ := hh
  have hz := sizeLine_eq
  have z2 : 2 ≤ sizeLine := by omega
  refine ⟨_, pss_cons (ps_if (pt_cmpR op_lt (pv 0) pe_int (nomark _)) (pss_one (ps_ret (pe_tup (pa_cons (pe_cl (ok_near T) (hr.mono (by decide)) (pa_cons (pe_ix ix_tup (pv 2) pe_int (fun _ _ => rfl)) pa_nil)) (pa_cons (pe_ix ix_tup (pv 2) pe_int (fun _ _ => rfl)) pa_nil))))) pss_nil)
    (pss_cons (ps_if (pt_cmpR op_eq (pv 0) pe_int (nomark _)) (pss_one (ps_ret (pe_tup (pa_cons (pe_cl (ok_sby T) (hr.mono (by decide)) (pa_cons (pv 1) pa_nil)) (pa_cons (pe_ix ix_tup (pv 2) pe_int (fun _ _ => rfl)) pa_nil))))) pss_nil)
    (pss_cons (ps_if (pt_cmpR op_eq (pv 0) pe_int (nomark _)) (pss_one (ps_ret (pe_tup (pa_cons (pe_cl (ok_near T) (hr.mono (by decide)) (pa_cons (pe_ix ix_tup (pv 2) pe_int (fun _ _ => rfl)) pa_nil))
        (pa_cons (pe_cl (ok_turn T) hr (pa_cons (pe_op op_mod (pv 1) pe_int) (pa_cons (pe_op op_fdiv (pv 1) pe_int) (pa_cons (pe_ix ix_tup (pv 2) pe_int (fun _ _ => rfl)) pa_nil)))) pa_nil))))) pss_nil)
    (pss_one (ps_ret (pe_tup (pa_cons (pe_ix ix_tup (pv 2) pe_int (fun _ _ => rfl)) (pa_cons (pe_cl (ok_turn T) hr (pa_cons (pe_op op_mod (pv 1) pe_int) (pa_cons (pe_op op_fdiv (pv 1) pe_int) (pa_cons (pe_ix ix_tup (pv 2) pe_int (fun _ _ => rfl)) pa_nil)))) pa_nil))))))), ?_⟩
  have same2 : Like ms ms := ⟨rfl, hv, by omega⟩
  have end2 : ∀ (H1 : Hp) (b : Addr) (e' : Key) (ms' : List Key), Same H H1 → H1 b = some (.tup (kVs ms')) → Vk e' → klen e' ≤ 61 → Like ms ms' → ([kV e', V.ref b].length ≤ sizeLine ∧ ∀ p, H1 p = none → Q (.ref p) (upd H1 p (.tup [kV e', .ref b]))) := fun H1 b e' ms' s1 hb h1 h2 h3 =>
    ⟨z2, fun p hp => q p b e' ms' _ (fun x o h => same_new hp _ _ _ (s1 _ _ h)) ⟨upd_same, same_new hp _ _ _ hb⟩ h1 h2 h3⟩
  refine ⟨_, rfl, _, _, rfl, rfl, _, rfl, ite2 (fun c1 => ?_) (fun c1 => ?_)⟩
  · refine ⟨_, rfl, pa, _, _, _, rfl, rfl, SqT.of hpap.p, at_of (j := 0) rfl rfl, e, rfl, hve, by omega, fun e' H1 s1 h1 h2 => ?_⟩
    exact ⟨_, rfl, pa, _, _, _, rfl, rfl, SqT.of (s1 _ _ hpap.p), at_of (j := 1) rfl rfl, end2 H1 pb e' ms s1 (s1 _ _ hpap.m) h1 (by omega) same2⟩
  refine ⟨_, rfl, rfl, _, rfl, ite2 (fun c2 => ?_) (fun c2 => ?_)⟩
  · refine ⟨_, rfl, c, rfl, fun H1 s1 => ?_⟩
    exact ⟨_, rfl, pa, _, _, _, rfl, rfl, SqT.of (s1 _ _ hpap.p), at_of (j := 1) rfl rfl, end2 H1 pb _ ms s1 (s1 _ _ hpap.m) (stampBy_vk _) (stampBy_len _) same2⟩
  refine ⟨_, rfl, rfl, _, rfl, ite2 (fun c3 => ?_) (fun c3 => ?_)⟩
  · refine ⟨_, rfl, pa, _, _, _, rfl, rfl, SqT.of hpap.p, at_of (j := 0) rfl rfl, e, rfl, hve, by omega, fun e' H1 s1 h1 h2 => ?_⟩
    refine ⟨_, rfl, _, _, rfl, rfl, (by show (0 : Int) < 4; decide), _, rfl, _, _, rfl, rfl, ⟨by decide, by decide⟩, _, rfl, pa, _, _, _, rfl, rfl, SqT.of (s1 _ _ hpap.p), at_of (j := 1) rfl rfl, _, _, pb, ms, rfl, s1 _ _ hpap.m, hl, hv, hks, fun b ms' H2 s2 hb lk => ?_⟩
    exact end2 H2 b e' ms' (fun x o h => s2 _ _ (s1 _ _ h)) hb h1 (by omega) lk
  · refine ⟨_, rfl, pa, _, _, _, rfl, rfl, SqT.of hpap.p, at_of (j := 0) rfl rfl, ?_⟩
    refine ⟨_, rfl, _, _, rfl, rfl, (by show (0 : Int) < 4; decide), _, rfl, _, _, rfl, rfl, ⟨by decide, by decide⟩, _, rfl, pa, _, _, _, rfl, rfl, SqT.of hpap.p, at_of (j := 1) rfl rfl, _, _, pb, ms, rfl, hpap.m, hl, hv, hks, fun b ms' H2 s2 hb lk => ?_⟩
    exact end2 H2 b e ms' s2 hb hve hke lk
/-! _law_is_clash -/
def spIsC : Sp := fun vs H Q _ => ∃ (f l p x y : Addr) (bs : List Addr) (ts : List Term) (tx ty : Term) (s : Key) (k : Kd) (T : TR) (r : Nat), vs = [.ref f, .ref l, .ref p] ∧ H l = some (.lst (bs.map V.ref)) ∧ TsAt H bs ts ∧ (∀ t ∈ ts, OkT t) ∧ H p = some (.tup [.ref x, .ref y]) ∧ H x = some (.tup (kVs tx)) ∧ H y = some (.tup (kVs ty)) ∧ tx ∈ ts ∧ ty ∈ ts ∧ tx ≠ ty ∧ T tx s ∧ T ty s ∧
  SA k f T (r + 2) H ∧ ∀ (T' : TR) (H' : Hp), SA k f T' r H' → LeT T T' → Kp H H' → Q (.bl true) H'
theorem scIsC : FnScope ["_law_stamper_here", "_law_terms", "_law_found"] ["_law_stamper_here", "_law_terms", "_law_found"] (defScope (top 59)) := ⟨rfl, rfl, rfl, by decide +kernel, rfl, by decide +kernel, by decide +kernel⟩
theorem ok_isC (T : Txt K mg) : Pr P w K mg base 6 "_law_is_clash" ["_law_stamper_here", "_law_terms", "_law_found"] spIsC := by
  refine T.law_is_clash_.ok scIsC (fun vs H Q E h => ?_) (fun f cdv A outer s H vs Q E hr hh => ?_)
  · obtain ⟨_, _, _, _, _, _, _, _, _, _, _, _, _, rfl, _⟩ := h; rfl
  obtain ⟨g, l, p, x, y, bs, ts, tx, ty, s, k, T0, r, rfl, hl, hts, hok, hp, hx, hy, mx, my, hne, t1, t2, sa, q⟩ := hh
  refine ⟨_, pss_cons (ps_if (PW.pt (pw_or (pt_not (pt_val (pe_isi T.b_isinstance T.b_tuple (pv 2) (Ts := "tuple") (by decide +kernel))))
      (pw_or (pt_cmpR op_ne (pe_callB call_len_seq (by rfl) T.b_len PySem.boot_len (pa_cons (pv 2) pa_nil)) pe_int (nomark _)) (pw_or1 (pt_cmpR (op_eqD hr.units) (pe_ix ix_tup (pv 2) pe_int (fun _ _ => rfl)) (pe_ix ix_tup (pv 2) pe_int (fun _ _ => rfl)) (nomark _)))))) (pss_one (ps_ret pe_bl)) pss_nil)
    (pss_cons (ps_if (PW.pt (pw_or (pt_cmpR (op_notInD (ru65 hr)) (pe_ix ix_tup (pv 2) pe_int (fun _ _ => rfl)) (pv 1) (by rfl)) (pw_or1 (pt_cmpR (op_notInD (ru65 hr)) (pe_ix ix_tup (pv 2) pe_int (fun _ _ => rfl)) (pv 1) (by rfl))))) (pss_one (ps_ret pe_bl)) pss_nil)
    (pss_one (ps_ret (pe_cmpR op_eq (pe_st (i := 0) T hr (pe_ix ix_tup (pv 2) pe_int (fun _ _ => rfl))) (pe_st (i := 0) T hr (pe_ix ix_tup (pv 2) pe_int (fun _ _ => rfl))) (nomark _))))), ?_⟩
  have okx := hok tx mx
  have oky := hok ty my
  refine ⟨_, rfl, isi_of "tuple" "tuple" true (.base (.tup hp)) (by decide +kernel) ⟨_, rfl, iteF ?_⟩⟩
  refine ⟨_, rfl, p, _, rfl, .inr (SqT.of hp), rfl, _, rfl, iteNS rfl ?_⟩
  refine ⟨_, rfl, p, _, _, _, rfl, rfl, SqT.of hp, at_of (j := 0) rfl rfl, _, rfl, p, _, _, _, rfl, rfl, SqT.of hp, at_of (j := 1) rfl rfl, tD tx, tD ty, dp_t hx, dp_t hy, tD_shaped okx.vk, tD_shaped oky.vk, _, rfl, ?_⟩
  rw [tD_eqv, decide_eq_false hne]
  refine iteF ?_
  refine ⟨_, rfl, p, _, _, _, rfl, rfl, SqT.of hp, at_of (j := 0) rfl rfl, _, rfl, tD tx, ts.map tD, dp_t hx, .lst (SqL.of hl) (tsDp hts), tD_shaped okx.vk, tsShaped hok, _, rfl, ?_⟩
  rw [tsAny mx]
  refine iteF ⟨_, rfl, p, _, _, _, rfl, rfl, SqT.of hp, at_of (j := 1) rfl rfl, _, rfl, tD ty, ts.map tD, dp_t hy, .lst (SqL.of hl) (tsDp hts), tD_shaped oky.vk, tsShaped hok, _, rfl, ?_⟩
  rw [tsAny my]
  refine iteF ⟨g, rfl, ⟨k, T0, _, sa⟩, _, rfl, p, _, _, _, rfl, rfl, SqT.of hp, at_of (j := 0) rfl rfl, x, tx, k, T0, r + 1, rfl, hx, okx, sa, fun s1 T1 H1 sa1 le1 hs1 kp1 => ?_⟩
  refine ⟨g, rfl, ⟨k, T1, _, sa1⟩, _, rfl, p, _, _, _, rfl, rfl, SqT.of (kp1.tup hp), at_of (j := 1) rfl rfl, y, ty, k, T1, r, rfl, kp1.tup hy, oky, sa1, fun s2 T2 H2 sa2 le2 hs2 kp2 => ?_⟩
  have e1 : s1 = s := sa1.fnT _ _ _ hs1 (le1 _ _ t1)
  have e2 : s2 = s := sa2.fnT _ _ _ hs2 (le2 _ _ (le1 _ _ t2))
  subst e1 e2
  refine ⟨scal_k _ _, ?_⟩
  exact blT rfl (q T2 H2 sa2 (fun _ _ h => le2 _ _ (le1 _ _ h)) (kp1.trans kp2))
/-! _law_told -/
def spToP : Sp := fun vs H Q _ => ∃ (f ha pa pb : Addr) (n p : Nat) (hk e : Key) (ms : List Key) (k : Kd) (T : TR) (r : Nat), vs = [.ref f, .bl false, .ref ha, .int p, .ref pa] ∧ HeadAt H ha n hk ∧ Vk hk ∧ p < n ∧ n < 2 ^ 59 ∧ PapAt H pa pb e ms ∧ ms.length = (ways p n).length ∧ Vk e ∧ (∀ k ∈ ms, Vk k) ∧ klen e + ksum ms ≤ 5000000 ∧
  SA k f T (r + (ways p n).length + 2) H ∧ (∀ (q : Addr) (ts : List Term) (s : Key) (T' : TR) (H' : Hp), SA k f T' r H' → LeT T T' → Kp H H' → H' q = some (.tup (kVs [.inr "told", e])) → PTop T' (ways p n) ms e ts s → T' (tRow n s) hk → Q (.ref q) H') ∧
  (∀ (q : Addr) (ts : List Term) (s s' : Key) (T' : TR) (H' : Hp), SA k f T' r H' → LeT T T' → Kp H H' → H' q = some (.tup (kVs [.inr "broken"])) → PTop T' (ways p n) ms e ts s → T' (tRow n s) s' → s' ≠ hk → Q (.ref q) H')
def spToG : Sp := fun vs H Q _ => ∃ (f ha ma : Addr) (n e : Nat) (hk : Key) (ms : List Key) (k : Kd) (T : TR) (r : Nat), vs = [.ref f, .bl true, .ref ha, .int e, .ref ma] ∧ HeadAt H ha n hk ∧ Vk hk ∧ 1 ≤ e ∧ e ≤ n ∧ n ≤ 2 ^ 13 ∧ H ma = some (.tup (kVs ms)) ∧ ms.length = howMany n e ∧ (∀ k ∈ ms, Vk k) ∧ ksum ms ≤ 5000000 ∧
  SA k f T (r + 2 * ms.length + 2) H ∧ (∀ (q : Addr) (yts ots : List Term) (y o s' : Key) (T' : TR) (H' : Hp), SA k f T' r H' → LeT T T' → Kp H H' → H' q = some (.tup (kVs [.inr "told", s'])) → JT T' n e ms yts y ots o → T' (tRow n y) hk → T' (tRow e o) s' → Q (.ref q) H') ∧
  (∀ (q : Addr) (yts ots : List Term) (y o s' : Key) (T' : TR) (H' : Hp), SA k f T' r H' → LeT T T' → Kp H H' → H' q = some (.tup (kVs [.inr "broken"])) → JT T' n e ms yts y ots o → T' (tRow n y) s' → s' ≠ hk → Q (.ref q) H')
theorem scTo : FnScope ["_law_stamper_here", "_law_growing", "_law_head_here", "_law_at", "_law_paper_here", "_law_found"] ["_law_stamper_here", "_law_growing", "_law_head_here", "_law_at", "_law_paper_here"] (defScope (top 60)) := ⟨rfl, rfl, rfl, by decide +kernel, rfl, by decide +kernel, by decide +kernel⟩
theorem ok_toP (T : Txt K mg) : Pr P w K mg base 23 "_law_told" ["_law_stamper_here", "_law_growing", "_law_head_here", "_law_at", "_law_paper_here"] spToP := by
  refine T.law_told_.ok scTo (fun vs H Q E h => ?_) (fun f cdv A outer s H vs Q E hr hh => ?_)
  · obtain ⟨_, _, _, _, _, _, _, _, _, _, _, _, rfl, _⟩ := h; rfl
  obtain ⟨g, ha, pa, pb, n, p, hk, e, ms, k, T0, r, rfl, hh, hvk, hp, hn, hpap, hml, hve, hvm, hsz, hs, q1, q2⟩ := hh
  have hz := sizeLine_eq
  obtain ⟨C, B⟩ := T.brk
  obtain ⟨fp, fd, F, hm, hkp, hb⟩ := ok_pans (P := P) (w := w) (base := base) T B
  refine ⟨_, pss_cons (ps_set (i := 5) scTo.nd rfl (Or.inl rfl) pe_non)
    (pss_cons (ps_try_only (c := .ref C) rfl rfl ⟨rfl, by decide, .inl B.g⟩ takes0
      (fun W pn xe tk _ => pss_one (ps_if (pt_val (pv 1)) (pss_one ps_never) (pss_one (ps_set (i := 5) scTo.nd rfl (Or.inl rfl) (pe_tup (pa_cons pe_str (pa_cons (pe_callS F (hr.mono (by decide)) rfl hm hkp hb (fun σ => passAt tk σ) (pa_cons (pv 0) (pa_cons (pv 2) (pa_cons (pv 3) (pa_cons (pv 4) pa_nil))))) pa_nil)))))))
      (fun a oe cls d pn _ _ => pss_one (ps_set (i := 5) scTo.nd rfl (Or.inl rfl) (pe_tup (pa_cons pe_str pa_nil)))))
    (pss_one (ps_ret (pv 5)))), ?_⟩
  refine ⟨_, rfl, _, rfl, iteF ?_⟩
  refine ⟨_, rfl, _, rfl, _, rfl, _, rfl, ?_⟩
  refine ⟨g, ha, pa, pb, n, p, hk, e, ms, k, T0, r, rfl, hh, hvk, hp, hn, hpap, hml, hve, hvm, hsz, hs, fun ts s1 T' H' sa le kp top htp => ?_, fun ts s1 s' T' H' d sa le kp top htp hne => ?_⟩
  · refine ⟨(by show 2 ≤ _; omega), fun q hq => ⟨_, rfl, q1 q ts s1 T' _ (sa.new hq _) le (kp.new hq _) upd_same top htp⟩⟩
  · refine ⟨true, B.te, fun _ a ha => ⟨(by show 1 ≤ _; omega), fun q hq => ⟨_, rfl, q2 q ts s1 s' T' _ (sa.new hq _) le (kp.new hq _) upd_same top htp hne⟩⟩, fun z => nomatch z⟩
theorem ok_toG (T : Txt K mg) : Pr P w K mg base 23 "_law_told" ["_law_stamper_here", "_law_growing", "_law_head_here", "_law_at", "_law_paper_here"] spToG := by
  refine T.law_told_.ok scTo (fun vs H Q E h => ?_) (fun f cdv A outer s H vs Q E hr hh => ?_)
  · obtain ⟨_, _, _, _, _, _, _, _, _, _, rfl, _⟩ := h; rfl
  obtain ⟨g, ha, ma, n, e, hk, ms, k, T0, r, rfl, hh, hvk, h1, hle, hn, hma, hml, hv, hsz, hs, q1, q2⟩ := hh
  have hz := sizeLine_eq
  obtain ⟨C, B⟩ := T.brk
  obtain ⟨fp, fd, F, hm, hkp, hb⟩ := ok_gans (P := P) (w := w) (base := base) T B
  refine ⟨_, pss_cons (ps_set (i := 5) scTo.nd rfl (Or.inl rfl) pe_non)
    (pss_cons (ps_try_only (c := .ref C) rfl rfl ⟨rfl, by decide, .inl B.g⟩ takes0
      (fun W pn xe tk _ => pss_one (ps_if (pt_val (pv 1)) (pss_one (ps_set (i := 5) scTo.nd rfl (Or.inl rfl) (pe_tup (pa_cons pe_str (pa_cons (pe_callS F (hr.mono (by decide)) rfl hm hkp hb (fun σ => passAt tk σ) (pa_cons (pv 0) (pa_cons (pv 2) (pa_cons (pv 3) (pa_cons (pv 4) pa_nil))))) pa_nil))))) (pss_one ps_never)))
      (fun a oe cls d pn _ _ => pss_one (ps_set (i := 5) scTo.nd rfl (Or.inl rfl) (pe_tup (pa_cons pe_str pa_nil)))))
    (pss_one (ps_ret (pv 5)))), ?_⟩
  refine ⟨_, rfl, _, rfl, iteT ?_⟩
  refine ⟨_, rfl, _, rfl, _, rfl, _, rfl, ?_⟩
  refine ⟨g, ha, ma, n, e, hk, ms, k, T0, r, rfl, hh, hvk, h1, hle, hn, hma, hml, hv, hsz, hs, fun yts ots y o s' T' H' sa le kp jt ht1 ht2 => ?_, fun yts ots y o s' T' H' d sa le kp jt ht1 hne => ?_⟩
  · refine ⟨(by show 2 ≤ _; omega), fun q hq => ⟨_, rfl, q1 q yts ots y o s' T' _ (sa.new hq _) le (kp.new hq _) upd_same jt ht1 ht2⟩⟩
  · refine ⟨true, B.te, fun _ a ha => ⟨(by show 1 ≤ _; omega), fun q hq => ⟨_, rfl, q2 q yts ots y o s' T' _ (sa.new hq _) le (kp.new hq _) upd_same jt ht1 hne⟩⟩, fun z => nomatch z⟩
end
end Rs
set_option Elab.async false
set_option linter.all false
set_option maxRecDepth 100000
set_option maxHeartbeats 4000000
/-! Rootstamp, _law_good, the heads, _law_honest. -/
namespace Rs
open PySem PySem.Spec PyProof.Rows L2
section
variable {P : Program} {w : World} {K : PySem.W.Frag} {mg : Str → Option Value} {base : Heap}
def spGood : Sp := fun vs H Q _ => ∃ (f l tp : Addr) (bs : List Addr) (ts : List Term) (tt : Term) (due : Key) (sure : Bool) (k : Kd) (T : TR) (r : Nat), vs = [.ref f, .ref l, .ref tp, kV due, .bl sure] ∧ H l = some (.lst (bs.map V.ref)) ∧ TsAt H bs ts ∧ (∀ t ∈ ts, OkT t) ∧ ts.length ≤ 1000 ∧ H tp = some (.tup (kVs tt)) ∧ (∀ k ∈ tt, Vk k) ∧ Vk due ∧
  SA k f T (r + ts.length + 2) H ∧ (sure = true → Sure k) ∧ (∀ T', LeT T T' → Fn T' → InjOn T' ts → tt = [.inr "broken"] ∨ tt = [.inr "told", due]) ∧ ∀ H', Q (.bl true) H'
theorem scGood : FnScope ["_law_stamper_here", "_law_terms", "_law_told_here", "_law_due", "_law_sure"] ["_law_stamper_here", "_law_terms", "_law_told_here", "_law_due", "_law_sure"] (defScope (top 62)) := ⟨rfl, rfl, rfl, by decide +kernel, rfl, by decide +kernel, by decide +kernel⟩
theorem vk_s {x : Str} (h : PySem.PyData.strOk x = true) : Vk (.inr x) := h
theorem ok_good (T : Txt K mg) : Pr P w K mg base 7 "_law_good" ["_law_stamper_here", "_law_terms", "_law_told_here", "_law_due", "_law_sure"] spGood := by
  refine T.law_good_.ok scGood (fun vs H Q E h => ?_) (fun f cdv A outer s H vs Q E hr hh => ?_)
  · obtain ⟨_, _, _, _, _, _, _, _, _, _, _, rfl, _⟩ := h; rfl
  obtain ⟨g, l, tp, bs, ts, tt, due, sure, k, T0, r, rfl, hl, hts, hok, hlen, htp, hvt, hvd, sa, hS, hC, q⟩ := hh
  have hz := sizeLine_eq
  refine ⟨_, pss_cons (ps_if (PW.pt (pw_or (pt_cmpR (op_eqD hr.units) (pv 2) (pe_tup (pa_cons pe_str pa_nil)) (nomark _)) (pw_or1 (pt_cmpR (op_eqD hr.units) (pv 2) (pe_tup (pa_cons pe_str (pa_cons (pv 3) pa_nil))) (nomark _))))) (pss_one (ps_ret pe_bl)) pss_nil)
    (pss_one (ps_ret (pe_and (pe_not (pv 4)) (pe_one (pe_cl (ok_isC T) hr (pa_cons (pv 0) (pa_cons (pv 1) (pa_cons (pe_cl (ok_clash T) hr (pa_cons (pv 0) (pa_cons (pv 1) pa_nil))) pa_nil)))))))), ?_⟩
  have vb : ∀ k ∈ ([.inr "broken"] : Term), Vk k := fun k hk => by rw [List.mem_singleton.mp hk]; exact vk_s (by decide +kernel)
  have vtd : ∀ k ∈ ([.inr "told", due] : Term), Vk k := fun k hk => by
    rcases List.mem_cons.mp hk with e | hk
    · rw [e]; exact vk_s (by decide +kernel)
    · rw [List.mem_singleton.mp hk]; exact hvd
  refine ⟨_, rfl, (by show 1 ≤ _; omega), fun p1 n1 => ?_⟩
  have k1 : Kp H (upd H p1 (.tup (kVs [.inr "broken"]))) := (Kp.refl H).new n1 _
  refine ⟨tD tt, tD [.inr "broken"], dp_t (k1.tup htp), dp_t upd_same, tD_shaped hvt, tD_shaped vb, _, rfl, ?_⟩
  rw [tD_eqv]
  by_cases e1 : tt = [.inr "broken"]
  · rw [decide_eq_true e1]
    exact iteT (q _)
  rw [decide_eq_false e1]
  refine iteF ⟨_, rfl, _, rfl, (by show 2 ≤ _; omega), fun p2 n2 => ?_⟩
  have k2 : Kp H (upd (upd H p1 (.tup (kVs [.inr "broken"]))) p2 (.tup (kVs [.inr "told", due]))) := k1.new n2 _
  refine ⟨tD tt, tD [.inr "told", due], dp_t (k2.tup htp), dp_t upd_same, tD_shaped hvt, tD_shaped vtd, _, rfl, ?_⟩
  rw [tD_eqv]
  by_cases e2 : tt = [.inr "told", due]
  · rw [decide_eq_true e2]
    exact iteT (q _)
  rw [decide_eq_false e2]
  have hno : ∀ T', LeT T0 T' → Fn T' → ¬ InjOn T' ts := fun T' le F I => (hC T' le F I).elim e1 e2
  have hs0 : sure = false := by
    cases sure with
    | false => rfl
    | true => exact absurd (sa.sure (hS rfl) ts) (hno T0 (fun _ _ h => h) sa.fnT)
  subst hs0
  have sa2 := (sa.new n1 (.tup (kVs [.inr "broken"]))).new n2 (.tup (kVs [.inr "told", due]))
  refine iteF ⟨_, rfl, _, rfl, _, rfl, iteT ⟨_, rfl, _, rfl, _, rfl, _, rfl, ?_⟩⟩
  refine ⟨g, l, bs, ts, k, T0, r + 2, rfl, k2.lst hl, hts.kp k2, hok, by omega, sa2.le (by omega), fun T' H' sa3 le kp I => absurd I (hno T' le sa3.fnT), fun p x y tx ty s' T' H' sa3 le kp _ hp hx hy hx2 hy2 hne t1 t2 => ?_⟩
  exact ⟨g, l, p, x, y, bs, ts, tx, ty, s', k, T', r, rfl, kp.lst (k2.lst hl), (hts.kp k2).kp kp, hok, hp, hx2, hy2, hx, hy, hne, t1, t2, sa3, fun T2 H2 _ _ _ => q H2⟩
/-! ### the heads -/
abbrev HdI := Addr × Nat × Key
structure Hds (H : Hp) (lh : Addr) (t : Tree) (T : TR) (hs : List HdI) : Prop where
  l : H lh = some (.lst (hs.map fun h => V.ref h.1))
  len : hs.length = 3
  at_ : ∀ h ∈ hs, HeadAt H h.1 h.2.1 h.2.2
  n : ∀ h ∈ hs, t.place < h.2.1 ∧ h.2.1 ≤ 4098
  top : ∀ h ∈ hs, ∃ s, Top T t 0 h.2.1 s ∧ T (tRow h.2.1 s) h.2.2
  dec : ∀ (i j : Nat) (a b : HdI), i ≤ j → hs[i]? = some a → hs[j]? = some b → b.2.1 ≤ a.2.1
  sp : ∀ (j : Nat) (b : HdI), 1 ≤ j → hs[j]? = some b → t.s1 = b.2.1 - 1 ∨ t.s2 = b.2.1 - 1
theorem Hds.mono {H H' : Hp} {lh : Addr} {t : Tree} {T T' : TR} {hs : List HdI} (h : Hds H lh t T hs) (k : Kp H H') (l : LeT T T') : Hds H' lh t T' hs :=
  ⟨k.lst h.l, h.len, fun x hx => k.tup (h.at_ x hx), h.n, fun x hx => let ⟨s, a, b⟩ := h.top x hx; ⟨s, a.mono l, l _ _ b⟩, h.dec, h.sp⟩
theorem Hds.get {H : Hp} {lh : Addr} {t : Tree} {T : TR} {hs : List HdI} (h : Hds H lh t T hs) {i : Nat} (hi : i < 3) : ∃ x, hs[i]? = some x ∧ x ∈ hs ∧ (hs.map fun h => V.ref h.1)[i]? = some (.ref x.1) := by
  have hl : i < hs.length := by rw [h.len]; exact hi
  exact ⟨hs[i], List.getElem?_eq_getElem hl, List.getElem_mem hl, by rw [List.getElem?_map, List.getElem?_eq_getElem hl]; rfl⟩
/-- a head's mark is the mark of its row -/
theorem Hds.mark {H : Hp} {lh : Addr} {t : Tree} {T : TR} {hs : List HdI} (h : Hds H lh t T hs) (F : Fn T) {x : HdI} (hx : x ∈ hs) {s s' : Key} (a : Top T t 0 x.2.1 s) (b : T (tRow x.2.1 s) s') : s' = x.2.2 := by
  obtain ⟨s0, a0, b0⟩ := h.top x hx
  have := a.uniq F a0
  subst this
  exact F _ _ _ b b0
theorem Hds.row {H : Hp} {lh : Addr} {t : Tree} {T : TR} {hs : List HdI} (h : Hds H lh t T hs) (F : Fn T) {x : HdI} (hx : x ∈ hs) {s : Key} (a : Top T t 0 x.2.1 s) : T (tRow x.2.1 s) x.2.2 := by
  obtain ⟨s0, a0, b0⟩ := h.top x hx
  have := a.uniq F a0
  subst this
  exact b0
theorem Hds.vk {H : Hp} {lh : Addr} {t : Tree} {T : TR} {hs : List HdI} (h : Hds H lh t T hs) (V : Vd T) {x : HdI} (hx : x ∈ hs) : Vk x.2.2 := by
  obtain ⟨s0, a0, b0⟩ := h.top x hx
  exact V _ _ b0
/-! ### _law_honest -/
def spHon : Sp := fun vs H Q _ => ∃ (f ta tb lh : Addr) (t : Tree) (hs : List HdI) (k : Kd) (T : TR) (r : Nat), vs = [.ref f, .ref ta, .ref lh, .int (t.place : Int)] ∧ TreeAt H ta tb t ∧ Hds H lh t T hs ∧ SA k f T (r + 100000) H ∧
  ∀ (T' : TR) (H' : Hp), SA k f T' r H' → LeT T T' → Kp H H' → Q (.bl true) H'
theorem scHon : FnScope ["_law_stamper_here", "_law_tree", "_law_heads", "_law_place", "_law_k", "_law_paper_here", "_law_j", "_law_marks"] ["_law_stamper_here", "_law_tree", "_law_heads", "_law_place"] (defScope (top 63)) := ⟨rfl, rfl, rfl, by decide +kernel, rfl, by decide +kernel, by decide +kernel⟩
theorem vk_told {e : Key} (h : Vk e) : ∀ k ∈ ([.inr "told", e] : Term), Vk k := fun k hk => by
  rcases List.mem_cons.mp hk with e | hk
  · rw [e]; exact vk_s (by decide +kernel)
  · rw [List.mem_singleton.mp hk]; exact h
theorem ok_hon (T : Txt K mg) : Pr P w K mg base 24 "_law_honest" ["_law_stamper_here", "_law_tree", "_law_heads", "_law_place"] spHon := by
  refine T.law_honest_.ok scHon (fun vs H Q E h => ?_) (fun f cdv A outer s H vs Q E hr hh => ?_)
  · obtain ⟨_, _, _, _, _, _, _, _, _, rfl, _⟩ := h; rfl
  obtain ⟨g, ta, tb, lh, t, hs, k, T0, r, rfl, tr, hd, sa, q⟩ := hh
  have hz := sizeLine_eq
  have h213 : 2 ^ 13 = 8192 := rfl
  have z2 : 2 ≤ sizeLine := by omega
  refine ⟨_, pss_cons (ps_for PassesOwn.never rfl (pi_range1 (by rfl) T.b_range (pa_cons pe_int pa_nil)) (pg_name (i := 4) scHon.nd rfl (Or.inl rfl))
      (pss_cons (ps_set (i := 5) scHon.nd rfl (Or.inl rfl) (pe_cl (ok_pap T) (hr.mono (by decide)) (pa_cons (pv 0) (pa_cons (pv 1) (pa_cons (pe_ix ix_tup (pe_ix ix_list (pv 2) (pv 4) (fun _ _ => rfl)) pe_int (fun _ _ => rfl)) pa_nil)))))
      (pss_cons (ps_if (pt_cmpR (op_neD hr.units) (pe_cl (ok_toP T) hr (pa_cons (pv 0) (pa_cons pe_bl (pa_cons (pe_ix ix_list (pv 2) (pv 4) (fun _ _ => rfl)) (pa_cons (pv 3) (pa_cons (pv 5) pa_nil)))))) (pe_tup (pa_cons pe_str (pa_cons (pe_ix ix_tup (pv 1) pe_int (fun _ _ => rfl)) pa_nil))) (nomark _)) (pss_one (ps_ret pe_bl)) pss_nil)
      (pss_one (ps_for PassesOwn.never rfl (pi_range2 (by rfl) T.b_range (pa_cons (pe_op op_add (pv 4) pe_int) (pa_cons pe_int pa_nil))) (pg_name (i := 6) scHon.nd rfl (Or.inl rfl))
        (pss_cons (ps_set (i := 7) scHon.nd rfl (Or.inl rfl) (pe_cl (ok_grow T) (hr.mono (by decide)) (pa_cons (pv 0) (pa_cons (pv 1) (pa_cons (pe_ix ix_tup (pe_ix ix_list (pv 2) (pv 4) (fun _ _ => rfl)) pe_int (fun _ _ => rfl)) (pa_cons (pe_ix ix_tup (pe_ix ix_list (pv 2) (pv 6) (fun _ _ => rfl)) pe_int (fun _ _ => rfl)) pa_nil))))))
        (pss_one (ps_if (pt_cmpR (op_neD hr.units) (pe_cl (ok_toG T) hr (pa_cons (pv 0) (pa_cons pe_bl (pa_cons (pe_ix ix_list (pv 2) (pv 4) (fun _ _ => rfl)) (pa_cons (pe_ix ix_tup (pe_ix ix_list (pv 2) (pv 6) (fun _ _ => rfl)) pe_int (fun _ _ => rfl)) (pa_cons (pv 7) pa_nil)))))) (pe_tup (pa_cons pe_str (pa_cons (pe_ix ix_tup (pe_ix ix_list (pv 2) (pv 6) (fun _ _ => rfl)) pe_int (fun _ _ => rfl)) pa_nil))) (nomark _)) (pss_one (ps_ret pe_bl)) pss_nil))))))))
    (pss_one (ps_ret pe_bl)), ?_⟩
  refine ⟨_, rfl, by decide, by decide, ?_⟩
  refine for_range (lo := 0) (n := 3) (fun i σ H' => ∃ (T1 : TR) (a b c d : Option V), σ = [some (.ref g), some (.ref ta), some (.ref lh), some (.int (t.place : Int)), a, b, c, d] ∧ Kp H H' ∧ LeT T0 T1 ∧ SA k g T1 (r + 30000 * (3 - i)) H') ⟨T0, none, none, none, none, rfl, Kp.refl H, fun _ _ h => h, sa.le (by omega)⟩ ?_ ?_
  · rintro i σ H' hi ⟨T1, a0, b0, c0, d0, rfl, kp, le1, sa1⟩
    rw [Int.zero_add]
    have hd1 := hd.mono kp le1
    have tr1 := tr.kp kp
    obtain ⟨x, hx, hxm, hxv⟩ := hd1.get hi
    obtain ⟨hxn, hxn2⟩ := hd1.n x hxm
    have hxa := hd1.at_ x hxm
    refine ⟨_, rfl, _, rfl, _, rfl, _, rfl, lh, _, _, _, rfl, rfl, SqL.of hd1.l, at_of (j := i) rfl hxv, x.1, _, _, _, rfl, rfl, SqT.of hxa, at_of (j := 0) rfl rfl, ?_⟩
    refine ⟨g, ta, tb, x.2.1, t, k, T1, r + 30000 * (2 - i) + 20000, rfl, by omega, by omega, hxn, tr1, sa1.le (by omega), fun pa pb ms T2 H2 sa2 le2 kp2 hpap pm => ?_⟩
    have kp12 := kp.trans kp2
    have le12 : LeT T0 T2 := fun _ _ h => le2 _ _ (le1 _ _ h)
    have hd2 := hd1.mono kp2 le2
    have tr2 := tr1.kp kp2
    obtain ⟨hkm, hvm⟩ := pm.bd sa2.bd sa2.vd tr2.ok
    have hke := tr2.le
    have hpl : ms.length = (ways t.place x.2.1).length := pm.len (Nat.zero_le _)
    have hwl := ways_len 13 (p := t.place) (n := x.2.1) (by omega)
    refine ⟨_, rfl, _, rfl, _, rfl, lh, _, _, _, rfl, rfl, SqL.of hd2.l, at_of (j := i) rfl hxv, _, rfl, _, rfl, ?_⟩
    -- the paper's own mark
    have own : ∀ {T3 : TR} {ts : List Term} {s s' : Key}, Fn T3 → LeT T2 T3 → PTop T3 (ways t.place x.2.1) ms t.entry ts s → T3 (tRow x.2.1 s) s' → s' = x.2.2 := fun {T3 ts s s'} F l top row =>
      (hd2.mono (Kp.refl H2) l).mark F hxm ((pm.mono l).top (Nat.zero_le _) (by omega) top) row
    refine ⟨g, x.1, pa, pb, x.2.1, t.place, x.2.2, t.entry, ms, k, T2, r + 30000 * (2 - i) + 19000, rfl, hd2.at_ x hxm, hd2.vk sa2.vd hxm, hxn, by omega, hpap, hpl, tr2.ve, hvm, by omega, sa2.le (by omega), fun q1 ts s T3 H3 sa3 le3 kp3 hq1 top row => ?_,
      fun q1 ts s s' T3 H3 sa3 le3 kp3 hq1 top row hne => absurd (own sa3.fnT le3 top row) hne⟩
    have hd3 := hd2.mono kp3 le3
    have tr3 := tr2.kp kp3
    refine ⟨_, rfl, ta, _, _, _, rfl, rfl, SqT.of tr3.a_, at_of (j := 2) rfl rfl, z2, fun p2 n2 => ?_⟩
    have k4 : Kp H3 (upd H3 p2 (.tup (kVs [.inr "told", t.entry]))) := (Kp.refl H3).new n2 _
    refine ⟨tD [.inr "told", t.entry], tD [.inr "told", t.entry], dp_t (k4.tup hq1), dp_t upd_same, tD_shaped (vk_told tr.ve), tD_shaped (vk_told tr.ve), _, rfl, ?_⟩
    rw [tD_eqv, decide_eq_true rfl]
    refine iteF ?_
    have sa4 := sa3.new n2 (.tup (kVs [.inr "told", t.entry]))
    have kp14 := (kp12.trans kp3).trans k4
    have le13 : LeT T0 T3 := fun _ _ h => le3 _ _ (le12 _ _ h)
    refine ⟨_, rfl, _, _, rfl, rfl, (i : Int) + 1, 3, rfl, ⟨by omega, by omega, by omega, by omega⟩, ?_⟩
    have eN : (3 - ((i : Int) + 1)).toNat = 2 - i := by omega
    rw [eN]
    refine for_range (lo := (i : Int) + 1) (n := 2 - i) (fun j σ H' => ∃ (T4 : TR) (c d : Option V), σ = [some (.ref g), some (.ref ta), some (.ref lh), some (.int (t.place : Int)), some (.int (i : Int)), some (.ref pa), c, d] ∧ Kp H H' ∧ LeT T0 T4 ∧ SA k g T4 (r + 30000 * (2 - i) + 9000 * (2 - j)) H') ⟨T3, _, _, rfl, kp14, le13, sa4.le (by omega)⟩ ?_ ?_
    · rintro j σ H' hj ⟨T4, c1, d1, rfl, kp5, le5, sa5⟩
      have ej : (i : Int) + 1 + (j : Int) = ((i + 1 + j : Nat) : Int) := by omega
      rw [ej]
      have hd5 := hd.mono kp5 le5
      have tr5 := tr.kp kp5
      obtain ⟨y, hy, hym, hyv⟩ := hd5.get (i := i + 1 + j) (by omega)
      obtain ⟨hyn, hyn2⟩ := hd5.n y hym
      have hya := hd5.at_ y hym
      have hyx : y.2.1 ≤ x.2.1 := hd5.dec i (i + 1 + j) x y (by omega) hx hy
      have hxa5 := hd5.at_ x hxm
      refine ⟨_, rfl, _, rfl, _, rfl, _, rfl, lh, _, _, _, rfl, rfl, SqL.of hd5.l, at_of (j := i) rfl hxv, x.1, _, _, _, rfl, rfl, SqT.of hxa5, at_of (j := 0) rfl rfl, ?_⟩
      refine ⟨_, rfl, _, rfl, lh, _, _, _, rfl, rfl, SqL.of hd5.l, at_of (j := i + 1 + j) rfl hyv, y.1, _, _, _, rfl, rfl, SqT.of hya, at_of (j := 0) rfl rfl, ?_⟩
      refine ⟨g, ta, tb, x.2.1, y.2.1, t, k, T4, r + 30000 * (2 - i) + 9000 * (2 - (j + 1)) + 100, rfl, by omega, hyx, by omega, tr5, sa5.le (by omega), fun ma mg T6 H6 sa6 le6 kp6 hma gm => ?_⟩
      have hd6 := hd5.mono kp6 le6
      have tr6 := tr5.kp kp6
      obtain ⟨hkg, hvg⟩ := gm.bd sa6.bd sa6.vd tr6.ok (by omega)
      have hgl : mg.length = howMany x.2.1 y.2.1 := gm.len (by omega)
      have hgl2 := howMany_le 13 (n := x.2.1) (e := y.2.1) (by omega)
      have hsp : t.s1 = 0 + y.2.1 - 1 ∨ t.s2 = 0 + y.2.1 - 1 := by
        have := hd6.sp (i + 1 + j) y (by omega) hy
        omega
      have own2 : ∀ {T3 : TR} {yts ots : List Term} {a o s' : Key}, Fn T3 → LeT T6 T3 → JT T3 x.2.1 y.2.1 mg yts a ots o → T3 (tRow x.2.1 a) s' → s' = x.2.2 := fun {T3 yts ots a o s'} F l jt row =>
        (hd6.mono (Kp.refl H6) l).mark F hxm ((gm.mono l).top (by omega) hsp jt).1 row
      refine ⟨_, rfl, _, rfl, _, rfl, lh, _, _, _, rfl, rfl, SqL.of hd6.l, at_of (j := i) rfl hxv, _, rfl, _, rfl, lh, _, _, _, rfl, rfl, SqL.of hd6.l, at_of (j := i + 1 + j) rfl hyv, y.1, _, _, _, rfl, rfl, SqT.of (hd6.at_ y hym), at_of (j := 0) rfl rfl, _, rfl, ?_⟩
      refine ⟨g, x.1, ma, x.2.1, y.2.1, x.2.2, mg, k, T6, r + 30000 * (2 - i) + 9000 * (2 - (j + 1)), rfl, hd6.at_ x hxm, hd6.vk sa6.vd hxm, by omega, hyx, by omega, hma, hgl, hvg, by omega, sa6.le (by omega), fun q2 yts ots a o s' T7 H7 sa7 le7 kp7 hq2 jt r1 r2 => ?_,
        fun q2 yts ots a o s' T7 H7 sa7 le7 kp7 hq2 jt r1 hne => absurd (own2 sa7.fnT le7 jt r1) hne⟩
      have hd7 := hd6.mono kp7 le7
      have es : s' = y.2.2 := hd7.mark sa7.fnT hym ((gm.mono le7).top (by omega) hsp jt).2 r2
      subst es
      have hvy := hd7.vk sa7.vd hym
      refine ⟨_, rfl, _, rfl, lh, _, _, _, rfl, rfl, SqL.of hd7.l, at_of (j := i + 1 + j) rfl hyv, y.1, _, _, _, rfl, rfl, SqT.of (hd7.at_ y hym), at_of (j := 1) rfl rfl, z2, fun p3 n3 => ?_⟩
      have k8 : Kp H7 (upd H7 p3 (.tup (kVs [.inr "told", y.2.2]))) := (Kp.refl H7).new n3 _
      refine ⟨tD [.inr "told", y.2.2], tD [.inr "told", y.2.2], dp_t (k8.tup hq2), dp_t upd_same, tD_shaped (vk_told hvy), tD_shaped (vk_told hvy), _, rfl, ?_⟩
      rw [tD_eqv, decide_eq_true rfl]
      exact iteF ⟨T7, _, _, rfl, ((kp5.trans kp6).trans kp7).trans k8, fun _ _ h => le7 _ _ (le6 _ _ (le5 _ _ h)), sa7.new n3 _⟩
    · rintro σ H' ⟨T4, c1, d1, rfl, kp5, le5, sa5⟩
      exact ⟨T4, _, _, _, _, rfl, kp5, le5, sa5.le (by omega)⟩
  · rintro σ H' ⟨T1, a0, b0, c0, d0, rfl, kp, le1, sa1⟩
    exact q T1 H' (sa1.le (by omega)) le1 kp
end
end Rs
set_option Elab.async false
set_option linter.all false
set_option maxRecDepth 100000
set_option maxHeartbeats 4000000
/-! Rootstamp, _law_places. -/
namespace Rs
open PySem PySem.Spec PyProof.Rows L2
theorem places_math {T : TR} {n0 n1 p nk no : Nat} {ms' mso mg : List Key} {e' e sk so y o hk : Key} {tsk tso yts ots : List Term} (I : InjOn T ((tsk ++ [tRow nk sk]) ++ (tso ++ [tRow no so]) ++ ((yts ++ [tRow n0 y]) ++ (ots ++ [tRow n1 o]))))
    (A : PTop T (ways p nk) ms' e' tsk sk) (a : T (tRow nk sk) hk) (B : PTop T (ways p no) mso e tso so) (jt : JT T n0 n1 mg yts y ots o) (hp : p < n1)
    (c : (nk = n0 ∧ no = n1 ∧ so = o ∧ T (tRow n0 y) hk) ∨ (nk = n1 ∧ no = n0 ∧ so = y ∧ T (tRow n1 o) hk)) : e' = e := by
  rcases c with ⟨rfl, rfl, rfl, h⟩ | ⟨rfl, rfl, rfl, h⟩
  · have e1 := tRow_inj (I (tRow nk sk) (by simp) (tRow nk y) (by simp) _ a h)
    subst e1
    refine jt.place hp A B (I.sub fun x hx => ?_)
    simp only [List.mem_append] at hx ⊢
    rcases hx with (hx | hx) | (hx | hx)
    · exact .inl (.inl (.inl hx))
    · exact .inl (.inr (.inl hx))
    · exact .inr (.inl (.inl hx))
    · exact .inr (.inr (.inl hx))
  · have e1 := tRow_inj (I (tRow nk sk) (by simp) (tRow nk o) (by simp) _ a h)
    subst e1
    refine (jt.place hp B A (I.sub fun x hx => ?_)).symm
    simp only [List.mem_append] at hx ⊢
    rcases hx with (hx | hx) | (hx | hx)
    · exact .inl (.inr (.inl hx))
    · exact .inl (.inl (.inl hx))
    · exact .inr (.inl (.inl hx))
    · exact .inr (.inr (.inl hx))
abbrev NPl : List Str := ["_law_stamper_here", "_law_script", "_law_tree", "_law_heads", "_law_known", "_law_alias", "_law_way_here", "_law_cell", "_law_k", "_law_place", "_law_papers", "_law_count", "_law_other", "_law_height", "_law_old", "_law_terms", "_law_marks"]
section
variable {P : Program} {w : World} {K : PySem.W.Frag} {mg : Str → Option Value} {base : Heap}
theorem scPl : FnScope NPl ["_law_stamper_here", "_law_script", "_law_tree", "_law_heads", "_law_known", "_law_alias", "_law_way_here"] (defScope (top 64)) := ⟨rfl, rfl, rfl, by decide +kernel, rfl, by decide +kernel, by decide +kernel⟩
/-- heads[0] and heads[1], the one that is asked first -/
structure Two (hs : List HdI) (kk : Nat) (x0 x1 xk xo : HdI) : Prop where
  a0 : hs[0]? = some x0
  a1 : hs[1]? = some x1
  ak : hs[kk]? = some xk
  ao : hs[1 - kk]? = some xo
  c : (kk = 0 ∧ xk = x0 ∧ xo = x1) ∨ (kk = 1 ∧ xk = x1 ∧ xo = x0)
theorem Two.of {hs : List HdI} (hl : hs.length = 3) {kk : Nat} (hk : kk ≤ 1) : ∃ x0 x1 xk xo, Two hs kk x0 x1 xk xo := by
  have e0 := List.getElem?_eq_getElem (l := hs) (i := 0) (by omega)
  have e1 := List.getElem?_eq_getElem (l := hs) (i := 1) (by omega)
  rcases (by omega : kk = 0 ∨ kk = 1) with rfl | rfl
  · exact ⟨_, _, _, _, e0, e1, e0, e1, .inl ⟨rfl, rfl, rfl⟩⟩
  · exact ⟨_, _, _, _, e0, e1, e1, e0, .inr ⟨rfl, rfl, rfl⟩⟩
theorem hv_at {hs : List HdI} {i : Nat} {x : HdI} (h : hs[i]? = some x) : (hs.map fun h => V.ref h.1)[i]? = some (.ref x.1) := by rw [List.getElem?_map, h]; rfl
theorem places_tail (T : Txt K mg) {f : Addr} {cdv : Value} {A : Around} {outer : List Env} {s : Shared} {H : Hp} {E : XK} (hr : Room 24 (A.deeper (envOfC "_law_places" (defScope (top 64)) s.heap.objs.size f cdv))) :
    ∃ t3, PSs (cxOf CX0 P w K mg base NPl "_law_places" (defScope (top 64)) f cdv A outer s H E).nox ((defBody (top 64)).drop 8) t3 ∧
      ∀ (g sc ta tb lh kn aa lp pao pbo po pob : Addr) (way : Int) (cell hv : V) (ov : Option V) (kk : Nat) (t : Tree) (hs : List HdI) (x0 x1 xk xo : HdI) (ps : List V) (mso ms' : List Key) (e' : Key) (k : Kd) (T0 : TR) (Q : VK) (H1 : Hp),
        Two hs kk x0 x1 xk xo → TreeAt H1 ta tb t → Hds H1 lh t T0 hs → H1 lp = some (.lst ps) → ps[1 - kk]? = some (.ref pao) → PapAt H1 pao pbo t.entry mso → PM T0 t 0 xo.2.1 mso → PapAt H1 po pob e' ms' → ms'.length = (ways t.place xk.2.1).length → Vk e' → klen e' ≤ 61 → (∀ k ∈ ms', Vk k) → ksum ms' ≤ 3000000 →
        SA k g T0 100000 H1 → (way = 3 → Sure k) → (∀ H', Q (.bl true) H') →
        t3 { nx := fun _ H' => Q .non H', rt := Q } [some (.ref g), some (.ref sc), some (.ref ta), some (.ref lh), some (.ref kn), some (.ref aa), some (.int way), some cell, some (.int (kk : Int)), some (.int (t.place : Int)), some (.ref lp), some (.int (xk.2.1 : Int)), some (.ref po), some hv, ov, none, none] H1 := by
  have hz := sizeLine_eq
  have h213 : 2 ^ 13 = 8192 := rfl
  refine ⟨_, pss_cons (ps_set (i := 15) scPl.nd rfl (Or.inl rfl) (pe_cl (ok_pterms T) (hr.mono (by decide)) (pa_cons (pv 0) (pa_cons (pv 11) (pa_cons (pv 9) (pa_cons (pv 12) pa_nil))))))
    (pss_cons (ps_set (i := 15) scPl.nd rfl (Or.inl rfl) (pe_op op_cat (pv 15) (pe_cl (ok_pterms T) (hr.mono (by decide)) (pa_cons (pv 0) (pa_cons (pe_ix ix_tup (pe_ix ix_list (pv 3) (pe_op op_sub pe_int (pv 8)) (fun _ _ => rfl)) pe_int (fun _ _ => rfl)) (pa_cons (pv 9) (pa_cons (pe_ix ix_list (pv 10) (pe_op op_sub pe_int (pv 8)) (fun _ _ => rfl)) pa_nil)))))))
    (pss_cons (ps_set (i := 16) scPl.nd rfl (Or.inl rfl) (pe_cl (ok_grow T) (hr.mono (by decide)) (pa_cons (pv 0) (pa_cons (pv 2) (pa_cons (pe_ix ix_tup (pe_ix ix_list (pv 3) pe_int (fun _ _ => rfl)) pe_int (fun _ _ => rfl)) (pa_cons (pe_ix ix_tup (pe_ix ix_list (pv 3) pe_int (fun _ _ => rfl)) pe_int (fun _ _ => rfl)) pa_nil))))))
    (pss_cons (ps_set (i := 15) scPl.nd rfl (Or.inl rfl) (pe_op op_cat (pv 15) (pe_cl (ok_grown T) (hr.mono (by decide)) (pa_cons (pv 0) (pa_cons (pe_ix ix_tup (pe_ix ix_list (pv 3) pe_int (fun _ _ => rfl)) pe_int (fun _ _ => rfl)) (pa_cons (pe_ix ix_tup (pe_ix ix_list (pv 3) pe_int (fun _ _ => rfl)) pe_int (fun _ _ => rfl)) (pa_cons (pv 16) pa_nil)))))))
    (pss_one (ps_ret (pe_cl (ok_good T) (hr.mono (by decide)) (pa_cons (pv 0) (pa_cons (pv 15) (pa_cons (pe_cl (ok_toP T) (hr.mono (by decide)) (pa_cons (pv 0) (pa_cons pe_bl (pa_cons (pe_ix ix_list (pv 3) (pv 8) (fun _ _ => rfl)) (pa_cons (pv 9) (pa_cons (pv 12) pa_nil))))))
      (pa_cons (pe_ix ix_tup (pv 2) pe_int (fun _ _ => rfl)) (pa_cons (pe_cmpR op_eq (pv 6) pe_int (nomark _)) pa_nil)))))))))))
    , fun g sc ta tb lh kn aa lp pao pbo po pob way cell hv ov kk t hs x0 x1 xk xo ps mso ms' e' k T0 Q H1 two tr hd hlp hps hpao pmo hpap hml hve hke hvm hks sa hS q => ?_⟩
  have hkk : kk ≤ 1 := by rcases two.c with ⟨h, _⟩ | ⟨h, _⟩ <;> omega
  have ek : (1 : Int) - (kk : Int) = ((1 - kk : Nat) : Int) := by omega
  have mk := List.mem_of_getElem? two.ak
  have mo := List.mem_of_getElem? two.ao
  have m0 := List.mem_of_getElem? two.a0
  have m1 := List.mem_of_getElem? two.a1
  obtain ⟨pk, nk⟩ := hd.n xk mk
  obtain ⟨po1, no⟩ := hd.n xo mo
  obtain ⟨p0, n0⟩ := hd.n x0 m0
  obtain ⟨p1, n1⟩ := hd.n x1 m1
  have d01 := hd.dec 0 1 x0 x1 (by omega) two.a0 two.a1
  have wk := ways_len 13 (p := t.place) (n := xk.2.1) (by omega)
  have wo := ways_len 13 (p := t.place) (n := xo.2.1) (by omega)
  have hent := tr.le
  refine ⟨_, rfl, _, rfl, _, rfl, _, rfl, ?_⟩
  refine ⟨g, po, pob, xk.2.1, t.place, e', ms', k, T0, 80000, rfl, pk, by omega, hpap, hml, hve, hvm, by omega, sa.le (by omega), fun l1 bs1 tsk sk T1 H2 sa1 le1 kp1 _ hl1 ht1 top1 ok1 => ?_⟩
  -- the other head's paper
  have hd1 := hd.mono kp1 le1
  have tr1 := tr.kp kp1
  have pmo1 := pmo.mono le1
  obtain ⟨hko, hvo⟩ := pmo1.bd sa1.bd sa1.vd tr1.ok
  have hlo : mso.length = (ways t.place xo.2.1).length := pmo.len (Nat.zero_le _)
  have hpao1 : PapAt H2 pao pbo t.entry mso := ⟨kp1.tup hpao.p, kp1.tup hpao.m⟩
  refine ⟨_, rfl, _, rfl, _, rfl, _, rfl, _, _, rfl, rfl, lh, _, _, _, rfl, rfl, SqL.of hd1.l, atI_nat (j := 1 - kk) ek (hv_at two.ao), xo.1, _, _, _, rfl, rfl, SqT.of (hd1.at_ xo mo), at_of (j := 0) rfl rfl, _, rfl, _, rfl, _, rfl, _, _, rfl, rfl, lp, _, _, _, rfl, rfl, SqL.of (kp1.lst hlp), atI_nat (j := 1 - kk) ek hps, ?_⟩
  refine ⟨g, pao, pbo, xo.2.1, t.place, t.entry, mso, k, T1, 60000, rfl, po1, by omega, hpao1, hlo, tr1.ve, hvo, by omega, sa1.le (by omega), fun l2 bs2 tso so T2 H3 sa2 le2 kp2 _ hl2 ht2 top2 ok2 => ?_⟩
  have hb1 : bs1.length ≤ 20 := by rw [ht1.len, List.length_append, top1.pt.tlen]; show _ + 1 + 1 ≤ _; omega
  have hb2 : bs2.length ≤ 20 := by rw [ht2.len, List.length_append, top2.pt.tlen]; show _ + 1 + 1 ≤ _; omega
  refine ⟨l1, l2, _, _, rfl, rfl, kp2.lst hl1, hl2, by rw [List.length_map, List.length_map]; omega, fun l3 hl3 => ?_⟩
  have k3 : Kp H3 (upd H3 l3 (.lst (bs1.map V.ref ++ bs2.map V.ref))) := (Kp.refl H3).new hl3 _
  have kp13 := (kp1.trans kp2).trans k3
  have le12 : LeT T0 T2 := fun _ _ h => le2 _ _ (le1 _ _ h)
  have hd3 := hd.mono kp13 le12
  have tr3 := tr.kp kp13
  have sa3 := sa2.new hl3 (.lst (bs1.map V.ref ++ bs2.map V.ref))
  -- the growth between the heads
  refine ⟨_, rfl, _, rfl, _, rfl, lh, _, _, _, rfl, rfl, SqL.of hd3.l, at_of (j := 0) rfl (hv_at two.a0), x0.1, _, _, _, rfl, rfl, SqT.of (hd3.at_ x0 m0), at_of (j := 0) rfl rfl, _, rfl, lh, _, _, _, rfl, rfl, SqL.of hd3.l, at_of (j := 1) rfl (hv_at two.a1), x1.1, _, _, _, rfl, rfl, SqT.of (hd3.at_ x1 m1), at_of (j := 0) rfl rfl, ?_⟩
  refine ⟨g, ta, tb, x0.2.1, x1.2.1, t, k, T2, 40000, rfl, by omega, d01, by omega, tr3, sa3.le (by omega), fun ma mg T4 H5 sa4 le4 kp4 hma gm => ?_⟩
  have hd4 := hd3.mono kp4 le4
  have tr4 := tr3.kp kp4
  obtain ⟨hkg, hvg⟩ := gm.bd sa4.bd sa4.vd tr4.ok (by omega)
  have hgl : mg.length = howMany x0.2.1 x1.2.1 := gm.len (by omega)
  have hgl2 := howMany_le 13 (n := x0.2.1) (e := x1.2.1) (by omega)
  have hsp : t.s1 = 0 + x1.2.1 - 1 ∨ t.s2 = 0 + x1.2.1 - 1 := by
    have := hd.sp 1 x1 (by omega) two.a1
    omega
  have hl3' : H5 l3 = some (.lst (bs1.map V.ref ++ bs2.map V.ref)) := kp4.lst upd_same
  refine ⟨_, rfl, _, rfl, _, rfl, lh, _, _, _, rfl, rfl, SqL.of hd4.l, at_of (j := 0) rfl (hv_at two.a0), x0.1, _, _, _, rfl, rfl, SqT.of (hd4.at_ x0 m0), at_of (j := 0) rfl rfl, _, rfl, lh, _, _, _, rfl, rfl, SqL.of hd4.l, at_of (j := 1) rfl (hv_at two.a1), x1.1, _, _, _, rfl, rfl, SqT.of (hd4.at_ x1 m1), at_of (j := 0) rfl rfl, _, rfl, ?_⟩
  refine ⟨g, ma, x0.2.1, x1.2.1, mg, k, T4, 20000, rfl, by omega, d01, by omega, hma, hgl, hvg, by omega, sa4.le (by omega), fun l5 bs5 yts ots y o T5 H6 sa5 le5 kp5 _ hl5 ht5 ok5 hb5 jt5 => ?_⟩
  have hl3'' := kp5.lst hl3'
  refine ⟨l3, l5, _, _, rfl, rfl, hl3'', hl5, by rw [List.length_append, List.length_map, List.length_map, List.length_map]; omega, fun l6 hl6 => ?_⟩
  have k6 : Kp H6 (upd H6 l6 (.lst (bs1.map V.ref ++ bs2.map V.ref ++ bs5.map V.ref))) := (Kp.refl H6).new hl6 _
  have kp46 := (kp4.trans kp5).trans k6
  have kp16 := kp13.trans kp46
  have le45 : LeT T2 T5 := fun _ _ h => le5 _ _ (le4 _ _ h)
  have le15 : LeT T1 T5 := fun _ _ h => le45 _ _ (le2 _ _ h)
  have le05 : LeT T0 T5 := fun _ _ h => le15 _ _ (le1 _ _ h)
  have hd6 := hd.mono kp16 le05
  have tr6 := tr.kp kp16
  have sa6 := sa5.new hl6 (.lst (bs1.map V.ref ++ bs2.map V.ref ++ bs5.map V.ref))
  have hall : TsAt (upd H6 l6 (.lst (bs1.map V.ref ++ bs2.map V.ref ++ bs5.map V.ref))) (bs1 ++ bs2 ++ bs5) ((tsk ++ [tRow xk.2.1 sk]) ++ (tso ++ [tRow xo.2.1 so]) ++ ((yts ++ [tRow x0.2.1 y]) ++ (ots ++ [tRow x1.2.1 o]))) :=
    ((ht1.kp ((kp2.trans k3).trans kp46)).app (ht2.kp (k3.trans kp46))).app (ht5.kp k6)
  have hokall : ∀ t' ∈ (tsk ++ [tRow xk.2.1 sk]) ++ (tso ++ [tRow xo.2.1 so]) ++ ((yts ++ [tRow x0.2.1 y]) ++ (ots ++ [tRow x1.2.1 o])), OkT t' := fun t' h =>
    (List.mem_append.mp h).elim (fun h => (List.mem_append.mp h).elim (ok1 t') (ok2 t')) (ok5 t')
  have hlall : ((tsk ++ [tRow xk.2.1 sk]) ++ (tso ++ [tRow xo.2.1 so]) ++ ((yts ++ [tRow x0.2.1 y]) ++ (ots ++ [tRow x1.2.1 o]))).length ≤ 300 := by
    rw [← hall.len, List.length_append, List.length_append]; omega
  have hl6' : (upd H6 l6 (.lst (bs1.map V.ref ++ bs2.map V.ref ++ bs5.map V.ref))) l6 = some (.lst ((bs1 ++ bs2 ++ bs5).map V.ref)) := by rw [upd_same, List.map_append, List.map_append]
  have hpap6 : PapAt (upd H6 l6 (.lst (bs1.map V.ref ++ bs2.map V.ref ++ bs5.map V.ref))) po pob e' ms' := ⟨kp16.tup hpap.p, kp16.tup hpap.m⟩
  -- what the told answer means
  have meaning : ∀ {T7 : TR}, LeT T5 T7 → Fn T7 → T7 (tRow xk.2.1 sk) xk.2.2 → InjOn T7 ((tsk ++ [tRow xk.2.1 sk]) ++ (tso ++ [tRow xo.2.1 so]) ++ ((yts ++ [tRow x0.2.1 y]) ++ (ots ++ [tRow x1.2.1 o]))) → e' = t.entry := fun {T7} l F rk I => by
    have l1 : LeT T1 T7 := fun _ _ h => l _ _ (le15 _ _ h)
    have l2 : LeT T2 T7 := fun _ _ h => l _ _ (le45 _ _ h)
    have l4 : LeT T4 T7 := fun _ _ h => l _ _ (le5 _ _ h)
    have hd7 := hd6.mono (Kp.refl _) l
    have jt7 := jt5.mono l
    obtain ⟨gy, go⟩ := (gm.mono l4).top (by omega) hsp jt7
    have po7 := (pmo1.mono l1).top (Nat.zero_le _) (by omega) (top2.mono l2)
    refine places_math (hk := xk.2.2) I (top1.mono l1) rk (top2.mono l2) jt7 p1 ?_
    rcases two.c with ⟨_, rfl, rfl⟩ | ⟨_, rfl, rfl⟩
    · exact .inl ⟨rfl, rfl, po7.uniq F go, hd7.row F mk gy⟩
    · exact .inr ⟨rfl, rfl, po7.uniq F gy, hd7.row F mk go⟩
  refine ⟨_, rfl, _, rfl, _, rfl, _, rfl, _, rfl, lh, _, _, _, rfl, rfl, SqL.of hd6.l, at_of (j := kk) rfl (hv_at two.ak), _, rfl, _, rfl, ?_⟩
  have fin : ∀ (q1 : Addr) (tt : Term) (T7 : TR) (H7 : Hp), SA k g T7 10000 H7 → Kp (upd H6 l6 (.lst (bs1.map V.ref ++ bs2.map V.ref ++ bs5.map V.ref))) H7 → H7 q1 = some (.tup (kVs tt)) → (∀ k ∈ tt, Vk k) → (∀ T', LeT T7 T' → Fn T' → InjOn T' ((tsk ++ [tRow xk.2.1 sk]) ++ (tso ++ [tRow xo.2.1 so]) ++ ((yts ++ [tRow x0.2.1 y]) ++ (ots ++ [tRow x1.2.1 o]))) → tt = [.inr "broken"] ∨ tt = [.inr "told", t.entry]) →
      spGood [.ref g, .ref l6, .ref q1, kV t.entry, .bl (decide (V.int way = V.int 3))] H7 Q E0 := fun q1 tt T7 H7 sa7 kp7 hq1 hvt hC =>
    ⟨g, l6, q1, bs1 ++ bs2 ++ bs5, _, tt, t.entry, decide (V.int way = V.int 3), k, T7, 100, rfl, kp7.lst hl6', hall.kp kp7, hokall, by omega, hq1, hvt, tr6.ve, sa7.le (by omega), fun h => hS (by have := of_decide_eq_true h; injection this), hC, q⟩
  refine ⟨g, xk.1, po, pob, xk.2.1, t.place, xk.2.2, e', ms', k, T5, 10000, rfl, hd6.at_ xk mk, hd6.vk sa6.vd mk, pk, by omega, hpap6, hml, hve, hvm, by omega, sa6.le (by omega), fun q1 ts7 s7 T7 H7 sa7 le7 kp7 hq1 top7 row7 => ?_, fun q1 ts7 s7 s'7 T7 H7 sa7 le7 kp7 hq1 top7 row7 hne => ?_⟩
  · obtain ⟨e1, e2⟩ := top7.fn sa7.fnT (top1.mono fun _ _ h => le7 _ _ (le15 _ _ h))
    subst e2
    refine ⟨_, rfl, ta, _, _, _, rfl, rfl, SqT.of (tr6.kp kp7).a_, at_of (j := 2) rfl rfl, _, rfl, rfl, ?_⟩
    exact fin q1 [.inr "told", e'] T7 H7 sa7 kp7 hq1 (vk_told hve) fun T' l F I => .inr (by rw [meaning (fun _ _ h => l _ _ (le7 _ _ h)) F (l _ _ row7) I])
  · refine ⟨_, rfl, ta, _, _, _, rfl, rfl, SqT.of (tr6.kp kp7).a_, at_of (j := 2) rfl rfl, _, rfl, rfl, ?_⟩
    exact fin q1 [.inr "broken"] T7 H7 sa7 kp7 hq1 (fun k hk => by rw [List.mem_singleton.mp hk]; exact vk_s (by decide +kernel)) fun T' l F I => .inl rfl
def spPlaces : Sp := fun vs H Q _ => ∃ (g sc ta tb lh kn aa : Addr) (way : Int) (ns : List Int) (t : Tree) (hs : List HdI) (k : Kd) (T : TR), vs = [.ref g, .ref sc, .ref ta, .ref lh, .ref kn, .ref aa, .int way] ∧ SqL K H sc (iVs ns) ∧ TreeAt H ta tb t ∧ Hds H lh t T hs ∧ SA k g T 200000 H ∧ (way = 3 → Sure k) ∧ (way < 2 → ∃ step, k = .planted kn aa step none) ∧ ∀ H', Q (.bl true) H'
theorem pick2 {a b : Addr} {kk : Nat} (h : kk ≤ 1) {R : Addr → Prop} (ha : kk = 0 → R a) (hb : kk = 1 → R b) : ∃ c, [V.ref a, V.ref b][kk]? = some (.ref c) ∧ R c := by
  rcases (by omega : kk = 0 ∨ kk = 1) with rfl | rfl
  · exact ⟨a, rfl, ha rfl⟩
  · exact ⟨b, rfl, hb rfl⟩
theorem ok_places (T : Txt K mg) : Pr P w K mg base 25 "_law_places" ["_law_stamper_here", "_law_script", "_law_tree", "_law_heads", "_law_known", "_law_alias", "_law_way_here"] (spPlaces (K := K)) := by
  refine T.law_places_.ok scPl (fun vs H Q E h => ?_) (fun f cdv A outer s H vs Q E hr hh => ?_)
  · obtain ⟨_, _, _, _, _, _, _, _, _, _, _, _, _, rfl, _⟩ := h; rfl
  obtain ⟨g, sc, ta, tb, lh, kn, aa, way, ns, t, hs, k, T0, rfl, hsc, tr, hd, sa, hS, hP, q⟩ := hh
  have hz := sizeLine_eq
  obtain ⟨t3, ht3, tail⟩ := places_tail T (outer := outer) (H := H) (E := E) hr
  refine ⟨_, pss_cons (ps_set (i := 7) scPl.nd rfl (Or.inl rfl) (pe_cl (ok_cell T) (hr.mono (by decide)) (pa_cons (pv 1) (pa_cons pe_int pa_nil))))
    (pss_cons (ps_set (i := 8) scPl.nd rfl (Or.inl rfl) (pe_op op_mod (pe_op op_fdiv (pe_cl (ok_cell T) (hr.mono (by decide)) (pa_cons (pv 1) (pa_cons pe_int pa_nil))) pe_int) pe_int))
    (pss_cons (ps_set (i := 9) scPl.nd rfl (Or.inl rfl) (pe_ix ix_list (pe_ix ix_tup (pv 2) pe_int (fun _ _ => rfl)) pe_int (fun _ _ => rfl)))
    (pss_cons (ps_set (i := 10) scPl.nd rfl (Or.inl rfl) (pe_lst (pa_cons (pe_cl (ok_pap T) (hr.mono (by decide)) (pa_cons (pv 0) (pa_cons (pv 2) (pa_cons (pe_ix ix_tup (pe_ix ix_list (pv 3) pe_int (fun _ _ => rfl)) pe_int (fun _ _ => rfl)) pa_nil))))
      (pa_cons (pe_cl (ok_pap T) (hr.mono (by decide)) (pa_cons (pv 0) (pa_cons (pv 2) (pa_cons (pe_ix ix_tup (pe_ix ix_list (pv 3) pe_int (fun _ _ => rfl)) pe_int (fun _ _ => rfl)) pa_nil)))) pa_nil))))
    (pss_cons (ps_set (i := 11) scPl.nd rfl (Or.inl rfl) (pe_ix ix_tup (pe_ix ix_list (pv 3) (pv 8) (fun _ _ => rfl)) pe_int (fun _ _ => rfl)))
    (pss_cons (ps_set (i := 12) scPl.nd rfl (Or.inl rfl) (pe_cl (ok_chg T) (hr.mono (by decide)) (pa_cons (pe_op op_mod (pv 7) pe_int) (pa_cons (pe_op op_fdiv (pv 7) pe_int) (pa_cons (pe_ix ix_list (pv 10) (pv 8) (fun _ _ => rfl)) pa_nil)))))
    (pss_cons (ps_set (i := 13) scPl.nd rfl (Or.inl rfl) (pe_op op_mod (pe_cl (ok_cell T) (hr.mono (by decide)) (pa_cons (pv 1) (pa_cons pe_int pa_nil))) (pe_op op_add (pe_callB call_len_seq (by rfl) T.b_len PySem.boot_len (pa_cons (pe_ix ix_tup (pe_ix ix_list (pv 10) (pv 8) (fun _ _ => rfl)) pe_int (fun _ _ => rfl)) pa_nil)) pe_int)))
    (pss_cons (ps_if (pt_cmpR op_lt (pv 6) pe_int (nomark _))
      (pss_cons (ps_set (i := 14) scPl.nd rfl (Or.inl rfl) (pe_cl (ok_plT T) (hr.mono (by decide)) (pa_cons (pv 0) (pa_cons (pv 11) (pa_cons (pv 9) (pa_cons (pe_ix ix_list (pv 10) (pv 8) (fun _ _ => rfl)) (pa_cons (pv 13) pa_nil)))))))
        (pss_one (ps_expr (pe_cl (ok_plant T) (hr.mono (by decide)) (pa_cons (pv 4) (pa_cons (pv 5) (pa_cons (pe_cl (ok_plT T) (hr.mono (by decide)) (pa_cons (pv 0) (pa_cons (pv 11) (pa_cons (pv 9) (pa_cons (pv 12) (pa_cons (pv 13) pa_nil)))))) (pa_cons (pv 14) pa_nil))))))))
      pss_nil) ht3))))))), ?_⟩
  obtain ⟨kk, ekk, hkk⟩ : ∃ kk : Nat, ns.getD 5 0 / 2 % 2 = (kk : Int) ∧ kk ≤ 1 := ⟨(ns.getD 5 0 / 2 % 2).toNat, by omega, by omega⟩
  obtain ⟨x0, x1, xk, xo, two⟩ := Two.of hd.len hkk
  have mk := List.mem_of_getElem? two.ak
  have mo := List.mem_of_getElem? two.ao
  have m0 := List.mem_of_getElem? two.a0
  have m1 := List.mem_of_getElem? two.a1
  obtain ⟨pk, nk⟩ := hd.n xk mk
  obtain ⟨p0, n0⟩ := hd.n x0 m0
  obtain ⟨p1, n1⟩ := hd.n x1 m1
  have h213 : 2 ^ 13 = 8192 := rfl
  have wk := ways_len 13 (p := t.place) (n := xk.2.1) (by omega)
  have hent := tr.le
  refine ⟨_, rfl, sc, ns, 6, rfl, hsc, ?_⟩
  refine ⟨_, rfl, sc, ns, 5, rfl, hsc, _, _, rfl, rfl, ⟨by decide, by decide⟩, _, _, rfl, rfl, (by show (0 : Int) < 2; decide), ?_⟩
  dsimp only
  rw [ekk]
  refine ⟨_, rfl, ta, _, _, _, rfl, rfl, SqT.of tr.a_, at_of (j := 1) rfl rfl, tb, _, _, _, rfl, rfl, SqL.of tr.b_, at_of (j := 0) rfl rfl, ?_⟩
  -- both papers
  refine ⟨_, rfl, _, rfl, _, rfl, lh, _, _, _, rfl, rfl, SqL.of hd.l, at_of (j := 0) rfl (hv_at two.a0), x0.1, _, _, _, rfl, rfl, SqT.of (hd.at_ x0 m0), at_of (j := 0) rfl rfl, ?_⟩
  refine ⟨g, ta, tb, x0.2.1, t, k, T0, 180000, rfl, by omega, by omega, p0, tr, sa.le (by omega), fun pa0 pb0 ms0 T1 H1 sa1 le1 kp1 hpap0 pm0 => ?_⟩
  have hd1 := hd.mono kp1 le1
  have tr1 := tr.kp kp1
  refine ⟨_, rfl, _, rfl, _, rfl, lh, _, _, _, rfl, rfl, SqL.of hd1.l, at_of (j := 1) rfl (hv_at two.a1), x1.1, _, _, _, rfl, rfl, SqT.of (hd1.at_ x1 m1), at_of (j := 0) rfl rfl, ?_⟩
  refine ⟨g, ta, tb, x1.2.1, t, k, T1, 160000, rfl, by omega, by omega, p1, tr1, sa1.le (by omega), fun pa1 pb1 ms1 T2 H2 sa2 le2 kp2 hpap1 pm1 => ?_⟩
  refine ⟨(by show 2 ≤ _; omega), fun lp hlp => ?_⟩
  have k3 : Kp H2 (upd H2 lp (.lst [.ref pa0, .ref pa1])) := (Kp.refl H2).new hlp _
  have kp13 := (kp1.trans kp2).trans k3
  have le12 : LeT T0 T2 := fun _ _ h => le2 _ _ (le1 _ _ h)
  have hd3 := hd.mono kp13 le12
  have tr3 := tr.kp kp13
  have sa3 := sa2.new hlp (.lst [.ref pa0, .ref pa1])
  have hlp3 : (upd H2 lp (.lst [.ref pa0, .ref pa1])) lp = some (.lst [.ref pa0, .ref pa1]) := upd_same
  have pap0 : PapAt (upd H2 lp (.lst [.ref pa0, .ref pa1])) pa0 pb0 t.entry ms0 := ⟨(kp2.trans k3).tup hpap0.p, (kp2.trans k3).tup hpap0.m⟩
  have pap1 : PapAt (upd H2 lp (.lst [.ref pa0, .ref pa1])) pa1 pb1 t.entry ms1 := ⟨k3.tup hpap1.p, k3.tup hpap1.m⟩
  have pm0' := pm0.mono le2
  obtain ⟨pak, hpk, pbk, msk, papk, pmk⟩ : ∃ pak, [V.ref pa0, V.ref pa1][kk]? = some (.ref pak) ∧ ∃ pbk msk, PapAt (upd H2 lp (.lst [.ref pa0, .ref pa1])) pak pbk t.entry msk ∧ PM T2 t 0 xk.2.1 msk := by
    refine pick2 hkk (fun e => ⟨pb0, ms0, pap0, ?_⟩) (fun e => ⟨pb1, ms1, pap1, ?_⟩)
    · rcases two.c with ⟨_, rfl, _⟩ | ⟨z, _⟩
      · exact pm0'
      · omega
    · rcases two.c with ⟨z, _⟩ | ⟨_, rfl, _⟩
      · omega
      · exact pm1
  obtain ⟨pao, hpo, pbo, mso, papo, pmo⟩ : ∃ pao, [V.ref pa0, V.ref pa1][1 - kk]? = some (.ref pao) ∧ ∃ pbo mso, PapAt (upd H2 lp (.lst [.ref pa0, .ref pa1])) pao pbo t.entry mso ∧ PM T2 t 0 xo.2.1 mso := by
    refine pick2 (by omega) (fun e => ⟨pb0, ms0, pap0, ?_⟩) (fun e => ⟨pb1, ms1, pap1, ?_⟩)
    · rcases two.c with ⟨z, _, _⟩ | ⟨_, _, rfl⟩
      · omega
      · exact pm0'
    · rcases two.c with ⟨_, _, rfl⟩ | ⟨z, _⟩
      · exact pm1
      · omega
  obtain ⟨hkm, hvm⟩ := pmk.bd sa3.bd sa3.vd tr3.ok
  have hlk : msk.length = (ways t.place xk.2.1).length := pmk.len (Nat.zero_le _)
  refine ⟨_, rfl, _, rfl, lh, _, _, _, rfl, rfl, SqL.of hd3.l, at_of (j := kk) rfl (hv_at two.ak), xk.1, _, _, _, rfl, rfl, SqT.of (hd3.at_ xk mk), at_of (j := 0) rfl rfl, ?_⟩
  -- the changed paper
  refine ⟨_, rfl, _, _, rfl, rfl, (by show (0 : Int) < 6; decide), _, rfl, _, _, rfl, rfl, ⟨by decide, by decide⟩, _, rfl, _, rfl, lp, _, _, _, rfl, rfl, SqL.of hlp3, at_of (j := kk) rfl hpk, ?_⟩
  refine ⟨_, _, pak, pbk, t.entry, msk, rfl, papk, by omega, tr3.ve, hent, hvm, by omega, fun po pob e' ms' H4 s4 hpap' hve' hke' lk => ?_⟩
  have k4 := Kp.of s4
  have hpak4 : PapAt H4 pak pbk t.entry msk := ⟨s4 _ _ papk.p, s4 _ _ papk.m⟩
  have hpao4 : PapAt H4 pao pbo t.entry mso := ⟨s4 _ _ papo.p, s4 _ _ papo.m⟩
  have hlp4 := s4 _ _ hlp3
  have hks' := lk.le
  have hsc4 := SqL.kp hsc (kp13.trans k4)
  have sa4 := sa3.same s4
  have hd4 := hd3.mono k4 (fun _ _ h => h)
  have tr4 := tr3.kp k4
  have hm0 := Int.emod_nonneg (ns.getD 7 0) (b := (msk.length : Int) + 2) (by omega)
  have hm1 := Int.emod_lt_of_pos (ns.getD 7 0) (b := (msk.length : Int) + 2) (by omega)
  obtain ⟨hh, ehh⟩ : ∃ hh : Nat, ns.getD 7 0 % ((msk.length : Int) + 2) = (hh : Int) := ⟨(ns.getD 7 0 % ((msk.length : Int) + 2)).toNat, by omega⟩
  refine ⟨_, rfl, sc, ns, 7, rfl, hsc4, _, rfl, _, rfl, lp, _, _, _, rfl, rfl, SqL.of hlp4, at_of (j := kk) rfl hpk, pak, _, _, _, rfl, rfl, SqT.of hpak4.p, at_of (j := 1) rfl rfl, pbk, _, rfl, .inr (SqT.of hpak4.m), _, _, rfl, rfl, _, _, rfl, rfl, ?_, ?_⟩
  · rw [List.length_map]; omega
  dsimp only
  rw [show (((kVs msk).length : Nat) : Int) = (msk.length : Int) by rw [List.length_map], ehh]
  refine ⟨_, rfl, _, _, rfl, rfl, _, rfl, ite2 (fun c => ?_) (fun c => ?_)⟩
  · have hw : way < 2 := of_decide_eq_true c
    obtain ⟨step, rfl⟩ := hP hw
    refine ⟨_, rfl, _, rfl, _, rfl, _, rfl, _, rfl, lp, _, _, _, rfl, rfl, SqL.of hlp4, at_of (j := kk) rfl hpk, _, rfl, ?_⟩
    refine ⟨g, pak, pbk, xk.2.1, t.place, hh, t.entry, msk, _, T2, 140000, rfl, pk, by omega, hpak4, hlk, by omega, tr4.ve, by omega, hvm, by omega, sa4.le (by omega), fun old tOld T5 H5 sa5 le5 kp5 hold hokO => ?_⟩
    have hpap5 : PapAt H5 po pob e' ms' := ⟨kp5.tup hpap'.p, kp5.tup hpap'.m⟩
    refine ⟨_, rfl, _, rfl, _, rfl, _, rfl, _, rfl, _, rfl, _, rfl, ?_⟩
    refine ⟨g, po, pob, xk.2.1, t.place, hh, e', ms', _, T5, 120000, rfl, pk, by omega, hpap5, by rw [lk.len]; exact hlk, by rw [lk.len]; omega, hve', by omega, lk.vk, by omega, sa5.le (by omega), fun nw tNew T6 H6 sa6 le6 kp6 hnew hokN => ?_⟩
    refine ⟨_, rfl, kn, aa, nw, old, g, step, 120000, T6, tNew, tOld, rfl, hnew, kp6.tup hold, sa6, fun k' T7 H7 sa7 le7 kp7 => ?_⟩
    have kpE := (kp5.trans kp6).trans kp7
    have leE : LeT T2 T7 := fun _ _ h => le7 _ _ (le6 _ _ (le5 _ _ h))
    exact tail g sc ta tb lh kn aa lp pao pbo po pob way _ _ _ kk t hs x0 x1 xk xo _ mso ms' e' k' T7 Q H7 two (tr4.kp kpE) (hd4.mono kpE leE) (kpE.lst hlp4) hpo ⟨kpE.tup hpao4.p, kpE.tup hpao4.m⟩ (pmo.mono leE) ⟨kpE.tup hpap'.p, kpE.tup hpap'.m⟩ (by rw [lk.len]; exact hlk) hve' hke' lk.vk (by omega) (sa7.le (by omega)) (fun z => by omega) q
  · exact tail g sc ta tb lh kn aa lp pao pbo po pob way _ _ _ kk t hs x0 x1 xk xo _ mso ms' e' k T2 Q H4 two tr4 hd4 hlp4 hpo hpao4 pmo hpap' (by rw [lk.len]; exact hlk) hve' hke' lk.vk (by omega) (sa4.le (by omega)) hS q
end
end Rs
set_option Elab.async false
set_option linter.all false
set_option maxRecDepth 100000
set_option maxHeartbeats 4000000
/-! Rootstamp, _law_growths. -/
namespace Rs
open PySem PySem.Spec PyProof.Rows L2
theorem growths_math {T : TR} (F : Fn T) {n0 n1 nk no c : Nat} {mk mo mb : List Key} {y1 o1 y2 o2 y o hk : Key} {yk okk yo oo yb ob : List Term}
    (I : InjOn T (((yk ++ [tRow nk y1]) ++ (okk ++ [tRow c o1])) ++ ((yo ++ [tRow no y2]) ++ (oo ++ [tRow c o2])) ++ ((yb ++ [tRow n0 y]) ++ (ob ++ [tRow n1 o]))))
    (A : JT T nk c mk yk y1 okk o1) (a : T (tRow nk y1) hk) (B : JT T no c mo yo y2 oo o2) (jt : JT T n0 n1 mb yb y ob o) (h1 : 1 ≤ c) (hc : c ≤ n1)
    (h : (nk = n0 ∧ no = n1 ∧ y2 = o ∧ T (tRow n0 y) hk) ∨ (nk = n1 ∧ no = n0 ∧ y2 = y ∧ T (tRow n1 o) hk)) : o1 = o2 := by
  rcases h with ⟨rfl, rfl, rfl, h⟩ | ⟨rfl, rfl, rfl, h⟩
  · have e1 := tRow_inj (I (tRow nk y1) (by simp) (tRow nk y) (by simp) _ a h)
    subst e1
    refine jt.trans F h1 hc A B (I.sub fun x hx => ?_)
    simp only [List.mem_append] at hx ⊢
    rcases hx with ((hx | hx) | (hx | hx)) | (hx | hx)
    · exact .inl (.inl (.inl (.inl hx)))
    · exact .inl (.inl (.inr (.inl hx)))
    · exact .inl (.inr (.inl (.inl hx)))
    · exact .inl (.inr (.inr (.inl hx)))
    · exact .inr (.inl (.inl hx))
    · exact .inr (.inr (.inl hx))
  · have e1 := tRow_inj (I (tRow nk y1) (by simp) (tRow nk o) (by simp) _ a h)
    subst e1
    refine (jt.trans F h1 hc B A (I.sub fun x hx => ?_)).symm
    simp only [List.mem_append] at hx ⊢
    rcases hx with ((hx | hx) | (hx | hx)) | (hx | hx)
    · exact .inl (.inr (.inl (.inl hx)))
    · exact .inl (.inr (.inr (.inl hx)))
    · exact .inl (.inl (.inl (.inl hx)))
    · exact .inl (.inl (.inr (.inl hx)))
    · exact .inr (.inl (.inl hx))
    · exact .inr (.inr (.inl hx))
abbrev NGw : List Str := ["_law_stamper_here", "_law_script", "_law_tree", "_law_heads", "_law_known", "_law_alias", "_law_way_here", "_law_cell", "_law_k", "_law_count", "_law_last", "_law_marks", "_law_other", "_law_height", "_law_old", "_law_terms", "_law_between", "_law_told_here"]
section
variable {P : Program} {w : World} {K : PySem.W.Frag} {mg : Str → Option Value} {base : Heap}
theorem scGw : FnScope NGw ["_law_stamper_here", "_law_script", "_law_tree", "_law_heads", "_law_known", "_law_alias", "_law_way_here"] (defScope (top 65)) := ⟨rfl, rfl, rfl, by decide +kernel, rfl, by decide +kernel, by decide +kernel⟩
theorem growths_tail (T : Txt K mg) {f : Addr} {cdv : Value} {A : Around} {outer : List Env} {s : Shared} {H : Hp} {E : XK} (hr : Room 24 (A.deeper (envOfC "_law_growths" (defScope (top 65)) s.heap.objs.size f cdv))) :
    ∃ t3, PSs (cxOf CX0 P w K mg base NGw "_law_growths" (defScope (top 65)) f cdv A outer s H E).nox ((defBody (top 65)).drop 8) t3 ∧
      ∀ (g sc ta tb lh kn aa lp mao po : Addr) (way : Int) (cell hv : V) (ov : Option V) (kk : Nat) (t : Tree) (hs : List HdI) (x0 x1 xk xo x2 : HdI) (ps : List V) (mso ms' : List Key) (k : Kd) (T0 : TR) (Q : VK) (H1 : Hp),
        Two hs kk x0 x1 xk xo → hs[2]? = some x2 → TreeAt H1 ta tb t → Hds H1 lh t T0 hs → H1 lp = some (.lst ps) → ps[1 - kk]? = some (.ref mao) → H1 mao = some (.tup (kVs mso)) → GM T0 t 0 xo.2.1 x2.2.1 mso → H1 po = some (.tup (kVs ms')) → ms'.length = howMany xk.2.1 x2.2.1 → (∀ k ∈ ms', Vk k) → ksum ms' ≤ 3000000 →
        SA k g T0 100000 H1 → (way = 3 → Sure k) → (∀ H', Q (.bl true) H') →
        t3 { nx := fun _ H' => Q .non H', rt := Q } [some (.ref g), some (.ref sc), some (.ref ta), some (.ref lh), some (.ref kn), some (.ref aa), some (.int way), some cell, some (.int (kk : Int)), some (.int (xk.2.1 : Int)), some (.int (x2.2.1 : Int)), some (.ref lp), some (.ref po), some hv, ov, none, none, none] H1 := by
  have hz := sizeLine_eq
  have h213 : 2 ^ 13 = 8192 := rfl
  refine ⟨_, pss_cons (ps_set (i := 15) scGw.nd rfl (Or.inl rfl) (pe_op op_cat (pe_cl (ok_grown T) (hr.mono (by decide)) (pa_cons (pv 0) (pa_cons (pv 9) (pa_cons (pv 10) (pa_cons (pv 12) pa_nil)))))
      (pe_cl (ok_grown T) (hr.mono (by decide)) (pa_cons (pv 0) (pa_cons (pe_ix ix_tup (pe_ix ix_list (pv 3) (pe_op op_sub pe_int (pv 8)) (fun _ _ => rfl)) pe_int (fun _ _ => rfl)) (pa_cons (pv 10) (pa_cons (pe_ix ix_list (pv 11) (pe_op op_sub pe_int (pv 8)) (fun _ _ => rfl)) pa_nil)))))))
    (pss_cons (ps_set (i := 16) scGw.nd rfl (Or.inl rfl) (pe_cl (ok_grow T) (hr.mono (by decide)) (pa_cons (pv 0) (pa_cons (pv 2) (pa_cons (pe_ix ix_tup (pe_ix ix_list (pv 3) pe_int (fun _ _ => rfl)) pe_int (fun _ _ => rfl)) (pa_cons (pe_ix ix_tup (pe_ix ix_list (pv 3) pe_int (fun _ _ => rfl)) pe_int (fun _ _ => rfl)) pa_nil))))))
    (pss_cons (ps_set (i := 15) scGw.nd rfl (Or.inl rfl) (pe_op op_cat (pv 15) (pe_cl (ok_grown T) (hr.mono (by decide)) (pa_cons (pv 0) (pa_cons (pe_ix ix_tup (pe_ix ix_list (pv 3) pe_int (fun _ _ => rfl)) pe_int (fun _ _ => rfl)) (pa_cons (pe_ix ix_tup (pe_ix ix_list (pv 3) pe_int (fun _ _ => rfl)) pe_int (fun _ _ => rfl)) (pa_cons (pv 16) pa_nil)))))))
    (pss_cons (ps_set (i := 17) scGw.nd rfl (Or.inl rfl) (pe_cl (ok_toG T) (hr.mono (by decide)) (pa_cons (pv 0) (pa_cons pe_bl (pa_cons (pe_ix ix_list (pv 3) (pv 8) (fun _ _ => rfl)) (pa_cons (pv 10) (pa_cons (pv 12) pa_nil)))))))
    (pss_one (ps_ret (pe_cl (ok_good T) (hr.mono (by decide)) (pa_cons (pv 0) (pa_cons (pv 15) (pa_cons (pv 17)
      (pa_cons (pe_ix ix_tup (pe_ix ix_list (pv 3) pe_int (fun _ _ => rfl)) pe_int (fun _ _ => rfl)) (pa_cons (pe_cmpR op_eq (pv 6) pe_int (nomark _)) pa_nil)))))))))))
    , fun g sc ta tb lh kn aa lp mao po way cell hv ov kk t hs x0 x1 xk xo x2 ps mso ms' k T0 Q H1 two a2 tr hd hlp hps hmao gmo hpo hml hvm hks sa hS q => ?_⟩
  have hkk : kk ≤ 1 := by rcases two.c with ⟨h, _⟩ | ⟨h, _⟩ <;> omega
  have ek : (1 : Int) - (kk : Int) = ((1 - kk : Nat) : Int) := by omega
  have mk := List.mem_of_getElem? two.ak
  have mo := List.mem_of_getElem? two.ao
  have m0 := List.mem_of_getElem? two.a0
  have m1 := List.mem_of_getElem? two.a1
  have m2 := List.mem_of_getElem? a2
  obtain ⟨pk, nk⟩ := hd.n xk mk
  obtain ⟨po1, no⟩ := hd.n xo mo
  obtain ⟨p0, n0⟩ := hd.n x0 m0
  obtain ⟨p1, n1⟩ := hd.n x1 m1
  obtain ⟨p2, n2⟩ := hd.n x2 m2
  have d01 := hd.dec 0 1 x0 x1 (by omega) two.a0 two.a1
  have d12 := hd.dec 1 2 x1 x2 (by omega) two.a1 a2
  have dk : x2.2.1 ≤ xk.2.1 := hd.dec kk 2 xk x2 (by omega) two.ak a2
  have do_ : x2.2.1 ≤ xo.2.1 := hd.dec (1 - kk) 2 xo x2 (by omega) two.ao a2
  have hwk := howMany_le 13 (n := xk.2.1) (e := x2.2.1) (by omega)
  have hwo := howMany_le 13 (n := xo.2.1) (e := x2.2.1) (by omega)
  have hent := tr.le
  have hsp2 : t.s1 = 0 + x2.2.1 - 1 ∨ t.s2 = 0 + x2.2.1 - 1 := by
    have := hd.sp 2 x2 (by omega) a2
    omega
  refine ⟨_, rfl, _, rfl, _, rfl, _, rfl, ?_⟩
  refine ⟨g, po, xk.2.1, x2.2.1, ms', k, T0, 80000, rfl, by omega, dk, by omega, hpo, hml, hvm, by omega, sa.le (by omega), fun l1 bs1 yk okk y1 o1 T1 H2 sa1 le1 kp1 _ hl1 ht1 ok1 hb1 jt1 => ?_⟩
  have hd1 := hd.mono kp1 le1
  have tr1 := tr.kp kp1
  have gmo1 := gmo.mono le1
  obtain ⟨hko, hvo⟩ := gmo1.bd sa1.bd sa1.vd tr1.ok (by omega)
  have hlo : mso.length = howMany xo.2.1 x2.2.1 := gmo.len (by omega)
  have hmao1 := kp1.tup hmao
  refine ⟨_, rfl, _, rfl, _, rfl, _, _, rfl, rfl, lh, _, _, _, rfl, rfl, SqL.of hd1.l, atI_nat (j := 1 - kk) ek (hv_at two.ao), xo.1, _, _, _, rfl, rfl, SqT.of (hd1.at_ xo mo), at_of (j := 0) rfl rfl, _, rfl, _, rfl, _, rfl, _, _, rfl, rfl, lp, _, _, _, rfl, rfl, SqL.of (kp1.lst hlp), atI_nat (j := 1 - kk) ek hps, ?_⟩
  refine ⟨g, mao, xo.2.1, x2.2.1, mso, k, T1, 60000, rfl, by omega, do_, by omega, hmao1, hlo, hvo, by omega, sa1.le (by omega), fun l2 bs2 yo oo y2 o2 T2 H3 sa2 le2 kp2 _ hl2 ht2 ok2 hb2 jt2 => ?_⟩
  refine ⟨l1, l2, _, _, rfl, rfl, kp2.lst hl1, hl2, by rw [List.length_map, List.length_map]; omega, fun l3 hl3 => ?_⟩
  have k3 : Kp H3 (upd H3 l3 (.lst (bs1.map V.ref ++ bs2.map V.ref))) := (Kp.refl H3).new hl3 _
  have kp13 := (kp1.trans kp2).trans k3
  have le12 : LeT T0 T2 := fun _ _ h => le2 _ _ (le1 _ _ h)
  have hd3 := hd.mono kp13 le12
  have tr3 := tr.kp kp13
  have sa3 := sa2.new hl3 (.lst (bs1.map V.ref ++ bs2.map V.ref))
  refine ⟨_, rfl, _, rfl, _, rfl, lh, _, _, _, rfl, rfl, SqL.of hd3.l, at_of (j := 0) rfl (hv_at two.a0), x0.1, _, _, _, rfl, rfl, SqT.of (hd3.at_ x0 m0), at_of (j := 0) rfl rfl, _, rfl, lh, _, _, _, rfl, rfl, SqL.of hd3.l, at_of (j := 1) rfl (hv_at two.a1), x1.1, _, _, _, rfl, rfl, SqT.of (hd3.at_ x1 m1), at_of (j := 0) rfl rfl, ?_⟩
  refine ⟨g, ta, tb, x0.2.1, x1.2.1, t, k, T2, 40000, rfl, by omega, d01, by omega, tr3, sa3.le (by omega), fun ma mg T4 H5 sa4 le4 kp4 hma gm => ?_⟩
  have hd4 := hd3.mono kp4 le4
  have tr4 := tr3.kp kp4
  obtain ⟨hkg, hvg⟩ := gm.bd sa4.bd sa4.vd tr4.ok (by omega)
  have hgl : mg.length = howMany x0.2.1 x1.2.1 := gm.len (by omega)
  have hgl2 := howMany_le 13 (n := x0.2.1) (e := x1.2.1) (by omega)
  have hsp : t.s1 = 0 + x1.2.1 - 1 ∨ t.s2 = 0 + x1.2.1 - 1 := by
    have := hd.sp 1 x1 (by omega) two.a1
    omega
  have hl3' : H5 l3 = some (.lst (bs1.map V.ref ++ bs2.map V.ref)) := kp4.lst upd_same
  refine ⟨_, rfl, _, rfl, _, rfl, lh, _, _, _, rfl, rfl, SqL.of hd4.l, at_of (j := 0) rfl (hv_at two.a0), x0.1, _, _, _, rfl, rfl, SqT.of (hd4.at_ x0 m0), at_of (j := 0) rfl rfl, _, rfl, lh, _, _, _, rfl, rfl, SqL.of hd4.l, at_of (j := 1) rfl (hv_at two.a1), x1.1, _, _, _, rfl, rfl, SqT.of (hd4.at_ x1 m1), at_of (j := 0) rfl rfl, _, rfl, ?_⟩
  refine ⟨g, ma, x0.2.1, x1.2.1, mg, k, T4, 20000, rfl, by omega, d01, by omega, hma, hgl, hvg, by omega, sa4.le (by omega), fun l5 bs5 yts ots y o T5 H6 sa5 le5 kp5 _ hl5 ht5 ok5 hb5 jt5 => ?_⟩
  have hl3'' := kp5.lst hl3'
  refine ⟨l3, l5, _, _, rfl, rfl, hl3'', hl5, by rw [List.length_append, List.length_map, List.length_map, List.length_map]; omega, fun l6 hl6 => ?_⟩
  have k6 : Kp H6 (upd H6 l6 (.lst (bs1.map V.ref ++ bs2.map V.ref ++ bs5.map V.ref))) := (Kp.refl H6).new hl6 _
  have kp46 := (kp4.trans kp5).trans k6
  have kp16 := kp13.trans kp46
  have le45 : LeT T2 T5 := fun _ _ h => le5 _ _ (le4 _ _ h)
  have le15 : LeT T1 T5 := fun _ _ h => le45 _ _ (le2 _ _ h)
  have le05 : LeT T0 T5 := fun _ _ h => le15 _ _ (le1 _ _ h)
  have hd6 := hd.mono kp16 le05
  have tr6 := tr.kp kp16
  have sa6 := sa5.new hl6 (.lst (bs1.map V.ref ++ bs2.map V.ref ++ bs5.map V.ref))
  have hall : TsAt (upd H6 l6 (.lst (bs1.map V.ref ++ bs2.map V.ref ++ bs5.map V.ref))) (bs1 ++ bs2 ++ bs5) (((yk ++ [tRow xk.2.1 y1]) ++ (okk ++ [tRow x2.2.1 o1])) ++ ((yo ++ [tRow xo.2.1 y2]) ++ (oo ++ [tRow x2.2.1 o2])) ++ ((yts ++ [tRow x0.2.1 y]) ++ (ots ++ [tRow x1.2.1 o]))) :=
    ((ht1.kp ((kp2.trans k3).trans kp46)).app (ht2.kp (k3.trans kp46))).app (ht5.kp k6)
  have hokall : ∀ t' ∈ ((yk ++ [tRow xk.2.1 y1]) ++ (okk ++ [tRow x2.2.1 o1])) ++ ((yo ++ [tRow xo.2.1 y2]) ++ (oo ++ [tRow x2.2.1 o2])) ++ ((yts ++ [tRow x0.2.1 y]) ++ (ots ++ [tRow x1.2.1 o])), OkT t' := fun t' h =>
    (List.mem_append.mp h).elim (fun h => (List.mem_append.mp h).elim (ok1 t') (ok2 t')) (ok5 t')
  have hlall : (((yk ++ [tRow xk.2.1 y1]) ++ (okk ++ [tRow x2.2.1 o1])) ++ ((yo ++ [tRow xo.2.1 y2]) ++ (oo ++ [tRow x2.2.1 o2])) ++ ((yts ++ [tRow x0.2.1 y]) ++ (ots ++ [tRow x1.2.1 o]))).length ≤ 600 := by
    rw [← hall.len, List.length_append, List.length_append]; omega
  have hl6' : (upd H6 l6 (.lst (bs1.map V.ref ++ bs2.map V.ref ++ bs5.map V.ref))) l6 = some (.lst ((bs1 ++ bs2 ++ bs5).map V.ref)) := by rw [upd_same, List.map_append, List.map_append]
  -- what the told answer means
  have meaning : ∀ {T7 : TR}, LeT T5 T7 → Fn T7 → T7 (tRow xk.2.1 y1) xk.2.2 → ∀ {s' : Key}, T7 (tRow x2.2.1 o1) s' → InjOn T7 (((yk ++ [tRow xk.2.1 y1]) ++ (okk ++ [tRow x2.2.1 o1])) ++ ((yo ++ [tRow xo.2.1 y2]) ++ (oo ++ [tRow x2.2.1 o2])) ++ ((yts ++ [tRow x0.2.1 y]) ++ (ots ++ [tRow x1.2.1 o]))) → s' = x2.2.2 := fun {T7} l F rk {s'} rs I => by
    have l1 : LeT T1 T7 := fun _ _ h => l _ _ (le15 _ _ h)
    have l2 : LeT T2 T7 := fun _ _ h => l _ _ (le45 _ _ h)
    have l4 : LeT T4 T7 := fun _ _ h => l _ _ (le5 _ _ h)
    have hd7 := hd6.mono (Kp.refl _) l
    have jt7 := jt5.mono l
    obtain ⟨gy, go⟩ := (gm.mono l4).top (by omega) hsp jt7
    obtain ⟨gy2, go2⟩ := (gmo1.mono l1).top (by omega) hsp2 (jt2.mono l2)
    have e1 : o1 = o2 := by
      refine growths_math F (hk := xk.2.2) I (jt1.mono l1) rk (jt2.mono l2) jt7 (by omega) d12 ?_
      rcases two.c with ⟨_, rfl, rfl⟩ | ⟨_, rfl, rfl⟩
      · exact .inl ⟨rfl, rfl, gy2.uniq F go, hd7.row F mk gy⟩
      · exact .inr ⟨rfl, rfl, gy2.uniq F gy, hd7.row F mk go⟩
    subst e1
    exact hd7.mark F m2 go2 rs
  refine ⟨_, rfl, _, rfl, _, rfl, lh, _, _, _, rfl, rfl, SqL.of hd6.l, at_of (j := kk) rfl (hv_at two.ak), _, rfl, _, rfl, ?_⟩
  have fin : ∀ (q1 : Addr) (tt : Term) (T7 : TR) (H7 : Hp), SA k g T7 10000 H7 → Kp (upd H6 l6 (.lst (bs1.map V.ref ++ bs2.map V.ref ++ bs5.map V.ref))) H7 → LeT T5 T7 → H7 q1 = some (.tup (kVs tt)) → (∀ k ∈ tt, Vk k) → (∀ T', LeT T7 T' → Fn T' → InjOn T' (((yk ++ [tRow xk.2.1 y1]) ++ (okk ++ [tRow x2.2.1 o1])) ++ ((yo ++ [tRow xo.2.1 y2]) ++ (oo ++ [tRow x2.2.1 o2])) ++ ((yts ++ [tRow x0.2.1 y]) ++ (ots ++ [tRow x1.2.1 o]))) → tt = [.inr "broken"] ∨ tt = [.inr "told", x2.2.2]) →
      spGood [.ref g, .ref l6, .ref q1, kV x2.2.2, .bl (decide (V.int way = V.int 3))] H7 Q E0 := fun q1 tt T7 H7 sa7 kp7 le7 hq1 hvt hC =>
    ⟨g, l6, q1, bs1 ++ bs2 ++ bs5, _, tt, x2.2.2, decide (V.int way = V.int 3), k, T7, 100, rfl, kp7.lst hl6', hall.kp kp7, hokall, by omega, hq1, hvt, (hd6.mono kp7 le7).vk sa7.vd m2, sa7.le (by omega), fun h => hS (by have := of_decide_eq_true h; injection this), hC, q⟩
  have last : ∀ (q1 : Addr) (H7 : Hp) (T7 : TR), Kp (upd H6 l6 (.lst (bs1.map V.ref ++ bs2.map V.ref ++ bs5.map V.ref))) H7 → LeT T5 T7 → spGood [.ref g, .ref l6, .ref q1, kV x2.2.2, .bl (decide (V.int way = V.int 3))] H7 Q E0 →
      tCl spGood (tCons (tVar 0) (tCons (tVar 15) (tCons (tVar 17) (tCons (tOp (rIxT K) (tOp (rIxL K) (tVar 3) (tC (.int 2))) (tC (.int 1))) (tCons (tOp rEq (tVar 6) (tC (.int 3))) tNil)))))
        [some (.ref g), some (.ref sc), some (.ref ta), some (.ref lh), some (.ref kn), some (.ref aa), some (.int way), some cell, some (.int (kk : Int)), some (.int (xk.2.1 : Int)), some (.int (x2.2.1 : Int)), some (.ref lp), some (.ref po), some hv, ov, some (.ref l6), some (.ref ma), some (.ref q1)] H7 Q := fun q1 H7 T7 kp7 le7 hq => by
    have hd7 := hd6.mono kp7 le7
    exact ⟨_, rfl, _, rfl, _, rfl, _, rfl, lh, _, _, _, rfl, rfl, SqL.of hd7.l, at_of (j := 2) rfl (hv_at a2), x2.1, _, _, _, rfl, rfl, SqT.of (hd7.at_ x2 m2), at_of (j := 1) rfl rfl, _, rfl, rfl, hq⟩
  refine ⟨g, xk.1, po, xk.2.1, x2.2.1, xk.2.2, ms', k, T5, 10000, rfl, hd6.at_ xk mk, hd6.vk sa6.vd mk, by omega, dk, by omega, kp16.tup hpo, hml, hvm, by omega, sa6.le (by omega), fun q1 yts7 ots7 y7 o7 s7 T7 H7 sa7 le7 kp7 hq1 jt7 row7 row8 => ?_, fun q1 yts7 ots7 y7 o7 s7 T7 H7 sa7 le7 kp7 hq1 jt7 row7 hne => ?_⟩
  · obtain ⟨_, e2, _, e3⟩ := jt7.fn sa7.fnT (jt1.mono fun _ _ h => le7 _ _ (le15 _ _ h))
    subst e2 e3
    exact last q1 H7 T7 kp7 le7 (fin q1 [.inr "told", s7] T7 H7 sa7 kp7 le7 hq1 (vk_told (sa7.vd _ _ row8)) fun T' l F I => .inr (by rw [meaning (fun _ _ h => l _ _ (le7 _ _ h)) F (l _ _ row7) (l _ _ row8) I]))
  · exact last q1 H7 T7 kp7 le7 (fin q1 [.inr "broken"] T7 H7 sa7 kp7 le7 hq1 (fun k hk => by rw [List.mem_singleton.mp hk]; exact vk_s (by decide +kernel)) fun T' l F I => .inl rfl)
def spGrowths : Sp := fun vs H Q _ => ∃ (g sc ta tb lh kn aa : Addr) (way : Int) (ns : List Int) (t : Tree) (hs : List HdI) (k : Kd) (T : TR), vs = [.ref g, .ref sc, .ref ta, .ref lh, .ref kn, .ref aa, .int way] ∧ SqL K H sc (iVs ns) ∧ TreeAt H ta tb t ∧ Hds H lh t T hs ∧ SA k g T 200000 H ∧ (way = 3 → Sure k) ∧ (way < 2 → ∃ step, k = .planted kn aa step none) ∧ ∀ H', Q (.bl true) H'
theorem ok_growths (T : Txt K mg) : Pr P w K mg base 25 "_law_growths" ["_law_stamper_here", "_law_script", "_law_tree", "_law_heads", "_law_known", "_law_alias", "_law_way_here"] (spGrowths (K := K)) := by
  refine T.law_growths_.ok scGw (fun vs H Q E h => ?_) (fun f cdv A outer s H vs Q E hr hh => ?_)
  · obtain ⟨_, _, _, _, _, _, _, _, _, _, _, _, _, rfl, _⟩ := h; rfl
  obtain ⟨g, sc, ta, tb, lh, kn, aa, way, ns, t, hs, k, T0, rfl, hsc, tr, hd, sa, hS, hP, q⟩ := hh
  have hz := sizeLine_eq
  obtain ⟨t3, ht3, tail⟩ := growths_tail T (outer := outer) (H := H) (E := E) hr
  refine ⟨_, pss_cons (ps_set (i := 7) scGw.nd rfl (Or.inl rfl) (pe_cl (ok_cell T) (hr.mono (by decide)) (pa_cons (pv 1) (pa_cons pe_int pa_nil))))
    (pss_cons (ps_set (i := 8) scGw.nd rfl (Or.inl rfl) (pe_op op_mod (pe_op op_fdiv (pe_cl (ok_cell T) (hr.mono (by decide)) (pa_cons (pv 1) (pa_cons pe_int pa_nil))) pe_int) pe_int))
    (pss_cons (ps_set (i := 9) scGw.nd rfl (Or.inl rfl) (pe_ix ix_tup (pe_ix ix_list (pv 3) (pv 8) (fun _ _ => rfl)) pe_int (fun _ _ => rfl)))
    (pss_cons (ps_set (i := 10) scGw.nd rfl (Or.inl rfl) (pe_ix ix_tup (pe_ix ix_list (pv 3) pe_int (fun _ _ => rfl)) pe_int (fun _ _ => rfl)))
    (pss_cons (ps_set (i := 11) scGw.nd rfl (Or.inl rfl) (pe_lst (pa_cons (pe_cl (ok_grow T) (hr.mono (by decide)) (pa_cons (pv 0) (pa_cons (pv 2) (pa_cons (pe_ix ix_tup (pe_ix ix_list (pv 3) pe_int (fun _ _ => rfl)) pe_int (fun _ _ => rfl)) (pa_cons (pv 10) pa_nil)))))
      (pa_cons (pe_cl (ok_grow T) (hr.mono (by decide)) (pa_cons (pv 0) (pa_cons (pv 2) (pa_cons (pe_ix ix_tup (pe_ix ix_list (pv 3) pe_int (fun _ _ => rfl)) pe_int (fun _ _ => rfl)) (pa_cons (pv 10) pa_nil))))) pa_nil))))
    (pss_cons (ps_set (i := 12) scGw.nd rfl (Or.inl rfl) (pe_cl (ok_turn T) (hr.mono (by decide)) (pa_cons (pe_op op_mod (pv 7) pe_int) (pa_cons (pe_op op_fdiv (pv 7) pe_int) (pa_cons (pe_ix ix_list (pv 11) (pv 8) (fun _ _ => rfl)) pa_nil)))))
    (pss_cons (ps_set (i := 13) scGw.nd rfl (Or.inl rfl) (pe_op op_mod (pe_cl (ok_cell T) (hr.mono (by decide)) (pa_cons (pv 1) (pa_cons pe_int pa_nil))) (pe_callB call_len_seq (by rfl) T.b_len PySem.boot_len (pa_cons (pe_ix ix_list (pv 11) (pv 8) (fun _ _ => rfl)) pa_nil))))
    (pss_cons (ps_if (pt_cmpR op_lt (pv 6) pe_int (nomark _))
      (pss_cons (ps_set (i := 14) scGw.nd rfl (Or.inl rfl) (pe_cl (ok_grT T) (hr.mono (by decide)) (pa_cons (pv 0) (pa_cons (pv 9) (pa_cons (pv 10) (pa_cons (pe_ix ix_list (pv 11) (pv 8) (fun _ _ => rfl)) (pa_cons (pv 13) pa_nil)))))))
        (pss_one (ps_expr (pe_cl (ok_plant T) (hr.mono (by decide)) (pa_cons (pv 4) (pa_cons (pv 5) (pa_cons (pe_cl (ok_grT T) (hr.mono (by decide)) (pa_cons (pv 0) (pa_cons (pv 9) (pa_cons (pv 10) (pa_cons (pv 12) (pa_cons (pv 13) pa_nil)))))) (pa_cons (pv 14) pa_nil))))))))
      pss_nil) ht3))))))), ?_⟩
  obtain ⟨kk, ekk, hkk⟩ : ∃ kk : Nat, ns.getD 5 0 / 2 % 2 = (kk : Int) ∧ kk ≤ 1 := ⟨(ns.getD 5 0 / 2 % 2).toNat, by omega, by omega⟩
  obtain ⟨x0, x1, xk, xo, two⟩ := Two.of hd.len hkk
  obtain ⟨x2, a2, m2, _⟩ := hd.get (i := 2) (by omega)
  have mk := List.mem_of_getElem? two.ak
  have mo := List.mem_of_getElem? two.ao
  have m0 := List.mem_of_getElem? two.a0
  have m1 := List.mem_of_getElem? two.a1
  obtain ⟨pk, nk⟩ := hd.n xk mk
  obtain ⟨p0, n0⟩ := hd.n x0 m0
  obtain ⟨p1, n1⟩ := hd.n x1 m1
  obtain ⟨p2, n2⟩ := hd.n x2 m2
  have d02 := hd.dec 0 2 x0 x2 (by omega) two.a0 a2
  have d12 := hd.dec 1 2 x1 x2 (by omega) two.a1 a2
  have dk : x2.2.1 ≤ xk.2.1 := hd.dec kk 2 xk x2 (by omega) two.ak a2
  have h213 : 2 ^ 13 = 8192 := rfl
  have hwk := howMany_le 13 (n := xk.2.1) (e := x2.2.1) (by omega)
  have hwp := howMany_pos xk.2.1 x2.2.1
  refine ⟨_, rfl, sc, ns, 6, rfl, hsc, ?_⟩
  refine ⟨_, rfl, sc, ns, 5, rfl, hsc, _, _, rfl, rfl, ⟨by decide, by decide⟩, _, _, rfl, rfl, (by show (0 : Int) < 2; decide), ?_⟩
  dsimp only
  rw [ekk]
  refine ⟨_, rfl, _, rfl, lh, _, _, _, rfl, rfl, SqL.of hd.l, at_of (j := kk) rfl (hv_at two.ak), xk.1, _, _, _, rfl, rfl, SqT.of (hd.at_ xk mk), at_of (j := 0) rfl rfl, ?_⟩
  refine ⟨_, rfl, lh, _, _, _, rfl, rfl, SqL.of hd.l, at_of (j := 2) rfl (hv_at a2), x2.1, _, _, _, rfl, rfl, SqT.of (hd.at_ x2 m2), at_of (j := 0) rfl rfl, ?_⟩
  refine ⟨_, rfl, _, rfl, _, rfl, lh, _, _, _, rfl, rfl, SqL.of hd.l, at_of (j := 0) rfl (hv_at two.a0), x0.1, _, _, _, rfl, rfl, SqT.of (hd.at_ x0 m0), at_of (j := 0) rfl rfl, _, rfl, ?_⟩
  refine ⟨g, ta, tb, x0.2.1, x2.2.1, t, k, T0, 180000, rfl, by omega, d02, by omega, tr, sa.le (by omega), fun pa0 ms0 T1 H1 sa1 le1 kp1 hpap0 pm0 => ?_⟩
  have hd1 := hd.mono kp1 le1
  have tr1 := tr.kp kp1
  refine ⟨_, rfl, _, rfl, _, rfl, lh, _, _, _, rfl, rfl, SqL.of hd1.l, at_of (j := 1) rfl (hv_at two.a1), x1.1, _, _, _, rfl, rfl, SqT.of (hd1.at_ x1 m1), at_of (j := 0) rfl rfl, _, rfl, ?_⟩
  refine ⟨g, ta, tb, x1.2.1, x2.2.1, t, k, T1, 160000, rfl, by omega, d12, by omega, tr1, sa1.le (by omega), fun pa1 ms1 T2 H2 sa2 le2 kp2 hpap1 pm1 => ?_⟩
  refine ⟨(by show 2 ≤ _; omega), fun lp hlp => ?_⟩
  have k3 : Kp H2 (upd H2 lp (.lst [.ref pa0, .ref pa1])) := (Kp.refl H2).new hlp _
  have kp13 := (kp1.trans kp2).trans k3
  have le12 : LeT T0 T2 := fun _ _ h => le2 _ _ (le1 _ _ h)
  have hd3 := hd.mono kp13 le12
  have tr3 := tr.kp kp13
  have sa3 := sa2.new hlp (.lst [.ref pa0, .ref pa1])
  have hlp3 : (upd H2 lp (.lst [.ref pa0, .ref pa1])) lp = some (.lst [.ref pa0, .ref pa1]) := upd_same
  have pap0 := (kp2.trans k3).tup hpap0
  have pap1 := k3.tup hpap1
  have pm0' := pm0.mono le2
  obtain ⟨pak, hpk, msk, papk, pmk⟩ : ∃ pak, [V.ref pa0, V.ref pa1][kk]? = some (.ref pak) ∧ ∃ msk, (upd H2 lp (.lst [.ref pa0, .ref pa1])) pak = some (.tup (kVs msk)) ∧ GM T2 t 0 xk.2.1 x2.2.1 msk := by
    refine pick2 hkk (fun e => ⟨ms0, pap0, ?_⟩) (fun e => ⟨ms1, pap1, ?_⟩)
    · rcases two.c with ⟨_, rfl, _⟩ | ⟨z, _⟩
      · exact pm0'
      · omega
    · rcases two.c with ⟨z, _⟩ | ⟨_, rfl, _⟩
      · omega
      · exact pm1
  obtain ⟨pao, hpo, mso, papo, pmo⟩ : ∃ pao, [V.ref pa0, V.ref pa1][1 - kk]? = some (.ref pao) ∧ ∃ mso, (upd H2 lp (.lst [.ref pa0, .ref pa1])) pao = some (.tup (kVs mso)) ∧ GM T2 t 0 xo.2.1 x2.2.1 mso := by
    refine pick2 (by omega) (fun e => ⟨ms0, pap0, ?_⟩) (fun e => ⟨ms1, pap1, ?_⟩)
    · rcases two.c with ⟨z, _, _⟩ | ⟨_, _, rfl⟩
      · omega
      · exact pm0'
    · rcases two.c with ⟨_, _, rfl⟩ | ⟨z, _⟩
      · exact pm1
      · omega
  obtain ⟨hkm, hvm⟩ := pmk.bd sa3.bd sa3.vd tr3.ok (by omega)
  have hlk : msk.length = howMany xk.2.1 x2.2.1 := pmk.len (by omega)
  refine ⟨_, rfl, _, _, rfl, rfl, (by show (0 : Int) < 5; decide), _, rfl, _, _, rfl, rfl, ⟨by decide, by decide⟩, _, rfl, _, rfl, lp, _, _, _, rfl, rfl, SqL.of hlp3, at_of (j := kk) rfl hpk, ?_⟩
  refine ⟨_, _, pak, msk, rfl, papk, by omega, hvm, by omega, fun po ms' H4 s4 hpap' lk => ?_⟩
  have k4 := Kp.of s4
  have hpak4 := s4 _ _ papk
  have hpao4 := s4 _ _ papo
  have hlp4 := s4 _ _ hlp3
  have hks' := lk.le
  have hsc4 := SqL.kp hsc (kp13.trans k4)
  have sa4 := sa3.same s4
  have hd4 := hd3.mono k4 (fun _ _ h => h)
  have tr4 := tr3.kp k4
  have hm0 := Int.emod_nonneg (ns.getD 7 0) (b := (msk.length : Int)) (by omega)
  have hm1 := Int.emod_lt_of_pos (ns.getD 7 0) (b := (msk.length : Int)) (by omega)
  obtain ⟨hh, ehh⟩ : ∃ hh : Nat, ns.getD 7 0 % (msk.length : Int) = (hh : Int) := ⟨(ns.getD 7 0 % (msk.length : Int)).toNat, by omega⟩
  refine ⟨_, rfl, sc, ns, 7, rfl, hsc4, _, rfl, _, rfl, lp, _, _, _, rfl, rfl, SqL.of hlp4, at_of (j := kk) rfl hpk, pak, _, rfl, .inr (SqT.of hpak4), _, _, rfl, rfl, ?_, ?_⟩
  · rw [List.length_map]; omega
  dsimp only
  rw [show (((kVs msk).length : Nat) : Int) = (msk.length : Int) by rw [List.length_map], ehh]
  refine ⟨_, rfl, _, _, rfl, rfl, _, rfl, ite2 (fun c => ?_) (fun c => ?_)⟩
  · have hw : way < 2 := of_decide_eq_true c
    obtain ⟨step, rfl⟩ := hP hw
    refine ⟨_, rfl, _, rfl, _, rfl, _, rfl, _, rfl, lp, _, _, _, rfl, rfl, SqL.of hlp4, at_of (j := kk) rfl hpk, _, rfl, ?_⟩
    refine ⟨g, pak, xk.2.1, x2.2.1, hh, msk, _, T2, 140000, rfl, by omega, dk, by omega, hpak4, hlk, by omega, hvm, by omega, sa4.le (by omega), fun old tOld T5 H5 sa5 le5 kp5 hold hokO => ?_⟩
    have hpap5 := kp5.tup hpap'
    refine ⟨_, rfl, _, rfl, _, rfl, _, rfl, _, rfl, _, rfl, _, rfl, ?_⟩
    refine ⟨g, po, xk.2.1, x2.2.1, hh, ms', _, T5, 120000, rfl, by omega, dk, by omega, hpap5, by rw [lk.len]; exact hlk, by rw [lk.len]; omega, lk.vk, by omega, sa5.le (by omega), fun nw tNew T6 H6 sa6 le6 kp6 hnew hokN => ?_⟩
    refine ⟨_, rfl, kn, aa, nw, old, g, step, 120000, T6, tNew, tOld, rfl, hnew, kp6.tup hold, sa6, fun k' T7 H7 sa7 le7 kp7 => ?_⟩
    have kpE := (kp5.trans kp6).trans kp7
    have leE : LeT T2 T7 := fun _ _ h => le7 _ _ (le6 _ _ (le5 _ _ h))
    exact tail g sc ta tb lh kn aa lp pao po way _ _ _ kk t hs x0 x1 xk xo x2 _ mso ms' k' T7 Q H7 two a2 (tr4.kp kpE) (hd4.mono kpE leE) (kpE.lst hlp4) hpo (kpE.tup hpao4) (pmo.mono leE) (kpE.tup hpap') (by rw [lk.len]; exact hlk) lk.vk (by omega) (sa7.le (by omega)) (fun z => by omega) q
  · exact tail g sc ta tb lh kn aa lp pao po way _ _ _ kk t hs x0 x1 xk xo x2 _ mso ms' k T2 Q H4 two a2 tr4 hd4 hlp4 hpo hpao4 pmo hpap' (by rw [lk.len]; exact hlk) lk.vk (by omega) (sa4.le (by omega)) hS q
end
end Rs
set_option Elab.async false
set_option linter.all false
set_option maxRecDepth 100000
set_option maxHeartbeats 4000000
/-! Rootstamp, the law. -/
namespace Rs
open PySem PySem.Spec PyProof.Rows L2
abbrev NLw : List Str := ["_law_script", "_law_way_here", "_law_known", "_law_alias", "_law_stamper_here", "_law_count", "_law_elder", "_law_last", "_law_place", "_law_seed", "_law_tree", "_law_heads", "_law_cell", "_law_many"]
def cutI (ns : List Int) : List Int := (ns.drop (HT.sIx ns.length 0 (some 8))).take (HT.sIx ns.length ns.length (some 63) - HT.sIx ns.length 0 (some 8))
theorem cutI_V (ns : List Int) : cutV (iVs ns) (some 8) (some 63) = iVs (cutI ns) := by
  unfold cutV cutI
  rw [List.length_map, ← List.map_drop, ← List.map_take]
theorem cutI_len (ns : List Int) : (cutI ns).length ≤ ns.length := by
  unfold cutI
  rw [List.length_take, List.length_drop]
  omega
theorem sum_nn : ∀ {l : List Int}, (∀ x ∈ l, 0 ≤ x) → 0 ≤ l.sum
  | [], _ => Int.le_refl 0
  | x :: l, h => by
    have a := h x (List.mem_cons_self ..)
    have b := sum_nn (l := l) fun y hy => h y (List.mem_cons_of_mem _ hy)
    rw [List.sum_cons]
    omega
section
variable {P : Program} {w : World} {K : PySem.W.Frag} {mg : Str → Option Value} {base : Heap} {Pw Pc Pk Pp : Addr}
theorem scLw : FnScope NLw ["_law_script"] (defScope (top 66)) := ⟨rfl, rfl, rfl, by decide +kernel, rfl, by decide +kernel, by decide +kernel⟩
def spLaw (K : PySem.W.Frag) (Pw Pc Pk Pp : Addr) : Sp := fun vs H Q _ => ∃ (a : Addr) (ns : List Int), vs = [.ref a] ∧ SqL K H a (iVs ns) ∧ ns.length ≤ 63 ∧ H Pw = some (.tbl #[]) ∧ H Pc = some (.tbl #[]) ∧ H Pk = some (.tbl #[]) ∧ H Pp = some (.tbl #[]) ∧ ∀ H', Q (.bl true) H'
theorem SqL.ext1 {H H' : Hp} {a : Addr} {xs : List V} (h : SqL K H a xs) (e : LamX.ExtN H H') : SqL K H' a xs := by
  rcases h with (h | ⟨o, h⟩) | h
  · exact .inl (.inl (e _ _ h (fun _ z => nomatch z)))
  · exact .inl (.inr ⟨o, e _ _ h (fun _ z => nomatch z)⟩)
  · exact .inr h
/-- the law's heads, as they are made -/
structure HdUp (H : Hp) (D : Addr) (t : Tree) (T : TR) (hs : List HdI) : Prop where
  l : H D = some (.lst (hs.map fun h => V.ref h.1))
  at_ : ∀ h ∈ hs, HeadAt H h.1 h.2.1 h.2.2
  top : ∀ h ∈ hs, ∃ s, Top T t 0 h.2.1 s ∧ T (tRow h.2.1 s) h.2.2
theorem law_tail (T : Txt K mg) {f : Addr} {cdv : Value} {A : Around} {outer : List Env} {s : Shared} {H : Hp} {E : XK} (hr : Room 26 (A.deeper (envOfC "law" (defScope (top 66)) s.heap.objs.size f cdv))) :
    ∃ t3, PSs (cxOf CX0 P w K mg base NLw "law" (defScope (top 66)) f cdv A outer s H E).nox ((defBody (top 66)).drop 8) t3 ∧
      ∀ (sc kn aa g : Addr) (way : Int) (ns : List Int) (n0 n1 n2 p : Nat) (k : Kd) (T0 : TR) (Q : VK) (H1 : Hp), SqL K H1 sc (iVs ns) → ns.length ≤ 63 → 1 ≤ n2 → n2 ≤ n1 → n1 ≤ n0 → n0 ≤ 4098 → p < n2 → SA k g T0 8000000 H1 → (way = 3 → Sure k) → (way < 2 → ∃ step, k = .planted kn aa step none) → (∀ H', Q (.bl true) H') →
        t3 { nx := fun _ H' => Q .non H', rt := Q } [some (.ref sc), some (.int way), some (.ref kn), some (.ref aa), some (.ref g), some (.int (n0 : Int)), some (.int (n1 : Int)), some (.int (n2 : Int)), some (.int (p : Int)), none, none, none, none, none] H1 := by
  have hz := sizeLine_eq
  have h213 : 2 ^ 13 = 8192 := rfl
  have z3 : 3 ≤ sizeLine := by omega
  refine ⟨_, pss_cons (ps_set (i := 9) scLw.nd rfl (Or.inl rfl) (pe_callB (cr_sum (by rfl)) (by rfl) T.b_sum PyProof.Rows.boot_sum (pa_cons (pe_lc (own := [("_law_cell", 12)]) (g := gName 12) (tt := tYes) rfl scLw.nd (pi_list (pe_slice sl_list (pv 0) (po_some pe_int) (po_some pe_int))) (blkOk_by (N := NLw) (sc := defScope (top 66)) (by decide +kernel)) (fun _ _ _ _ _ => pg_name (i := 12) scLw.nd rfl (Or.inl rfl)) (fun _ _ _ _ _ => pts_nil)
      (fun _ _ _ _ _ => pe_op op_mod (pv 12) (pe_op op_pow pe_int pe_int))) pa_nil)))
    (pss_cons (ps_set (i := 10) scLw.nd rfl (Or.inr rfl) (pe_tup (pa_cons (pv 9) (pa_cons (pe_lst (pa_cons (pv 8) (pa_cons (pe_op op_sub (pv 6) pe_int) (pa_cons (pe_op op_sub (pv 7) pe_int) pa_nil)))) (pa_cons (pe_cl (ok_sby T) (hr.mono (by decide)) (pa_cons (pe_cl (ok_cell T) (hr.mono (by decide)) (pa_cons (pv 0) (pa_cons pe_int pa_nil))) pa_nil)) pa_nil)))))
    (pss_cons (ps_setLc (i := 11) (own := [("_law_many", 13)]) (g := gName 13) (tt := tYes) (by rfl) scLw.nd rfl rfl (sw_true rfl rfl rfl (by decide +kernel)) (pi_list (pe_lst (pa_cons (pv 5) (pa_cons (pv 6) (pa_cons (pv 7) pa_nil))))) (blkOk_by (N := NLw) (sc := defScope (top 66)) (by decide +kernel)) (fun _ _ _ _ _ => pg_name (i := 13) scLw.nd rfl (Or.inl rfl)) (fun _ _ _ _ _ => pts_nil)
      (fun _ _ _ _ _ => pe_cl (ok_hd T) (hr.mono (by decide)) (pa_cons (pv 4) (pa_cons (pv 10) (pa_cons (pv 13) pa_nil)))))
    (pss_cons (ps_if (pt_not (pt_val (pe_cl (ok_hon T) (hr.mono (by decide)) (pa_cons (pv 4) (pa_cons (pv 10) (pa_cons (pv 11) (pa_cons (pv 8) pa_nil))))))) (pss_one (ps_ret pe_bl)) pss_nil)
    (pss_cons (ps_if (pt_cmpR op_eq (pe_op op_mod (pe_cl (ok_cell T) (hr.mono (by decide)) (pa_cons (pv 0) (pa_cons pe_int pa_nil))) pe_int) pe_int (nomark _))
      (pss_one (ps_ret (pe_cl (ok_places T) (hr.mono (by decide)) (pa_cons (pv 4) (pa_cons (pv 0) (pa_cons (pv 10) (pa_cons (pv 11) (pa_cons (pv 2) (pa_cons (pv 3) (pa_cons (pv 1) pa_nil)))))))))) pss_nil)
    (pss_one (ps_ret (pe_cl (ok_growths T) (hr.mono (by decide)) (pa_cons (pv 4) (pa_cons (pv 0) (pa_cons (pv 10) (pa_cons (pv 11) (pa_cons (pv 2) (pa_cons (pv 3) (pa_cons (pv 1) pa_nil)))))))))))))),
    fun sc kn aa g way ns n0 n1 n2 p k T0 Q H1 hsc hns h1 h21 h10 h0 hp sa hS hP q => ?_⟩
  -- the seed
  refine ⟨_, rfl, 8, rfl, 63, rfl, sc, _, rfl, hsc, fun lc hlc => ?_⟩
  rw [cutI_V]
  have k1 : Kp H1 (upd H1 lc (.lst (iVs (cutI ns)))) := (Kp.refl H1).new hlc _
  refine ⟨lc, rfl, ⟨_, SqL.of upd_same⟩, fun D hD => lc_list (K := K) (a := lc) (xs := iVs (cutI ns)) (fun i H' => Same (upd H1 lc (.lst (iVs (cutI ns)))) H' ∧ H' D = some (.lst (iVs (((cutI ns).take i).map (· % 10 ^ 30))))) ⟨same_new hD _, upd_same⟩ (fun i H' _ ⟨s, _⟩ => SqL.of (s _ _ upd_same)) ?_ ?_⟩
  · rintro i y H' hi ⟨sm, hL⟩
    rw [List.getElem?_map] at hi
    cases ei : (cutI ns)[i]? with
    | none => rw [ei] at hi; cases hi
    | some z =>
      rw [ei] at hi
      cases hi
      refine ⟨rfl, _, rfl, _, _, rfl, rfl, ⟨by decide, by decide, by decide⟩, _, _, rfl, rfl, (by show (0 : Int) < 10 ^ 30; decide), _, hL, ?_, same_upd hD sm _, ?_⟩
      · rw [List.length_map, List.length_map, List.length_take]
        have := cutI_len ns
        omega
      · rw [List.take_add_one, ei, List.map_append, show iVs (((cutI ns).take i).map (· % 10 ^ 30) ++ ((some z).toList.map (· % 10 ^ 30))) = iVs (((cutI ns).take i).map (· % 10 ^ 30)) ++ [V.int (z % 10 ^ 30)] from List.map_append]
        exact upd_same
  rintro H2 ⟨sm, hL⟩
  have e1 : (cutI ns).take (iVs (cutI ns)).length = cutI ns := by rw [List.length_map, List.take_length]
  rw [e1] at hL
  have k2 := k1.trans (Kp.of sm)
  have sa2 := (sa.new hlc (.lst (iVs (cutI ns)))).same sm
  obtain ⟨seed, eseed⟩ : ∃ seed : Nat, ((cutI ns).map (· % 10 ^ 30)).sum = (seed : Int) := by
    have := sum_nn (l := (cutI ns).map (· % 10 ^ 30)) fun x hx => by
      obtain ⟨y, _, rfl⟩ := List.mem_map.mp hx
      exact Int.emod_nonneg _ (by decide)
    exact ⟨(((cutI ns).map (· % 10 ^ 30)).sum).toNat, by omega⟩
  refine ⟨D, _, rfl, SqL.of hL, ?_⟩
  rw [eseed]
  -- the tree
  have en1 : (n1 : Int) - 1 = ((n1 - 1 : Nat) : Int) := by omega
  have en2 : (n2 : Int) - 1 = ((n2 - 1 : Nat) : Int) := by omega
  refine ⟨_, rfl, _, rfl, _, rfl, _, _, rfl, rfl, _, rfl, _, _, rfl, rfl, z3, fun tb htb => ?_⟩
  dsimp only
  rw [en1, en2]
  have k3 : Kp H2 (upd H2 tb (.lst [.int (p : Int), .int ((n1 - 1 : Nat) : Int), .int ((n2 - 1 : Nat) : Int)])) := (Kp.refl H2).new htb _
  have k13 := k2.trans k3
  refine ⟨_, rfl, sc, ns, 8, rfl, SqL.kp hsc k13, ns.getD 8 0, rfl, fun H4 s4 => ?_⟩
  refine ⟨z3, fun ta hta => ?_⟩
  have k4 : Kp H4 (upd H4 ta (.tup [.int (seed : Int), .ref tb, kV (stampBy (ns.getD 8 0))])) := (Kp.refl H4).new hta _
  have k34 := (k3.trans (Kp.of s4)).trans k4
  have k14 := k2.trans k34
  have tr : TreeAt (upd H4 ta (.tup [.int (seed : Int), .ref tb, kV (stampBy (ns.getD 8 0))])) ta tb ⟨seed, p, n1 - 1, n2 - 1, stampBy (ns.getD 8 0), fun n => stampBy (n : Int)⟩ :=
    ⟨upd_same, ((Kp.of s4).trans k4).lst upd_same, fun n => rfl, stampBy_vk _, stampBy_len _⟩
  have sa4 := ((sa2.new htb (.lst [.int (p : Int), .int ((n1 - 1 : Nat) : Int), .int ((n2 - 1 : Nat) : Int)])).same s4).new hta (.tup [.int (seed : Int), .ref tb, kV (stampBy (ns.getD 8 0))])
  -- the heads
  refine ⟨_, rfl, _, rfl, _, rfl, z3, fun al hal => ?_⟩
  have k5 : Kp (upd H4 ta (.tup [.int (seed : Int), .ref tb, kV (stampBy (ns.getD 8 0))])) (upd (upd H4 ta (.tup [.int (seed : Int), .ref tb, kV (stampBy (ns.getD 8 0))])) al (.lst [.int (n0 : Int), .int (n1 : Int), .int (n2 : Int)])) := (Kp.refl _).new hal _
  have sa5 := sa4.new hal (.lst [.int (n0 : Int), .int (n1 : Int), .int (n2 : Int)])
  have k15 := k14.trans k5
  refine ⟨al, rfl, ⟨_, SqL.of upd_same⟩, fun D2 hD2 => lc_list (K := K) (a := al) (xs := nVs [n0, n1, n2]) (fun i H' => i ≤ 3 ∧ ∃ (hs : List HdI) (T1 : TR), hs.map (·.2.1) = [n0, n1, n2].take i ∧ Kp (upd (upd H4 ta (.tup [.int (seed : Int), .ref tb, kV (stampBy (ns.getD 8 0))])) al (.lst [.int (n0 : Int), .int (n1 : Int), .int (n2 : Int)])) H' ∧ LeT T0 T1 ∧ SA k g T1 (7000000 + 10000 * (3 - i)) H' ∧ HdUp H' D2 ⟨seed, p, n1 - 1, n2 - 1, stampBy (ns.getD 8 0), fun n => stampBy (n : Int)⟩ T1 hs)
    ⟨Nat.zero_le _, [], T0, rfl, (Kp.refl _).new hD2 _, fun _ _ h => h, (sa5.new hD2 _).le (by omega), upd_same, (fun _ h => nomatch h), (fun _ h => nomatch h)⟩ (fun i H' _ ⟨_, _, _, _, kp, _⟩ => SqL.of (kp.lst upd_same)) ?_ ?_⟩
  · rintro i y H' hi ⟨hi3, hs, T1, hmap, kp, le, sa6, up⟩
    rw [List.getElem?_map] at hi
    cases ei : [n0, n1, n2][i]? with
    | none => rw [ei] at hi; cases hi
    | some n =>
      rw [ei] at hi
      cases hi
      have hin : i < 3 := (List.getElem?_eq_some_iff.mp ei).1
      have hnn : 1 ≤ n ∧ n ≤ 4098 := by
        have hm := List.mem_of_getElem? ei
        simp only [List.mem_cons, List.not_mem_nil, or_false] at hm
        rcases hm with rfl | rfl | rfl <;> omega
      have hhl : hs.length = i := by
        have := congrArg List.length hmap
        rw [List.length_map, List.length_take] at this
        simp at this
        omega
      have tr6 := (tr.kp k5).kp kp
      refine ⟨rfl, _, rfl, _, rfl, _, rfl, ?_⟩
      refine ⟨g, ta, tb, n, _, k, T1, 7000000 + 10000 * (3 - (i + 1)), rfl, hnn.1, by omega, tr6, sa6.le (by omega), fun hp1 s1 hk1 T2 H7 sa7 le7 kp7 hn7 hh7 top7 row7 => ?_⟩
      have hL7 := kp7.lst up.l
      refine ⟨_, hL7, by rw [List.length_map]; omega, hin, hs ++ [(hp1, n, hk1)], T2, ?_, ?_, fun _ _ h => le7 _ _ (le _ _ h), sa7.lst hL7 _, ?_, ?_, ?_⟩
      · rw [List.map_append, hmap, List.take_add_one, ei]; rfl
      · exact (kp.trans kp7).wr hD2 _
      · rw [upd_same, List.map_append]; rfl
      · intro h hm
        have trL : Tr H7 (upd H7 D2 (.lst (hs.map (fun h => V.ref h.1) ++ [.ref hp1]))) := Tr.lst hL7 _
        rcases List.mem_append.mp hm with hm | hm
        · exact trL.tup (kp7.tup (up.at_ h hm))
        · rw [List.mem_singleton.mp hm]; exact trL.tup hh7
      · intro h hm
        rcases List.mem_append.mp hm with hm | hm
        · obtain ⟨s0, a0, b0⟩ := up.top h hm
          exact ⟨s0, a0.mono le7, le7 _ _ b0⟩
        · rw [List.mem_singleton.mp hm]; exact ⟨s1, top7, row7⟩
  rintro H6 ⟨_, hs, T1, hmap, kp, le, sa6, up⟩
  have hmap : hs.map (·.2.1) = [n0, n1, n2] := hmap
  have hlen : hs.length = 3 := by
    have := congrArg List.length hmap
    rw [List.length_map] at this
    exact this
  have nat : ∀ (j : Nat) (x : HdI), hs[j]? = some x → [n0, n1, n2][j]? = some x.2.1 := fun j x hx => by rw [← hmap, List.getElem?_map, hx]; rfl
  have hd : Hds H6 D2 ⟨seed, p, n1 - 1, n2 - 1, stampBy (ns.getD 8 0), fun n => stampBy (n : Int)⟩ T1 hs := by
    refine ⟨up.l, hlen, up.at_, fun x hx => ?_, up.top, fun i j a b hij ha hb => ?_, fun j b hj hb => ?_⟩
    · obtain ⟨j, hj⟩ := List.mem_iff_getElem?.mp hx
      have hm := List.mem_of_getElem? (nat j x hj)
      simp only [List.mem_cons, List.not_mem_nil, or_false] at hm
      show p < x.2.1 ∧ x.2.1 ≤ 4098
      omega
    · have e1 := nat i a ha
      have e2 := nat j b hb
      have hi3 : i < 3 := (List.getElem?_eq_some_iff.mp e1).1
      have hj3 : j < 3 := (List.getElem?_eq_some_iff.mp e2).1
      rcases (by omega : i = 0 ∨ i = 1 ∨ i = 2) with rfl | rfl | rfl <;> rcases (by omega : j = 0 ∨ j = 1 ∨ j = 2) with rfl | rfl | rfl <;> simp at e1 e2 <;> omega
    · have e2 := nat j b hb
      have hj3 : j < 3 := (List.getElem?_eq_some_iff.mp e2).1
      show n1 - 1 = b.2.1 - 1 ∨ n2 - 1 = b.2.1 - 1
      rcases (by omega : j = 1 ∨ j = 2) with rfl | rfl <;> simp at e2 <;> omega
  have tr6 := (tr.kp k5).kp kp
  have hsc6 := SqL.kp (SqL.kp hsc k15) kp
  refine ⟨_, rfl, _, rfl, _, rfl, _, rfl, ?_⟩
  refine ⟨g, ta, tb, D2, _, hs, k, T1, 6000000, rfl, tr6, hd, sa6.le (by omega), fun T8 H8 sa8 le8 kp8 => ⟨_, rfl, iteF ?_⟩⟩
  have hd8 := hd.mono kp8 le8
  have tr8 := tr6.kp kp8
  have hsc8 := SqL.kp hsc6 kp8
  refine ⟨_, rfl, sc, ns, 5, rfl, hsc8, _, _, rfl, rfl, (by show (0 : Int) < 2; decide), rfl, _, rfl, ite2 (fun c => ?_) (fun c => ?_)⟩
  · exact ⟨_, rfl, _, rfl, _, rfl, _, rfl, _, rfl, _, rfl, _, rfl, g, sc, ta, tb, D2, kn, aa, way, ns, _, hs, k, T8, rfl, hsc8, tr8, hd8, sa8.le (by omega), hS, hP, q⟩
  · exact ⟨_, rfl, _, rfl, _, rfl, _, rfl, _, rfl, _, rfl, _, rfl, g, sc, ta, tb, D2, kn, aa, way, ns, _, hs, k, T8, rfl, hsc8, tr8, hd8, sa8.le (by omega), hS, hP, q⟩
theorem ok_law (T : Txt K mg) (M : Txm K mg base Pw Pc Pk Pp) {f : Addr} {fd : FuncData} (F : Fun K "law" "law" (top 66) f fd) : FnOk P w K mg base CX0 27 f fd ["_law_script"] (spLaw K Pw Pc Pk Pp) := by
  refine F.ok scLw (fun vs H Q E h => ?_) (fun cdv A outer s H vs Q E hr hh => ?_)
  · obtain ⟨_, _, rfl, _⟩ := h; rfl
  obtain ⟨sc, ns, rfl, hsc, hns, hPw, hPc, hPk, hPp, q⟩ := hh
  obtain ⟨t3, ht3, tail⟩ := law_tail T (outer := outer) (H := H) (E := E) hr
  refine ⟨_, pss_cons (ps_set (i := 1) scLw.nd rfl (Or.inl rfl) (pe_op op_mod (pe_cl (ok_cell T) (hr.mono (by decide)) (pa_cons (pv 0) (pa_cons pe_int pa_nil))) pe_int))
    (pss_cons (ps_set (i := 2) scLw.nd rfl (Or.inl rfl) pe_dnewT)
    (pss_cons (ps_set (i := 3) scLw.nd rfl (Or.inl rfl) pe_dnewT)
    (pss_cons (ps_set (i := 4) scLw.nd rfl (Or.inr rfl) (pe_cl (ok_stamper T M) (hr.mono (by decide)) (pa_cons (pv 1) (pa_cons (pe_op op_fdiv (pe_cl (ok_cell T) (hr.mono (by decide)) (pa_cons (pv 0) (pa_cons pe_int pa_nil))) pe_int) (pa_cons (pv 2) (pa_cons (pv 3) pa_nil))))))
    (pss_cons (ps_set (i := 5) scLw.nd rfl (Or.inl rfl) (pe_cl (ok_count T) (hr.mono (by decide)) (pa_cons (pe_cl (ok_cell T) (hr.mono (by decide)) (pa_cons (pv 0) (pa_cons pe_int pa_nil))) pa_nil)))
    (pss_cons (ps_set (i := 6) scLw.nd rfl (Or.inl rfl) (pe_cl (ok_less T) (hr.mono (by decide)) (pa_cons (pe_cl (ok_cell T) (hr.mono (by decide)) (pa_cons (pv 0) (pa_cons pe_int pa_nil))) (pa_cons (pv 5) pa_nil))))
    (pss_cons (ps_set (i := 7) scLw.nd rfl (Or.inl rfl) (pe_cl (ok_less T) (hr.mono (by decide)) (pa_cons (pe_cl (ok_cell T) (hr.mono (by decide)) (pa_cons (pv 0) (pa_cons pe_int pa_nil))) (pa_cons (pv 6) pa_nil))))
    (pss_cons (ps_set (i := 8) scLw.nd rfl (Or.inl rfl) (pe_op op_mod (pe_cl (ok_cell T) (hr.mono (by decide)) (pa_cons (pv 0) (pa_cons pe_int pa_nil))) (pv 7))) ht3))))))), ?_⟩
  refine ⟨_, rfl, sc, ns, 0, rfl, hsc, _, _, rfl, rfl, (by show (0 : Int) < 4; decide), ?_⟩
  refine fun kn hkn aa haa => ?_
  have e1 : LamX.ExtN H (upd (upd H kn (.dT [])) aa (.dT [])) := fun b o h _ => same_new haa _ _ _ (same_new hkn _ _ _ h)
  have tb : ∀ {p : Addr}, H p = some (.tbl #[]) → (upd (upd H kn (.dT [])) aa (.dT [])) p = some (.tbl #[]) := fun {p} h => same_new haa _ _ _ (same_new hkn _ _ _ h)
  refine ⟨_, rfl, _, rfl, sc, ns, 0, rfl, SqL.ext1 hsc e1, _, _, rfl, rfl, ⟨by decide, by decide⟩, _, rfl, _, rfl, ?_⟩
  refine ⟨_, _, kn, aa, rfl, tb hPw, tb hPc, tb hPk, tb hPp, same_new haa _ _ _ upd_same, upd_same, (fun z => by rw [← z, upd_same] at haa; cases haa), fun g k T0 H1 e2 sa hS hP => ?_⟩
  have hsc1 := SqL.ext1 (SqL.ext1 hsc e1) e2
  refine ⟨_, rfl, sc, ns, 1, rfl, hsc1, _, rfl, fun n0 c1 c2 => ?_⟩
  refine ⟨_, rfl, sc, ns, 2, rfl, hsc1, _, rfl, _, n0, rfl, c1, fun n1 c3 c4 => ?_⟩
  refine ⟨_, rfl, sc, ns, 3, rfl, hsc1, _, rfl, _, n1, rfl, c3, fun n2 c5 c6 => ?_⟩
  refine ⟨_, rfl, sc, ns, 4, rfl, hsc1, _, rfl, _, _, rfl, rfl, (by show (0 : Int) < n2; omega), ?_⟩
  have hm0 := Int.emod_nonneg (ns.getD 4 0) (b := (n2 : Int)) (by omega)
  have hm1 := Int.emod_lt_of_pos (ns.getD 4 0) (b := (n2 : Int)) (by omega)
  obtain ⟨p, ep⟩ : ∃ p : Nat, ns.getD 4 0 % (n2 : Int) = (p : Int) := ⟨(ns.getD 4 0 % (n2 : Int)).toNat, by omega⟩
  dsimp only
  rw [ep]
  exact tail sc kn aa g _ ns n0 n1 n2 p k T0 Q H1 hsc1 hns c5 c6 c4 c2 (by omega) sa hS hP q
end
end Rs
set_option Elab.async false
set_option linter.all false
set_option maxRecDepth 100000
set_option maxHeartbeats 4000000
/-! Rootstamp, the end's facts (printed by gen_e.py). -/
namespace Rs
open PySem PySem.Spec PyProof.Rows L2
/-- a def as it stands in the written heap -/
def Dk (K : PySem.W.Frag) (x : Str) (i : Nat) : Prop := ∃ (f : Addr) (oc : Value) (od : Option Addr) (kV doc pm : Value) (an : Option Addr) (cdv ct : Value) (osl : Array (Option Value)), PySem.W.nsIn K mainGlobals x = some (some (.ref f)) ∧
  K.lookup f = some ⟨oc, od, .func (PySem.W.fnOf x x (defArgs (top i)) (defBody (top i)) (defScope (top i)) .none kV doc pm an cdv ct), osl⟩ ∧ PySem.W.codeIn K cdv x = true ∧ PySem.W.keepIn K (.ref f) = true
theorem dk_mk {K : PySem.W.Frag} {x : Str} {i : Nat} {f : Addr} {oc : Value} {od : Option Addr} {kV doc pm : Value} {an : Option Addr} {cdv ct : Value} {osl : Array (Option Value)} (a : PySem.W.nsIn K mainGlobals x = some (some (.ref f)))
    (l : K.lookup f = some ⟨oc, od, .func (PySem.W.fnOf x x (defArgs (top i)) (defBody (top i)) (defScope (top i)) .none kV doc pm an cdv ct), osl⟩) (c : PySem.W.codeIn K cdv x = true) (k : PySem.W.keepIn K (.ref f) = true) : Dk K x i := ⟨f, oc, od, kV, doc, pm, an, cdv, ct, osl, a, l, c, k⟩
theorem Dk.dn {K : PySem.W.Frag} {x : Str} {i : Nat} {h : Heap} {mg : Str → Option Value} {ps : List Str} (d : Dk K x i) (X : K.In h) (G : h.Ns mainGlobals mg)
    (b : ∀ (kV doc pm : Value) (an : Option Addr) (cdv ct : Value) (us : List Value), us.length = ps.length → bindArgs (PySem.W.fnOf x x (defArgs (top i)) (defBody (top i)) (defScope (top i)) .none kV doc pm an cdv ct) ⟨us, []⟩ = pure (ps.zip us)) : Dn K mg x i ps := by
  obtain ⟨f, oc, od, kV, doc, pm, an, cdv, ct, osl, a, l, c, k⟩ := d
  have F := fun_mk (st := top i) l c k
  exact ⟨f, _, F, PySem.W.mg_of X G a, F.binds b⟩
/-- a maker, its code object at c, that one's table at P -/
def Dq (K : PySem.W.Frag) (x : Str) (i : Nat) (c P : Addr) : Prop := ∃ (f : Addr) (oc : Value) (od : Option Addr) (kV doc pm : Value) (an : Option Addr) (ct : Value) (osl : Array (Option Value)), PySem.W.nsIn K mainGlobals x = some (some (.ref f)) ∧
  K.lookup f = some ⟨oc, od, .func (PySem.W.fnOf x x (defArgs (top i)) (defBody (top i)) (defScope (top i)) .none kV doc pm an (.ref c) ct), osl⟩ ∧ PySem.W.codeIn K (.ref c) x = true ∧ PySem.W.keepIn K (.ref f) = true
theorem dq_mk {K : PySem.W.Frag} {x : Str} {i : Nat} {c P f : Addr} {oc : Value} {od : Option Addr} {kV doc pm : Value} {an : Option Addr} {ct : Value} {osl : Array (Option Value)} (a : PySem.W.nsIn K mainGlobals x = some (some (.ref f)))
    (l : K.lookup f = some ⟨oc, od, .func (PySem.W.fnOf x x (defArgs (top i)) (defBody (top i)) (defScope (top i)) .none kV doc pm an (.ref c) ct), osl⟩) (cc : PySem.W.codeIn K (.ref c) x = true) (k : PySem.W.keepIn K (.ref f) = true) (hc : PySem.W.codeHdIn K c P = true) (nt : K.lookup P = none) :
    Dq K x i c P ∧ PySem.W.codeHdIn K c P = true ∧ K.lookup P = none := ⟨⟨f, oc, od, kV, doc, pm, an, ct, osl, a, l, cc, k⟩, hc, nt⟩
theorem Dq.dm {K : PySem.W.Frag} {x : Str} {i : Nat} {c P : Addr} {h base : Heap} {mg : Str → Option Value} {ps : List Str} (d : Dq K x i c P) (X : K.In h) (G : h.Ns mainGlobals mg) (TB : LamX.TabB base mg c P)
    (b : ∀ (kV doc pm : Value) (an : Option Addr) (cdv ct : Value) (us : List Value), us.length = ps.length → bindArgs (PySem.W.fnOf x x (defArgs (top i)) (defBody (top i)) (defScope (top i)) .none kV doc pm an cdv ct) ⟨us, []⟩ = pure (ps.zip us)) : Dm K mg base x i ps P := by
  obtain ⟨f, oc, od, kV, doc, pm, an, ct, osl, a, l, cc, k⟩ := d
  have F := fun_mk (st := top i) l cc k
  exact ⟨⟨f, c, oc, od, kV, doc, pm, an, ct, osl, l, cc, k, PySem.W.mg_of X G a, F.binds b, TB⟩⟩
/-- the classes -/
structure Ck (K : PySem.W.Frag) (C S : Addr) : Prop where
  aC : PySem.W.nsIn K mainGlobals "Broken" = some (some (.ref C))
  ox : OexC K C
  te : PySem.W.exmOne K (.ref C) (.ref C) = some true
  ini : ∃ (fI : Addr) (oc : Value) (od : Option Addr) (kV doc pm : Value) (an : Option Addr) (cdv ct : Value) (osl : Array (Option Value)), PySem.W.findIn K (.ref C) "__init__" = some (some (.ref fI)) ∧ PySem.W.typeIn K (.ref fI) = some (.type "function") ∧
    K.lookup fI = some ⟨oc, od, .func (PySem.W.fnOf "__init__" "Broken.__init__" (defArgs (inClass (top 6) 0)) (defBody (inClass (top 6) 0)) (defScope (inClass (top 6) 0)) .none kV doc pm an cdv ct), osl⟩ ∧ PySem.W.codeIn K cdv "Broken.__init__" = true ∧ PySem.W.keepIn K (.ref fI) = true
  nD : PySem.W.findIn K (.ref C) "due" = some none
  nC : PySem.W.findIn K (.ref C) "came" = some none
  aS : PySem.W.nsIn K mainGlobals "StampError" = some (some (.ref S))
  rd : PySem.W.readsIn K S (.type "type") = true
  ga : PySem.W.specialIn K (.ref S) "__getattribute__" = some (some (.builtin "type.__getattribute__"))
  vI : PySem.W.findCls K (.ref S) (.type "type") "__init__" = some (.val (.builtin "ValueError.__init__"))
theorem exm_own {K : PySem.W.Frag} {S : Addr} (h1 : PySem.W.subIn K (.ref S) (.type "BaseException") = some true) (h2 : PySem.W.isClsIn K S = true) (h3 : PySem.W.typeIn K (.ref S) = some (.type "type")) (h4 : PySem.W.subIn K (.ref S) (.ref S) = some true) : PySem.W.exmOne K (.ref S) (.ref S) = some true := by
  have e1 : (PySem.W.subIn K (.ref S) (.type "BaseException") == some true) = true := by rw [h1] <;> rfl
  have e2 : ((PySem.W.clsIn K S).isSome && PySem.W.typeIn K (.ref S) == some (.type "type")) = true := by
    have h2' : (PySem.W.clsIn K S).isSome = true := h2
    rw [h2', h3] <;> rfl
  unfold PySem.W.exmOne PySem.W.kitCls
  rw [if_pos e1]
  dsimp only
  rw [if_pos e2]
  exact h4
theorem ck_mk {K : PySem.W.Frag} {C S fI : Addr} {nm q : Str} {N : Addr} {bs bm : List Value} {sn : List Str} {sub : List Value} {ab : Bool} {col : Option Bool} {dd : Option Addr} {m0 m1 m2 m3 m5 : Option Value} {od an : Option Addr} {sl : Array (Option Value)} {oc kV dc pm cd ct : Value}
    (aC : PySem.W.nsIn K mainGlobals "Broken" = some (some (.ref C))) (aS : PySem.W.nsIn K mainGlobals "StampError" = some (some (.ref S)))
    (xL : K.lookup C = some (excClassObj nm q C N bs bm true sn sub ab col dd m0 m1 m2 m3 m5 "ValueError.__new__")) (hb : PySem.HandSPX.refsVE bm = true)
    (sa : PySem.W.findIn K (.ref C) "__setattr__" = some (some (.builtin "object.__setattr__"))) (eC : PySem.W.subIn K (.ref C) (.type "BaseException") = some true) (tC : PySem.W.typeIn K (.ref C) = some (.type "type")) (kC : PySem.W.keepIn K (.ref C) = true) (iC : PySem.W.isClsIn K C = true) (sC : PySem.W.subIn K (.ref C) (.ref C) = some true)
    (a1 : PySem.W.findIn K (.ref C) "__init__" = some (some (.ref fI))) (t1 : PySem.W.typeIn K (.ref fI) = some (.type "function"))
    (l1 : K.lookup fI = some ⟨oc, od, .func (PySem.W.fnOf "__init__" "Broken.__init__" (defArgs (inClass (top 6) 0)) (defBody (inClass (top 6) 0)) (defScope (inClass (top 6) 0)) .none kV dc pm an cd ct), sl⟩) (c1 : PySem.W.codeIn K cd "Broken.__init__" = true) (k1 : PySem.W.keepIn K (.ref fI) = true)
    (nD : PySem.W.findIn K (.ref C) "due" = some none) (nC : PySem.W.findIn K (.ref C) "came" = some none) (rd : PySem.W.readsIn K S (.type "type") = true) (ga : PySem.W.specialIn K (.ref S) "__getattribute__" = some (some (.builtin "type.__getattribute__")))
    (vI : PySem.W.findCls K (.ref S) (.type "type") "__init__" = some (.val (.builtin "ValueError.__init__"))) : Ck K C S :=
  ⟨aC, ⟨⟨nm, q, N, bs, bm, sn, sub, ab, col, dd, m0, m1, m2, m3, m5, xL, hb⟩, sa, eC, tC, kC⟩, exm_own eC iC tC sC, ⟨fI, oc, od, kV, dc, pm, an, cd, ct, sl, a1, t1, l1, c1, k1⟩, nD, nC, aS, rd, ga, vI⟩
/-- all of it -/
structure Kall (K : PySem.W.Frag) (cw cc ck cp Pw Pc Pk Pp C S : Addr) : Prop where
  half_ : Dk K "half" 8
  ways_ : Dk K "ways" 9
  is_whole_ : Dk K "is_whole" 11
  is_stamp_ : Dk K "is_stamp" 12
  is_term_ : Dk K "is_term" 13
  part_written_ : Dk K "part_written" 14
  written_ : Dk K "written" 15
  is_below_ : Dk K "is_below" 17
  is_head_ : Dk K "is_head" 18
  is_marks_ : Dk K "is_marks" 20
  is_place_paper_ : Dk K "is_place_paper" 21
  place_terms_ : Dk K "place_terms" 22
  place_mark_ : Dk K "place_mark" 23
  place_answer_ : Dk K "place_answer" 24
  how_many_ : Dk K "how_many" 26
  joined_ : Dk K "joined" 27
  growth_terms_ : Dk K "growth_terms" 28
  growth_answer_ : Dk K "growth_answer" 29
  clash_ : Dk K "clash" 33
  law_cell_at_ : Dk K "_law_cell_at" 35
  law_text_by_ : Dk K "_law_text_by" 37
  law_stamp_by_ : Dk K "_law_stamp_by" 38
  law_stamper_ : Dk K "_law_stamper" 41
  law_plant_ : Dk K "_law_plant" 42
  law_count_by_ : Dk K "_law_count_by" 43
  law_lesser_ : Dk K "_law_lesser" 44
  law_half_ : Dk K "_law_half" 45
  law_top_ : Dk K "_law_top" 46
  law_head_ : Dk K "_law_head" 47
  law_paper_ : Dk K "_law_paper" 48
  law_growth_ : Dk K "_law_growth" 49
  law_hands_ : Dk K "_law_hands" 50
  law_way_ : Dk K "_law_way" 51
  law_dealt_ : Dk K "_law_dealt" 52
  law_term_ : Dk K "_law_term" 53
  law_place_term_ : Dk K "_law_place_term" 54
  law_growth_term_ : Dk K "_law_growth_term" 55
  law_near_ : Dk K "_law_near" 56
  law_turned_ : Dk K "_law_turned" 57
  law_changed_ : Dk K "_law_changed" 58
  law_is_clash_ : Dk K "_law_is_clash" 59
  law_told_ : Dk K "_law_told" 60
  law_grown_ : Dk K "_law_grown" 61
  law_good_ : Dk K "_law_good" 62
  law_honest_ : Dk K "_law_honest" 63
  law_places_ : Dk K "_law_places" 64
  law_growths_ : Dk K "_law_growths" 65
  law_ : Dk K "law" 66
  writing_ : Dq K "writing" 31 cw Pw ∧ PySem.W.codeHdIn K cw Pw = true ∧ K.lookup Pw = none
  counting_ : Dq K "counting" 32 cc Pc ∧ PySem.W.codeHdIn K cc Pc = true ∧ K.lookup Pc = none
  law_weak_ : Dq K "_law_weak" 39 ck Pk ∧ PySem.W.codeHdIn K ck Pk = true ∧ K.lookup Pk = none
  law_planted_ : Dq K "_law_planted" 40 cp Pp ∧ PySem.W.codeHdIn K cp Pp = true ∧ K.lookup Pp = none
  cls : Ck K C S
  b_len : PySem.W.nsIn K mainGlobals "len" = some none
  b_isinstance : PySem.W.nsIn K mainGlobals "isinstance" = some none
  b_int : PySem.W.nsIn K mainGlobals "int" = some none
  b_bool : PySem.W.nsIn K mainGlobals "bool" = some none
  b_str : PySem.W.nsIn K mainGlobals "str" = some none
  b_tuple : PySem.W.nsIn K mainGlobals "tuple" = some none
  b_list : PySem.W.nsIn K mainGlobals "list" = some none
  b_range : PySem.W.nsIn K mainGlobals "range" = some none
  b_zip : PySem.W.nsIn K mainGlobals "zip" = some none
  b_reversed : PySem.W.nsIn K mainGlobals "reversed" = some none
  b_sum : PySem.W.nsIn K mainGlobals "sum" = some none
theorem Kall.txt {K : PySem.W.Frag} {cw cc ck cp Pw Pc Pk Pp C S : Addr} {h : Heap} {mg : Str → Option Value} (a : Kall K cw cc ck cp Pw Pc Pk Pp C S) (X : K.In h) (G : h.Ns mainGlobals mg) : Txt K mg where
  half_ := a.half_.dn X G (fun _ _ _ _ _ _ us hl => match us, hl with | [_], _ => rfl)
  ways_ := a.ways_.dn X G (fun _ _ _ _ _ _ us hl => match us, hl with | [_, _], _ => rfl)
  is_whole_ := a.is_whole_.dn X G (fun _ _ _ _ _ _ us hl => match us, hl with | [_], _ => rfl)
  is_stamp_ := a.is_stamp_.dn X G (fun _ _ _ _ _ _ us hl => match us, hl with | [_], _ => rfl)
  is_term_ := a.is_term_.dn X G (fun _ _ _ _ _ _ us hl => match us, hl with | [_], _ => rfl)
  part_written_ := a.part_written_.dn X G (fun _ _ _ _ _ _ us hl => match us, hl with | [_], _ => rfl)
  written_ := a.written_.dn X G (fun _ _ _ _ _ _ us hl => match us, hl with | [_], _ => rfl)
  is_below_ := a.is_below_.dn X G (fun _ _ _ _ _ _ us hl => match us, hl with | [_, _], _ => rfl)
  is_head_ := a.is_head_.dn X G (fun _ _ _ _ _ _ us hl => match us, hl with | [_], _ => rfl)
  is_marks_ := a.is_marks_.dn X G (fun _ _ _ _ _ _ us hl => match us, hl with | [_, _], _ => rfl)
  is_place_paper_ := a.is_place_paper_.dn X G (fun _ _ _ _ _ _ us hl => match us, hl with | [_, _], _ => rfl)
  place_terms_ := a.place_terms_.dn X G (fun _ _ _ _ _ _ us hl => match us, hl with | [_, _, _, _], _ => rfl)
  place_mark_ := a.place_mark_.dn X G (fun _ _ _ _ _ _ us hl => match us, hl with | [_, _, _, _], _ => rfl)
  place_answer_ := a.place_answer_.dn X G (fun _ _ _ _ _ _ us hl => match us, hl with | [_, _, _, _], _ => rfl)
  how_many_ := a.how_many_.dn X G (fun _ _ _ _ _ _ us hl => match us, hl with | [_, _], _ => rfl)
  joined_ := a.joined_.dn X G (fun _ _ _ _ _ _ us hl => match us, hl with | [_, _, _, _], _ => rfl)
  growth_terms_ := a.growth_terms_.dn X G (fun _ _ _ _ _ _ us hl => match us, hl with | [_, _, _, _], _ => rfl)
  growth_answer_ := a.growth_answer_.dn X G (fun _ _ _ _ _ _ us hl => match us, hl with | [_, _, _, _], _ => rfl)
  clash_ := a.clash_.dn X G (fun _ _ _ _ _ _ us hl => match us, hl with | [_, _], _ => rfl)
  law_cell_at_ := a.law_cell_at_.dn X G (fun _ _ _ _ _ _ us hl => match us, hl with | [_, _], _ => rfl)
  law_text_by_ := a.law_text_by_.dn X G (fun _ _ _ _ _ _ us hl => match us, hl with | [_], _ => rfl)
  law_stamp_by_ := a.law_stamp_by_.dn X G (fun _ _ _ _ _ _ us hl => match us, hl with | [_], _ => rfl)
  law_stamper_ := a.law_stamper_.dn X G (fun _ _ _ _ _ _ us hl => match us, hl with | [_, _, _, _], _ => rfl)
  law_plant_ := a.law_plant_.dn X G (fun _ _ _ _ _ _ us hl => match us, hl with | [_, _, _, _], _ => rfl)
  law_count_by_ := a.law_count_by_.dn X G (fun _ _ _ _ _ _ us hl => match us, hl with | [_], _ => rfl)
  law_lesser_ := a.law_lesser_.dn X G (fun _ _ _ _ _ _ us hl => match us, hl with | [_, _], _ => rfl)
  law_half_ := a.law_half_.dn X G (fun _ _ _ _ _ _ us hl => match us, hl with | [_], _ => rfl)
  law_top_ := a.law_top_.dn X G (fun _ _ _ _ _ _ us hl => match us, hl with | [_, _, _, _], _ => rfl)
  law_head_ := a.law_head_.dn X G (fun _ _ _ _ _ _ us hl => match us, hl with | [_, _, _], _ => rfl)
  law_paper_ := a.law_paper_.dn X G (fun _ _ _ _ _ _ us hl => match us, hl with | [_, _, _], _ => rfl)
  law_growth_ := a.law_growth_.dn X G (fun _ _ _ _ _ _ us hl => match us, hl with | [_, _, _, _], _ => rfl)
  law_hands_ := a.law_hands_.dn X G (fun _ _ _ _ _ _ us hl => match us, hl with | [_, _], _ => rfl)
  law_way_ := a.law_way_.dn X G (fun _ _ _ _ _ _ us hl => match us, hl with | [_, _], _ => rfl)
  law_dealt_ := a.law_dealt_.dn X G (fun _ _ _ _ _ _ us hl => match us, hl with | [_, _], _ => rfl)
  law_term_ := a.law_term_.dn X G (fun _ _ _ _ _ _ us hl => match us, hl with | [_, _, _, _, _, _], _ => rfl)
  law_place_term_ := a.law_place_term_.dn X G (fun _ _ _ _ _ _ us hl => match us, hl with | [_, _, _, _, _], _ => rfl)
  law_growth_term_ := a.law_growth_term_.dn X G (fun _ _ _ _ _ _ us hl => match us, hl with | [_, _, _, _, _], _ => rfl)
  law_near_ := a.law_near_.dn X G (fun _ _ _ _ _ _ us hl => match us, hl with | [_], _ => rfl)
  law_turned_ := a.law_turned_.dn X G (fun _ _ _ _ _ _ us hl => match us, hl with | [_, _, _], _ => rfl)
  law_changed_ := a.law_changed_.dn X G (fun _ _ _ _ _ _ us hl => match us, hl with | [_, _, _], _ => rfl)
  law_is_clash_ := a.law_is_clash_.dn X G (fun _ _ _ _ _ _ us hl => match us, hl with | [_, _, _], _ => rfl)
  law_told_ := a.law_told_.dn X G (fun _ _ _ _ _ _ us hl => match us, hl with | [_, _, _, _, _], _ => rfl)
  law_grown_ := a.law_grown_.dn X G (fun _ _ _ _ _ _ us hl => match us, hl with | [_, _, _, _], _ => rfl)
  law_good_ := a.law_good_.dn X G (fun _ _ _ _ _ _ us hl => match us, hl with | [_, _, _, _, _], _ => rfl)
  law_honest_ := a.law_honest_.dn X G (fun _ _ _ _ _ _ us hl => match us, hl with | [_, _, _, _], _ => rfl)
  law_places_ := a.law_places_.dn X G (fun _ _ _ _ _ _ us hl => match us, hl with | [_, _, _, _, _, _, _], _ => rfl)
  law_growths_ := a.law_growths_.dn X G (fun _ _ _ _ _ _ us hl => match us, hl with | [_, _, _, _, _, _, _], _ => rfl)
  law_ := a.law_.dn X G (fun _ _ _ _ _ _ us hl => match us, hl with | [_], _ => rfl)
  b_len := PySem.W.mg_none_of X G a.b_len
  b_isinstance := PySem.W.mg_none_of X G a.b_isinstance
  b_int := PySem.W.mg_none_of X G a.b_int
  b_bool := PySem.W.mg_none_of X G a.b_bool
  b_str := PySem.W.mg_none_of X G a.b_str
  b_tuple := PySem.W.mg_none_of X G a.b_tuple
  b_list := PySem.W.mg_none_of X G a.b_list
  b_range := PySem.W.mg_none_of X G a.b_range
  b_zip := PySem.W.mg_none_of X G a.b_zip
  b_reversed := PySem.W.mg_none_of X G a.b_reversed
  b_sum := PySem.W.mg_none_of X G a.b_sum
  brk := by
    obtain ⟨aC, ox, te, ⟨fI, oc, od, kV, dc, pm, an, cd, ct, sl, a1, t1, l1, c1, k1⟩, nD, nC, aS, rd, ga, vI⟩ := a.cls
    have F := fun_mk (st := inClass (top 6) 0) l1 c1 k1
    exact ⟨C, PySem.W.mg_of X G aC, ox, te, ⟨fI, _, F, a1, t1, F.binds (ps := ["self", "due", "came"]) fun _ _ _ _ _ _ us hl => match us, hl with | [_, _, _], _ => rfl⟩, nD, nC, ⟨S, PySem.W.mg_of X G aS, rd, ga, vI⟩⟩
theorem Kall.txm {K : PySem.W.Frag} {cw cc ck cp Pw Pc Pk Pp C S : Addr} {h base : Heap} {mg : Str → Option Value} (a : Kall K cw cc ck cp Pw Pc Pk Pp C S) (X : K.In h) (G : h.Ns mainGlobals mg) (tw : LamX.TabB base mg cw Pw) (tc : LamX.TabB base mg cc Pc) (tk : LamX.TabB base mg ck Pk) (tp : LamX.TabB base mg cp Pp) : Txm K mg base Pw Pc Pk Pp where
  writing_ := a.writing_.1.dm X G tw (fun _ _ _ _ _ _ us hl => match us, hl with | [], _ => rfl)
  counting_ := a.counting_.1.dm X G tc (fun _ _ _ _ _ _ us hl => match us, hl with | [], _ => rfl)
  law_weak_ := a.law_weak_.1.dm X G tk (fun _ _ _ _ _ _ us hl => match us, hl with | [_], _ => rfl)
  law_planted_ := a.law_planted_.1.dm X G tp (fun _ _ _ _ _ _ us hl => match us, hl with | [_, _, _], _ => rfl)
theorem Kall.at_ {l : PySem.W.OpenLaw} {w : World} {K : PySem.W.Frag} {cw cc ck cp Pw Pc Pk Pp C S fa : Addr} {h : Heap} {mg : Str → Option Value} (a : Kall K cw cc ck cp Pw Pc Pk Pp C S) (X : K.In h) (G : h.Ns mainGlobals mg) (hfa : mg "law" = some (.ref fa))
    (hw : h.get? Pw = some { cls := .none, data := .fields #[] }) (hc : h.get? Pc = some { cls := .none, data := .fields #[] }) (hk : h.get? Pk = some { cls := .none, data := .fields #[] }) (hp : h.get? Pp = some { cls := .none, data := .fields #[] }) : LamX.LawAtS l w K CX0 27 63 "_law_script" mg fa h := by
  obtain ⟨f, oc, od, kV, doc, pm, an, cdv, ct, osl, e1, e2, e3, e4⟩ := a.law_
  have e := hfa.symm.trans (PySem.W.mg_of X G e1)
  cases e
  have F := fun_mk (st := top 66) e2 e3 e4
  have four : ∀ {R : Addr × Addr → Prop}, R (cw, Pw) → R (cc, Pc) → R (ck, Pk) → R (cp, Pp) → ∀ p ∈ [(cw, Pw), (cc, Pc), (ck, Pk), (cp, Pp)], R p := fun {R} r1 r2 r3 r4 p hp => by
    simp only [List.mem_cons, List.not_mem_nil, or_false] at hp
    rcases hp with rfl | rfl | rfl | rfl
    · exact r1
    · exact r2
    · exact r3
    · exact r4
  refine ⟨PySem.W.fnOf "law" "law" (defArgs (top 66)) (defBody (top 66)) (defScope (top 66)) .none kV doc pm an cdv ct, [(cw, Pw), (cc, Pc), (ck, Pk), (cp, Pp)], spLaw K Pw Pc Pk Pp, four hw hc hk hp, four a.writing_.2.2 a.counting_.2.2 a.law_weak_.2.2 a.law_planted_.2.2,
    four (PySem.W.codeHd_of_K X a.writing_.2.1) (PySem.W.codeHd_of_K X a.counting_.2.1) (PySem.W.codeHd_of_K X a.law_weak_.2.1) (PySem.W.codeHd_of_K X a.law_planted_.2.1), fun s u => .of_eq rfl,
    fun H b ns hl _ hT hS => ⟨b, ns, rfl, hS, hl, hT (cw, Pw) (by simp), hT (cc, Pc) (by simp), hT (ck, Pk) (by simp), hT (cp, Pp) (by simp), fun _ => rfl⟩, fun base KB GB TB => ?_⟩
  exact ok_law (a.txt KB GB) (a.txm KB GB (TB (cw, Pw) (by simp)) (TB (cc, Pc) (by simp)) (TB (ck, Pk) (by simp)) (TB (cp, Pp) (by simp))) F
end Rs
open PySem PySem.W PyProof.Rows
set_option maxRecDepth 100000 in
set_option maxHeartbeats 0 in
theorem PySem.Challenge.cw_rootstamp_k50_whole_places_and_growths_holds : PySem.Challenge.rw_rootstamp_k50_whole_places_and_growths.Holds := by
  w_on; o_law; k_head; (case hw => w_witness2)
  k_fill
  refine LamX.walk_ofTs (l := PySem.Challenge.rw_rootstamp_k50_whole_places_and_growths) (n := 63) (k := 27) (x := "_law_script") (CX := fun _ => C8.CX0) rfl (by decide) rfl ⟨rfl, by decide, by decide⟩ (fun w h Y => PySem.W.km_in_of Y) ?F (fun _ _ _ _ _ z => z)
  case F =>
    intro w mg fa h Y KX G hmg
    have tabs := PySem.W.km_tabs_of Y
    refine Rs.Kall.at_ (cw := 224) (cc := 231) (ck := 271) (cp := 278) (Pw := 220) (Pc := 227) (Pk := 267) (Pp := 274) (C := 92) (S := 24) ?A KX G hmg (tabs _ (by decide)) (tabs _ (by decide)) (tabs _ (by decide)) (tabs _ (by decide))
    case A =>
      constructor
      case half_ => refine' Rs.dk_mk ?za ?zl ?zc ?zk; (case za => first | rfl | k_is); (case zl => first | rfl | k_is); (case zc => first | rfl | k_is); (case zk => first | rfl | k_is)
      case ways_ => refine' Rs.dk_mk ?za ?zl ?zc ?zk; (case za => first | rfl | k_is); (case zl => first | rfl | k_is); (case zc => first | rfl | k_is); (case zk => first | rfl | k_is)
      case is_whole_ => refine' Rs.dk_mk ?za ?zl ?zc ?zk; (case za => first | rfl | k_is); (case zl => first | rfl | k_is); (case zc => first | rfl | k_is); (case zk => first | rfl | k_is)
      case is_stamp_ => refine' Rs.dk_mk ?za ?zl ?zc ?zk; (case za => first | rfl | k_is); (case zl => first | rfl | k_is); (case zc => first | rfl | k_is); (case zk => first | rfl | k_is)
      case is_term_ => refine' Rs.dk_mk ?za ?zl ?zc ?zk; (case za => first | rfl | k_is); (case zl => first | rfl | k_is); (case zc => first | rfl | k_is); (case zk => first | rfl | k_is)
      case part_written_ => refine' Rs.dk_mk ?za ?zl ?zc ?zk; (case za => first | rfl | k_is); (case zl => first | rfl | k_is); (case zc => first | rfl | k_is); (case zk => first | rfl | k_is)
      case written_ => refine' Rs.dk_mk ?za ?zl ?zc ?zk; (case za => first | rfl | k_is); (case zl => first | rfl | k_is); (case zc => first | rfl | k_is); (case zk => first | rfl | k_is)
      case is_below_ => refine' Rs.dk_mk ?za ?zl ?zc ?zk; (case za => first | rfl | k_is); (case zl => first | rfl | k_is); (case zc => first | rfl | k_is); (case zk => first | rfl | k_is)
      case is_head_ => refine' Rs.dk_mk ?za ?zl ?zc ?zk; (case za => first | rfl | k_is); (case zl => first | rfl | k_is); (case zc => first | rfl | k_is); (case zk => first | rfl | k_is)
      case is_marks_ => refine' Rs.dk_mk ?za ?zl ?zc ?zk; (case za => first | rfl | k_is); (case zl => first | rfl | k_is); (case zc => first | rfl | k_is); (case zk => first | rfl | k_is)
      case is_place_paper_ => refine' Rs.dk_mk ?za ?zl ?zc ?zk; (case za => first | rfl | k_is); (case zl => first | rfl | k_is); (case zc => first | rfl | k_is); (case zk => first | rfl | k_is)
      case place_terms_ => refine' Rs.dk_mk ?za ?zl ?zc ?zk; (case za => first | rfl | k_is); (case zl => first | rfl | k_is); (case zc => first | rfl | k_is); (case zk => first | rfl | k_is)
      case place_mark_ => refine' Rs.dk_mk ?za ?zl ?zc ?zk; (case za => first | rfl | k_is); (case zl => first | rfl | k_is); (case zc => first | rfl | k_is); (case zk => first | rfl | k_is)
      case place_answer_ => refine' Rs.dk_mk ?za ?zl ?zc ?zk; (case za => first | rfl | k_is); (case zl => first | rfl | k_is); (case zc => first | rfl | k_is); (case zk => first | rfl | k_is)
      case how_many_ => refine' Rs.dk_mk ?za ?zl ?zc ?zk; (case za => first | rfl | k_is); (case zl => first | rfl | k_is); (case zc => first | rfl | k_is); (case zk => first | rfl | k_is)
      case joined_ => refine' Rs.dk_mk ?za ?zl ?zc ?zk; (case za => first | rfl | k_is); (case zl => first | rfl | k_is); (case zc => first | rfl | k_is); (case zk => first | rfl | k_is)
      case growth_terms_ => refine' Rs.dk_mk ?za ?zl ?zc ?zk; (case za => first | rfl | k_is); (case zl => first | rfl | k_is); (case zc => first | rfl | k_is); (case zk => first | rfl | k_is)
      case growth_answer_ => refine' Rs.dk_mk ?za ?zl ?zc ?zk; (case za => first | rfl | k_is); (case zl => first | rfl | k_is); (case zc => first | rfl | k_is); (case zk => first | rfl | k_is)
      case clash_ => refine' Rs.dk_mk ?za ?zl ?zc ?zk; (case za => first | rfl | k_is); (case zl => first | rfl | k_is); (case zc => first | rfl | k_is); (case zk => first | rfl | k_is)
      case law_cell_at_ => refine' Rs.dk_mk ?za ?zl ?zc ?zk; (case za => first | rfl | k_is); (case zl => first | rfl | k_is); (case zc => first | rfl | k_is); (case zk => first | rfl | k_is)
      case law_text_by_ => refine' Rs.dk_mk ?za ?zl ?zc ?zk; (case za => first | rfl | k_is); (case zl => first | rfl | k_is); (case zc => first | rfl | k_is); (case zk => first | rfl | k_is)
      case law_stamp_by_ => refine' Rs.dk_mk ?za ?zl ?zc ?zk; (case za => first | rfl | k_is); (case zl => first | rfl | k_is); (case zc => first | rfl | k_is); (case zk => first | rfl | k_is)
      case law_stamper_ => refine' Rs.dk_mk ?za ?zl ?zc ?zk; (case za => first | rfl | k_is); (case zl => first | rfl | k_is); (case zc => first | rfl | k_is); (case zk => first | rfl | k_is)
      case law_plant_ => refine' Rs.dk_mk ?za ?zl ?zc ?zk; (case za => first | rfl | k_is); (case zl => first | rfl | k_is); (case zc => first | rfl | k_is); (case zk => first | rfl | k_is)
      case law_count_by_ => refine' Rs.dk_mk ?za ?zl ?zc ?zk; (case za => first | rfl | k_is); (case zl => first | rfl | k_is); (case zc => first | rfl | k_is); (case zk => first | rfl | k_is)
      case law_lesser_ => refine' Rs.dk_mk ?za ?zl ?zc ?zk; (case za => first | rfl | k_is); (case zl => first | rfl | k_is); (case zc => first | rfl | k_is); (case zk => first | rfl | k_is)
      case law_half_ => refine' Rs.dk_mk ?za ?zl ?zc ?zk; (case za => first | rfl | k_is); (case zl => first | rfl | k_is); (case zc => first | rfl | k_is); (case zk => first | rfl | k_is)
      case law_top_ => refine' Rs.dk_mk ?za ?zl ?zc ?zk; (case za => first | rfl | k_is); (case zl => first | rfl | k_is); (case zc => first | rfl | k_is); (case zk => first | rfl | k_is)
      case law_head_ => refine' Rs.dk_mk ?za ?zl ?zc ?zk; (case za => first | rfl | k_is); (case zl => first | rfl | k_is); (case zc => first | rfl | k_is); (case zk => first | rfl | k_is)
      case law_paper_ => refine' Rs.dk_mk ?za ?zl ?zc ?zk; (case za => first | rfl | k_is); (case zl => first | rfl | k_is); (case zc => first | rfl | k_is); (case zk => first | rfl | k_is)
      case law_growth_ => refine' Rs.dk_mk ?za ?zl ?zc ?zk; (case za => first | rfl | k_is); (case zl => first | rfl | k_is); (case zc => first | rfl | k_is); (case zk => first | rfl | k_is)
      case law_hands_ => refine' Rs.dk_mk ?za ?zl ?zc ?zk; (case za => first | rfl | k_is); (case zl => first | rfl | k_is); (case zc => first | rfl | k_is); (case zk => first | rfl | k_is)
      case law_way_ => refine' Rs.dk_mk ?za ?zl ?zc ?zk; (case za => first | rfl | k_is); (case zl => first | rfl | k_is); (case zc => first | rfl | k_is); (case zk => first | rfl | k_is)
      case law_dealt_ => refine' Rs.dk_mk ?za ?zl ?zc ?zk; (case za => first | rfl | k_is); (case zl => first | rfl | k_is); (case zc => first | rfl | k_is); (case zk => first | rfl | k_is)
      case law_term_ => refine' Rs.dk_mk ?za ?zl ?zc ?zk; (case za => first | rfl | k_is); (case zl => first | rfl | k_is); (case zc => first | rfl | k_is); (case zk => first | rfl | k_is)
      case law_place_term_ => refine' Rs.dk_mk ?za ?zl ?zc ?zk; (case za => first | rfl | k_is); (case zl => first | rfl | k_is); (case zc => first | rfl | k_is); (case zk => first | rfl | k_is)
      case law_growth_term_ => refine' Rs.dk_mk ?za ?zl ?zc ?zk; (case za => first | rfl | k_is); (case zl => first | rfl | k_is); (case zc => first | rfl | k_is); (case zk => first | rfl | k_is)
      case law_near_ => refine' Rs.dk_mk ?za ?zl ?zc ?zk; (case za => first | rfl | k_is); (case zl => first | rfl | k_is); (case zc => first | rfl | k_is); (case zk => first | rfl | k_is)
      case law_turned_ => refine' Rs.dk_mk ?za ?zl ?zc ?zk; (case za => first | rfl | k_is); (case zl => first | rfl | k_is); (case zc => first | rfl | k_is); (case zk => first | rfl | k_is)
      case law_changed_ => refine' Rs.dk_mk ?za ?zl ?zc ?zk; (case za => first | rfl | k_is); (case zl => first | rfl | k_is); (case zc => first | rfl | k_is); (case zk => first | rfl | k_is)
      case law_is_clash_ => refine' Rs.dk_mk ?za ?zl ?zc ?zk; (case za => first | rfl | k_is); (case zl => first | rfl | k_is); (case zc => first | rfl | k_is); (case zk => first | rfl | k_is)
      case law_told_ => refine' Rs.dk_mk ?za ?zl ?zc ?zk; (case za => first | rfl | k_is); (case zl => first | rfl | k_is); (case zc => first | rfl | k_is); (case zk => first | rfl | k_is)
      case law_grown_ => refine' Rs.dk_mk ?za ?zl ?zc ?zk; (case za => first | rfl | k_is); (case zl => first | rfl | k_is); (case zc => first | rfl | k_is); (case zk => first | rfl | k_is)
      case law_good_ => refine' Rs.dk_mk ?za ?zl ?zc ?zk; (case za => first | rfl | k_is); (case zl => first | rfl | k_is); (case zc => first | rfl | k_is); (case zk => first | rfl | k_is)
      case law_honest_ => refine' Rs.dk_mk ?za ?zl ?zc ?zk; (case za => first | rfl | k_is); (case zl => first | rfl | k_is); (case zc => first | rfl | k_is); (case zk => first | rfl | k_is)
      case law_places_ => refine' Rs.dk_mk ?za ?zl ?zc ?zk; (case za => first | rfl | k_is); (case zl => first | rfl | k_is); (case zc => first | rfl | k_is); (case zk => first | rfl | k_is)
      case law_growths_ => refine' Rs.dk_mk ?za ?zl ?zc ?zk; (case za => first | rfl | k_is); (case zl => first | rfl | k_is); (case zc => first | rfl | k_is); (case zk => first | rfl | k_is)
      case law_ => refine' Rs.dk_mk ?za ?zl ?zc ?zk; (case za => first | rfl | k_is); (case zl => first | rfl | k_is); (case zc => first | rfl | k_is); (case zk => first | rfl | k_is)
      case writing_ => refine' Rs.dq_mk ?za ?zl ?zc ?zk ?zhc ?znt; (case za => first | rfl | k_is); (case zl => first | rfl | k_is); (case zc => first | rfl | k_is); (case zk => first | rfl | k_is); (case zhc => first | rfl | k_is); (case znt => first | rfl | k_is)
      case counting_ => refine' Rs.dq_mk ?za ?zl ?zc ?zk ?zhc ?znt; (case za => first | rfl | k_is); (case zl => first | rfl | k_is); (case zc => first | rfl | k_is); (case zk => first | rfl | k_is); (case zhc => first | rfl | k_is); (case znt => first | rfl | k_is)
      case law_weak_ => refine' Rs.dq_mk ?za ?zl ?zc ?zk ?zhc ?znt; (case za => first | rfl | k_is); (case zl => first | rfl | k_is); (case zc => first | rfl | k_is); (case zk => first | rfl | k_is); (case zhc => first | rfl | k_is); (case znt => first | rfl | k_is)
      case law_planted_ => refine' Rs.dq_mk ?za ?zl ?zc ?zk ?zhc ?znt; (case za => first | rfl | k_is); (case zl => first | rfl | k_is); (case zc => first | rfl | k_is); (case zk => first | rfl | k_is); (case zhc => first | rfl | k_is); (case znt => first | rfl | k_is)
      case cls =>
        refine' Rs.ck_mk ?zaC ?zaS ?zxL ?zhb ?zsa ?zeC ?ztC ?zkC ?ziC ?zsC ?za1 ?zt1 ?zl1 ?zc1 ?zk1 ?znD ?znC ?zrd ?zga ?zvI
        (case zaC => first | rfl | k_is); (case zaS => first | rfl | k_is); (case zxL => first | rfl | k_is); (case zhb => first | decide +kernel | rfl | k_is); (case zsa => first | rfl | k_is); (case zeC => first | rfl | k_is); (case ztC => first | rfl | k_is); (case zkC => first | rfl | k_is); (case ziC => first | rfl | k_is); (case zsC => first | rfl | k_is)
        (case za1 => first | rfl | k_is); (case zt1 => first | rfl | k_is); (case zl1 => first | rfl | k_is); (case zc1 => first | rfl | k_is); (case zk1 => first | rfl | k_is); (case znD => first | rfl | k_is); (case znC => first | rfl | k_is); (case zrd => first | rfl | k_is); (case zga => first | rfl | k_is); (case zvI => first | rfl | k_is)
      case b_len => first | rfl | k_is
      case b_isinstance => first | rfl | k_is
      case b_int => first | rfl | k_is
      case b_bool => first | rfl | k_is
      case b_str => first | rfl | k_is
      case b_tuple => first | rfl | k_is
      case b_list => first | rfl | k_is
      case b_range => first | rfl | k_is
      case b_zip => first | rfl | k_is
      case b_reversed => first | rfl | k_is
      case b_sum => first | rfl | k_is
