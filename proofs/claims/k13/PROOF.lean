import PyProof.Rows.All
import Wide.All
import OpenK.AllK
import Wide.FinOn
import HandS.ForMost
import HandS.ForExc
import HandS.More
import HandS.IsInst
import HandS.ExcIs
import HandS.Conv
import KE.SortData
import PySem.Challenge.RW_rimread_k13_whole_turns_judged
import HandS.Codes
set_option Elab.async false
set_option linter.all false
set_option maxRecDepth 100000
set_option maxHeartbeats 4000000
/-! Rim, the plain part: rows of wires, the other end, the corner behind, rounds, what hangs. No program here. -/
namespace Rim

/-! ### turning a function -/
def it {α : Type} (f : α → α) : Nat → α → α
  | 0, a => a
  | n + 1, a => f (it f n a)

theorem it_add {α : Type} (f : α → α) (m : Nat) : ∀ (n : Nat) (a : α), it f (n + m) a = it f n (it f m a)
  | 0, a => by rw [Nat.zero_add]; rfl
  | n + 1, a => by
    rw [Nat.succ_add]
    show f (it f (n + m) a) = f (it f n (it f m a))
    rw [it_add f m n a]

theorem it_succ {α : Type} (f : α → α) (n : Nat) (a : α) : it f (n + 1) a = it f n (f a) := it_add f 1 n a

structure Perms {α : Type} (f : α → α) (S : List α) : Prop where
  into : ∀ c, c ∈ S → f c ∈ S
  inj : ∀ c d, c ∈ S → d ∈ S → f c = f d → c = d

section
variable {α : Type} {f : α → α} {S : List α}

theorem Perms.it_in (P : Perms f S) {c : α} (h : c ∈ S) : ∀ n, it f n c ∈ S
  | 0 => h
  | n + 1 => P.into _ (P.it_in h n)

theorem Perms.it_inj (P : Perms f S) {c d : α} (hc : c ∈ S) (hd : d ∈ S) : ∀ n, it f n c = it f n d → c = d
  | 0, e => e
  | n + 1, e => P.it_inj hc hd n (P.inj _ _ (P.it_in hc n) (P.it_in hd n) e)

theorem Perms.back (P : Perms f S) {c : α} (h : c ∈ S) : ∃ m, 0 < m ∧ m ≤ S.length ∧ it f m c = c := by
  refine Classical.byContradiction fun no => ?_
  have apart : ∀ i j, i < j → j ≤ S.length → it f i c ≠ it f j c := fun i j hij hj e => by
    refine no ⟨j - i, by omega, by omega, ?_⟩
    have e2 : it f j c = it f i (it f (j - i) c) := by
      rw [← it_add]
      congr 1
      omega
    exact (P.it_inj h (P.it_in h _) i (e.trans e2)).symm
  have nd : ((List.range (S.length + 1)).map fun i => it f i c).Nodup := by
    unfold List.Nodup
    rw [List.pairwise_map]
    refine List.Pairwise.imp_of_mem (fun {a b} ha hb lt e => ?_) List.pairwise_lt_range
    exact apart a b lt (by have := List.mem_range.mp hb; omega) e
  have le := nd.length_le_of_subset (l₂ := S) fun x hx => by
    obtain ⟨i, _, rfl⟩ := List.mem_map.mp hx
    exact P.it_in h i
  rw [List.length_map, List.length_range] at le
  omega

/-- the round's length -/
structure Cyc (f : α → α) (c : α) (m : Nat) : Prop where
  pos : 0 < m
  ret : it f m c = c
  least : ∀ k, 0 < k → k < m → it f k c ≠ c

theorem Cyc.uniq {c : α} {m n : Nat} (a : Cyc f c m) (b : Cyc f c n) : m = n := by
  rcases Nat.lt_trichotomy m n with h | h | h
  · exact absurd a.ret (b.least m a.pos h)
  · exact h
  · exact absurd b.ret (a.least n b.pos h)

theorem least_of {p : Nat → Prop} : ∀ n, p n → ∃ m, m ≤ n ∧ p m ∧ ∀ k, k < m → ¬ p k := by
  intro n
  induction n using Nat.strongRecOn with
  | ind n ih =>
    intro h
    by_cases q : ∃ k, k < n ∧ p k
    · obtain ⟨k, hk, pk⟩ := q
      obtain ⟨m, hm, pm, l⟩ := ih k hk pk
      exact ⟨m, by omega, pm, l⟩
    · exact ⟨n, Nat.le_refl _, h, fun k hk pk => q ⟨k, hk, pk⟩⟩

theorem Perms.cyc (P : Perms f S) {c : α} (h : c ∈ S) : ∃ m, m ≤ S.length ∧ Cyc f c m := by
  obtain ⟨m, h0, hl, hr⟩ := P.back h
  obtain ⟨k, hk, ⟨k0, kr⟩, l⟩ := least_of (p := fun m => 0 < m ∧ it f m c = c) m ⟨h0, hr⟩
  exact ⟨k, by omega, k0, kr, fun j j0 jk e => l j jk ⟨j0, e⟩⟩

/-- the first m stations of a round -/
def trip (f : α → α) (c : α) (m : Nat) : List α := (List.range m).map fun i => it f i c
theorem trip_len (f : α → α) (c : α) (m : Nat) : (trip f c m).length = m := by unfold trip; rw [List.length_map, List.length_range]
theorem trip_one (f : α → α) (c : α) : trip f c 1 = [c] := rfl
theorem trip_more (f : α → α) (c : α) (m : Nat) : trip f c (m + 1) = trip f c m ++ [it f m c] := by
  unfold trip
  rw [List.range_succ, List.map_append]
  rfl
theorem mem_trip {c x : α} {m : Nat} : x ∈ trip f c m ↔ ∃ i, i < m ∧ it f i c = x := by
  unfold trip
  rw [List.mem_map]
  exact ⟨fun ⟨i, h, e⟩ => ⟨i, List.mem_range.mp h, e⟩, fun ⟨i, h, e⟩ => ⟨i, List.mem_range.mpr h, e⟩⟩

open Classical in
/-- the round from c on -/
noncomputable def round (f : α → α) (c : α) : List α := if h : ∃ m, Cyc f c m then trip f c (choose h) else []
theorem round_eq {c : α} {m : Nat} (h : Cyc f c m) : round f c = trip f c m := by
  have e : ∃ m, Cyc f c m := ⟨m, h⟩
  unfold round
  rw [dif_pos e, (Classical.choose_spec e).uniq h]

open Classical in
noncomputable def goOn (f : α → α) (acc : List (List α)) (c : α) : List (List α) := if c ∈ acc.flatten then acc else acc ++ [round f c]
noncomputable def rounds (f : α → α) (l : List α) : List (List α) := l.foldl (goOn f) []

theorem goOn_in {acc : List (List α)} {c : α} (h : c ∈ acc.flatten) : goOn f acc c = acc := by unfold goOn; rw [if_pos h]
theorem goOn_out {acc : List (List α)} {c : α} (h : ¬ c ∈ acc.flatten) : goOn f acc c = acc ++ [round f c] := by unfold goOn; rw [if_neg h]
theorem rounds_snoc (l : List α) (c : α) : rounds f (l ++ [c]) = goOn f (rounds f l) c := by unfold rounds; rw [List.foldl_append]; rfl

structure Sofar (f : α → α) (S : List α) (acc : List (List α)) (l : List α) : Prop where
  nd : acc.flatten.Nodup
  sub : ∀ c, c ∈ acc.flatten → c ∈ S
  back : ∀ c, c ∈ S → f c ∈ acc.flatten → c ∈ acc.flatten
  has : ∀ c, c ∈ l → c ∈ acc.flatten

theorem flat_snoc (acc : List (List α)) (r : List α) : (acc ++ [r]).flatten = acc.flatten ++ r := by
  rw [List.flatten_append]
  simp

theorem Sofar.more (P : Perms f S) {acc : List (List α)} {l : List α} (h : Sofar f S acc l) {c : α} (hc : c ∈ S) : Sofar f S (goOn f acc c) (l ++ [c]) := by
  by_cases q : c ∈ acc.flatten
  · rw [goOn_in q]
    refine ⟨h.nd, h.sub, h.back, fun x hx => ?_⟩
    rcases List.mem_append.mp hx with z | z
    · exact h.has x z
    · rw [List.mem_singleton.mp z]; exact q
  · obtain ⟨m, hl, C⟩ := P.cyc hc
    rw [goOn_out q, round_eq C]
    have backs : ∀ i, it f i c ∈ acc.flatten → c ∈ acc.flatten := by
      intro i
      induction i with
      | zero => exact fun z => z
      | succ i ih => exact fun z => ih (h.back _ (P.it_in hc i) z)
    refine ⟨?_, ?_, ?_, ?_⟩
    · rw [flat_snoc]
      refine List.nodup_append.mpr ⟨h.nd, ?_, ?_⟩
      · unfold List.Nodup trip
        rw [List.pairwise_map]
        refine List.Pairwise.imp_of_mem (fun {a b} ha hb lt e => ?_) List.pairwise_lt_range
        have hb' : b < m := List.mem_range.mp hb
        have e2 : it f b c = it f a (it f (b - a) c) := by
          rw [← it_add]
          congr 1
          omega
        exact C.least (b - a) (by omega) (by omega) (P.it_inj hc (P.it_in hc _) a (e.trans e2)).symm
      · rintro a ha b hb rfl
        obtain ⟨i, _, rfl⟩ := mem_trip.mp hb
        exact q (backs i ha)
    · intro x hx
      rw [flat_snoc] at hx
      rcases List.mem_append.mp hx with z | z
      · exact h.sub x z
      · obtain ⟨i, _, rfl⟩ := mem_trip.mp z
        exact P.it_in hc i
    · intro x hx hf
      rw [flat_snoc] at hf ⊢
      rcases List.mem_append.mp hf with z | z
      · exact List.mem_append_left _ (h.back x hx z)
      · refine List.mem_append_right _ ?_
        obtain ⟨i, hi, e⟩ := mem_trip.mp z
        cases i with
        | zero =>
          obtain ⟨k, rfl⟩ : ∃ k, m = k + 1 := ⟨m - 1, by have := C.pos; omega⟩
          refine mem_trip.mpr ⟨k, by omega, ?_⟩
          have e3 : f (it f k c) = f x := (C.ret).trans e
          exact P.inj _ _ (P.it_in hc k) hx e3
        | succ i =>
          refine mem_trip.mpr ⟨i, by omega, ?_⟩
          exact P.inj _ _ (P.it_in hc i) hx e
    · intro x hx
      rw [flat_snoc]
      rcases List.mem_append.mp hx with z | z
      · exact List.mem_append_left _ (h.has x z)
      · rw [List.mem_singleton.mp z]
        exact List.mem_append_right _ (mem_trip.mpr ⟨0, C.pos, rfl⟩)

theorem Sofar.all (P : Perms f S) : ∀ (r : List α) {acc : List (List α)} {l : List α}, Sofar f S acc l → (∀ c, c ∈ r → c ∈ S) → Sofar f S (r.foldl (goOn f) acc) (l ++ r)
  | [], acc, l, h, _ => by rw [List.append_nil]; exact h
  | c :: r, acc, l, h, hs => by
    have q := Sofar.all P r (h.more P (hs c (List.mem_cons_self))) fun x hx => hs x (List.mem_cons_of_mem _ hx)
    rw [List.append_assoc] at q
    exact q

theorem sofar_nil : Sofar f S [] [] := ⟨by simp, by simp, by simp, by simp⟩
theorem rounds_perm (P : Perms f S) (nd : S.Nodup) : (rounds f S).flatten.Perm S := by
  have q := Sofar.all P S (l := []) sofar_nil fun _ h => h
  refine (List.perm_ext_iff_of_nodup q.nd nd).mpr fun a => ⟨q.sub a, fun h => q.has a ?_⟩
  simpa using h
/-- each round's stations lie in S -/
theorem rounds_sub (P : Perms f S) {l : List α} (h : ∀ c, c ∈ l → c ∈ S) : ∀ c, c ∈ (rounds f l).flatten → c ∈ S :=
  (Sofar.all P l (l := []) sofar_nil h).sub
theorem rounds_nd (P : Perms f S) {l : List α} (h : ∀ c, c ∈ l → c ∈ S) : (rounds f l).flatten.Nodup := (Sofar.all P l (l := []) sofar_nil h).nd
end

/-! ### rows of wires -/
abbrev At := Nat × Nat
structure Net where
  np : Nat
  R : List (List Nat)
  M : Nat

def Net.row (N : Net) (p : Nat) : List Nat := N.R.getD p []
/-- the wire at an end -/
def Net.wire (N : Net) (c : At) : Option Nat := (N.row c.1)[c.2]?
def Net.End (N : Net) (c : At) : Prop := c.2 < (N.row c.1).length

structure Net.Ok (N : Net) : Prop where
  p1 : 1 ≤ N.np
  p4 : N.np ≤ 4
  pn : N.np ≤ N.R.length
  n14 : N.R.length ≤ 14
  m15 : N.M ≤ 15
  two : ∀ w, w < N.M → N.R.flatten.count w = 2
  lt : ∀ w, w ∈ N.R.flatten → w < N.M

/-- each end with its wire, from row i on -/
def tag : Nat → List (List Nat) → List (At × Nat)
  | _, [] => []
  | i, r :: R => r.zipIdx.map (fun x => ((i, x.2), x.1)) ++ tag (i + 1) R
theorem tag_snd : ∀ (R : List (List Nat)) (i : Nat), (tag i R).map (·.2) = R.flatten
  | [], _ => rfl
  | r :: R, i => by
    show (r.zipIdx.map (fun x => (((i, x.2) : At), x.1)) ++ tag (i + 1) R).map (·.2) = _
    rw [List.map_append, tag_snd R (i + 1), List.map_map]
    show r.zipIdx.map Prod.fst ++ R.flatten = r ++ R.flatten
    rw [List.zipIdx_map_fst]
theorem mem_tag : ∀ (R : List (List Nat)) (i p k w : Nat), ((p, k), w) ∈ tag i R ↔ i ≤ p ∧ (R.getD (p - i) [])[k]? = some w
  | [], i, p, k, w => by simp [tag]
  | r :: R, i, p, k, w => by
    show ((p, k), w) ∈ r.zipIdx.map (fun x => (((i, x.2) : At), x.1)) ++ tag (i + 1) R ↔ _
    rw [List.mem_append, mem_tag R (i + 1) p k w, List.mem_map]
    constructor
    · rintro (⟨⟨a, b⟩, h, e⟩ | ⟨h1, h2⟩)
      · simp only [Prod.mk.injEq] at e
        obtain ⟨⟨rfl, rfl⟩, rfl⟩ := e
        rw [List.mem_zipIdx_iff_getElem?] at h
        exact ⟨Nat.le_refl _, by simpa using h⟩
      · refine ⟨by omega, ?_⟩
        obtain ⟨d, rfl⟩ : ∃ d, p = i + 1 + d := ⟨p - (i + 1), by omega⟩
        rw [show i + 1 + d - (i + 1) = d by omega] at h2
        rw [show i + 1 + d - i = d + 1 by omega]
        simpa using h2
    · rintro ⟨h1, h2⟩
      by_cases e : p = i
      · subst e
        refine .inl ⟨(w, k), ?_, rfl⟩
        rw [List.mem_zipIdx_iff_getElem?]
        simpa using h2
      · refine .inr ⟨by omega, ?_⟩
        obtain ⟨d, rfl⟩ : ∃ d, p = i + 1 + d := ⟨p - (i + 1), by omega⟩
        rw [show i + 1 + d - (i + 1) = d by omega]
        rw [show i + 1 + d - i = d + 1 by omega] at h2
        simpa using h2
theorem tag_nd : ∀ (R : List (List Nat)) (i : Nat), ((tag i R).map (·.1)).Nodup
  | [], _ => by simp [tag]
  | r :: R, i => by
    show ((r.zipIdx.map (fun x => (((i, x.2) : At), x.1)) ++ tag (i + 1) R).map (·.1)).Nodup
    rw [List.map_append, List.map_map]
    refine List.nodup_append.mpr ⟨?_, tag_nd R (i + 1), ?_⟩
    · show (r.zipIdx.map fun x => ((i, x.2) : At)).Nodup
      have e : (r.zipIdx.map fun x => ((i, x.2) : At)) = (r.zipIdx.map Prod.snd).map fun k => ((i, k) : At) := by
        rw [List.map_map]
        rfl
      rw [e, List.zipIdx_map_snd]
      unfold List.Nodup
      rw [List.pairwise_map]
      refine List.Pairwise.imp (fun {a b} h z => h ?_) (List.nodup_range')
      exact (Prod.mk.inj z).2
    · rintro a ha b hb rfl
      obtain ⟨x, _, e⟩ := List.mem_map.mp ha
      obtain ⟨⟨⟨p, k⟩, w⟩, hy, e2⟩ := List.mem_map.mp hb
      have e1 : i = a.1 := congrArg Prod.fst e
      have e3 : p = a.1 := congrArg Prod.fst e2
      have := ((mem_tag R (i + 1) p k w).mp hy).1
      omega

section
variable {N : Net}
theorem wire_iff {c : At} {w : Nat} : N.wire c = some w ↔ (c, w) ∈ tag 0 N.R := by
  obtain ⟨p, k⟩ := c
  rw [mem_tag]
  simp [Net.wire, Net.row]
theorem end_iff {c : At} : N.End c ↔ ∃ w, N.wire c = some w := by
  unfold Net.End Net.wire
  constructor
  · intro h
    exact ⟨_, List.getElem?_eq_getElem h⟩
  · rintro ⟨w, h⟩
    exact (List.getElem?_eq_some_iff.mp h).1
theorem row_lt {p : Nat} (h : 0 < (N.row p).length) : p < N.R.length := by
  refine Classical.byContradiction fun q => ?_
  unfold Net.row at h
  rw [List.getD_eq_getElem?_getD, List.getElem?_eq_none (by omega)] at h
  simp at h
theorem End.lt {c : At} (h : N.End c) : c.1 < N.R.length := row_lt (Nat.lt_of_le_of_lt (Nat.zero_le _) h)
theorem mem_flat {w : Nat} : w ∈ N.R.flatten ↔ ∃ c, N.wire c = some w := by
  rw [← tag_snd N.R 0, List.mem_map]
  constructor
  · rintro ⟨⟨c, v⟩, h, rfl⟩
    exact ⟨c, wire_iff.mpr h⟩
  · rintro ⟨c, h⟩
    exact ⟨(c, w), wire_iff.mp h, rfl⟩
theorem wire_lt (O : N.Ok) {c : At} {w : Nat} (h : N.wire c = some w) : w < N.M := O.lt w (mem_flat.mpr ⟨c, h⟩)

/-- the ends of one wire -/
def Net.both (N : Net) (w : Nat) : List At := ((tag 0 N.R).filter fun t => t.2 == w).map (·.1)
theorem mem_both {c : At} {w : Nat} : c ∈ N.both w ↔ N.wire c = some w := by
  unfold Net.both
  rw [List.mem_map, wire_iff]
  constructor
  · rintro ⟨⟨d, v⟩, h, rfl⟩
    obtain ⟨h1, h2⟩ := List.mem_filter.mp h
    have e : v = w := by simpa using h2
    rw [← e]; exact h1
  · intro h
    exact ⟨(c, w), List.mem_filter.mpr ⟨h, by simp⟩, rfl⟩
theorem both_nd (w : Nat) : (N.both w).Nodup := by
  unfold Net.both
  exact List.Nodup.sublist (List.Sublist.map _ List.filter_sublist) (tag_nd N.R 0)
theorem both_len (O : N.Ok) {w : Nat} (h : w < N.M) : (N.both w).length = 2 := by
  have e := O.two w h
  rw [← tag_snd N.R 0, List.count_eq_countP, List.countP_map, List.countP_eq_length_filter] at e
  unfold Net.both
  rw [List.length_map]
  exact e
theorem both_two (O : N.Ok) {w : Nat} (h : w < N.M) : ∃ a b, a ≠ b ∧ N.both w = [a, b] := by
  have l := both_len O h
  have nd := both_nd (N := N) w
  revert l nd
  generalize N.both w = L
  intro l nd
  match L, l with
  | [a, b], _ => exact ⟨a, b, by simpa using nd, rfl⟩

open Classical in
/-- the other end of an end's wire -/
noncomputable def Net.mate (N : Net) (c : At) : At := if h : ∃ d, d ≠ c ∧ N.wire d = N.wire c ∧ N.End d then choose h else c
theorem mate_ex (O : N.Ok) {c : At} (h : N.End c) : ∃ d, d ≠ c ∧ N.wire d = N.wire c ∧ N.End d := by
  obtain ⟨w, e⟩ := end_iff.mp h
  obtain ⟨a, b, ne, l⟩ := both_two O (wire_lt O e)
  have hc : c ∈ N.both w := mem_both.mpr e
  have ha : N.wire a = some w := mem_both.mp (by rw [l]; simp)
  have hb : N.wire b = some w := mem_both.mp (by rw [l]; simp)
  rw [l] at hc
  rcases List.mem_cons.mp hc with z | z
  · exact ⟨b, fun q => ne (by rw [q, z]), hb.trans e.symm, end_iff.mpr ⟨w, hb⟩⟩
  · have z := List.mem_singleton.mp z
    exact ⟨a, fun q => ne (by rw [q, z]), ha.trans e.symm, end_iff.mpr ⟨w, ha⟩⟩
theorem mate_spec (O : N.Ok) {c : At} (h : N.End c) : N.mate c ≠ c ∧ N.wire (N.mate c) = N.wire c ∧ N.End (N.mate c) := by
  have e := mate_ex O h
  unfold Net.mate
  rw [dif_pos e]
  exact Classical.choose_spec e
theorem mate_of (O : N.Ok) {c d : At} (h : N.End c) (ne : d ≠ c) (e : N.wire d = N.wire c) : N.mate c = d := by
  obtain ⟨m1, m2, m3⟩ := mate_spec O h
  obtain ⟨w, ew⟩ := end_iff.mp h
  obtain ⟨a, b, nab, l⟩ := both_two O (wire_lt O ew)
  have hc : c ∈ N.both w := mem_both.mpr ew
  have hd : d ∈ N.both w := mem_both.mpr (e.trans ew)
  have hm : N.mate c ∈ N.both w := mem_both.mpr (m2.trans ew)
  rw [l] at hc hd hm
  simp only [List.mem_cons, List.not_mem_nil, or_false] at hc hd hm
  rcases hc with rfl | rfl <;> rcases hd with rfl | rfl <;> rcases hm with z | z <;> first
    | exact z
    | exact absurd z m1
    | exact absurd rfl ne
    | (exact absurd rfl nab)
theorem mate_end (O : N.Ok) {c : At} (h : N.End c) : N.End (N.mate c) := (mate_spec O h).2.2
theorem mate_mate (O : N.Ok) {c : At} (h : N.End c) : N.mate (N.mate c) = c :=
  mate_of O (mate_end O h) (Ne.symm (mate_spec O h).1) (mate_spec O h).2.1.symm
theorem mate_inj (O : N.Ok) {c d : At} (hc : N.End c) (hd : N.End d) (e : N.mate c = N.mate d) : c = d := by
  rw [← mate_mate O hc, e, mate_mate O hd]

/-! ### corners -/
def Net.cc (N : Net) (p : Nat) : Nat := (N.row p).length + (if p < N.np then 1 else 0)
def Net.Cor (N : Net) (c : At) : Prop := c.1 < N.R.length ∧ c.2 < N.cc c.1
def Net.prev (N : Net) (p : Nat) : Nat := if p = 0 then N.np - 1 else p - 1
noncomputable def Net.nx (N : Net) (c : At) : At :=
  if c.2 = (N.row c.1).length then (N.prev c.1, 0)
  else if (N.mate c).1 < N.np then ((N.mate c).1, (N.mate c).2 + 1) else ((N.mate c).1, ((N.mate c).2 + 1) % (N.row (N.mate c).1).length)
theorem nx_rim {c : At} (h : c.2 = (N.row c.1).length) : N.nx c = (N.prev c.1, 0) := by unfold Net.nx; rw [if_pos h]
theorem nx_post {c : At} (h : ¬ c.2 = (N.row c.1).length) (q : (N.mate c).1 < N.np) : N.nx c = ((N.mate c).1, (N.mate c).2 + 1) := by unfold Net.nx; rw [if_neg h, if_pos q]
theorem nx_in {c : At} (h : ¬ c.2 = (N.row c.1).length) (q : ¬ (N.mate c).1 < N.np) : N.nx c = ((N.mate c).1, ((N.mate c).2 + 1) % (N.row (N.mate c).1).length) := by unfold Net.nx; rw [if_neg h, if_neg q]
theorem cc_post {p : Nat} (h : p < N.np) : N.cc p = (N.row p).length + 1 := by unfold Net.cc; rw [if_pos h]
theorem cc_in {p : Nat} (h : ¬ p < N.np) : N.cc p = (N.row p).length := by unfold Net.cc; rw [if_neg h]; rfl
/-- a corner is an end, or a post's last one -/
theorem Cor.cases {c : At} (h : N.Cor c) : N.End c ∨ (c.1 < N.np ∧ c.2 = (N.row c.1).length) := by
  have h2 := h.2
  by_cases q : c.1 < N.np
  · rw [cc_post q] at h2
    by_cases e : c.2 = (N.row c.1).length
    · exact .inr ⟨q, e⟩
    · exact .inl (by unfold Net.End; omega)
  · rw [cc_in q] at h2
    exact .inl h2
theorem End.cor {c : At} (h : N.End c) : N.Cor c := by
  refine ⟨End.lt h, ?_⟩
  unfold Net.cc
  have := h
  unfold Net.End at this
  omega
theorem End.ne {c : At} (h : N.End c) : ¬ c.2 = (N.row c.1).length := by
  unfold Net.End at h
  omega
theorem prev_lt (O : N.Ok) {p : Nat} (h : p < N.np) : N.prev p < N.np := by
  unfold Net.prev
  have := O.p1
  split <;> omega
theorem nx_cor (O : N.Ok) {c : At} (h : N.Cor c) : N.Cor (N.nx c) := by
  rcases Cor.cases h with e | ⟨hp, e⟩
  · have m := mate_end O e
    have ml := End.lt m
    have me : (N.mate c).2 < (N.row (N.mate c).1).length := m
    by_cases q : (N.mate c).1 < N.np
    · rw [nx_post (End.ne e) q]
      refine ⟨ml, ?_⟩
      show (N.mate c).2 + 1 < N.cc (N.mate c).1
      rw [cc_post q]
      omega
    · rw [nx_in (End.ne e) q]
      refine ⟨ml, ?_⟩
      show ((N.mate c).2 + 1) % (N.row (N.mate c).1).length < N.cc (N.mate c).1
      rw [cc_in q]
      exact Nat.mod_lt _ (by omega)
  · rw [nx_rim e]
    have q := prev_lt O hp
    refine ⟨Nat.lt_of_lt_of_le q O.pn, ?_⟩
    show 0 < N.cc (N.prev c.1)
    rw [cc_post q]
    omega
theorem mod_inj {a b n : Nat} (ha : a < n) (hb : b < n) (e : (a + 1) % n = (b + 1) % n) : a = b := by
  by_cases qa : a + 1 = n
  · by_cases qb : b + 1 = n
    · omega
    · rw [qa, Nat.mod_self, Nat.mod_eq_of_lt (by omega : b + 1 < n)] at e
      omega
  · by_cases qb : b + 1 = n
    · rw [qb, Nat.mod_self, Nat.mod_eq_of_lt (by omega : a + 1 < n)] at e
      omega
    · rw [Nat.mod_eq_of_lt (by omega : a + 1 < n), Nat.mod_eq_of_lt (by omega : b + 1 < n)] at e
      omega
theorem nx_inj (O : N.Ok) {c d : At} (hc : N.Cor c) (hd : N.Cor d) (e : N.nx c = N.nx d) : c = d := by
  have two : ∀ {c d : At}, N.End c → d.1 < N.np → d.2 = (N.row d.1).length → N.nx c = N.nx d → False := by
    intro c d hc hp hd e
    rw [nx_rim hd] at e
    have q := prev_lt O hp
    by_cases m : (N.mate c).1 < N.np
    · rw [nx_post (End.ne hc) m] at e
      have := (Prod.mk.inj e).2
      omega
    · rw [nx_in (End.ne hc) m] at e
      have := (Prod.mk.inj e).1
      omega
  rcases Cor.cases hc with ec | ⟨pc, ec⟩
  · rcases Cor.cases hd with ed | ⟨pd, ed⟩
    · refine mate_inj O ec ed ?_
      have mc : (N.mate c).2 < (N.row (N.mate c).1).length := mate_end O ec
      have md : (N.mate d).2 < (N.row (N.mate d).1).length := mate_end O ed
      by_cases qc : (N.mate c).1 < N.np
      · rw [nx_post (End.ne ec) qc] at e
        by_cases qd : (N.mate d).1 < N.np
        · rw [nx_post (End.ne ed) qd] at e
          have e1 := (Prod.mk.inj e).1
          have e2 := (Prod.mk.inj e).2
          exact Prod.ext e1 (by omega)
        · rw [nx_in (End.ne ed) qd] at e
          have e1 := (Prod.mk.inj e).1
          omega
      · rw [nx_in (End.ne ec) qc] at e
        by_cases qd : (N.mate d).1 < N.np
        · rw [nx_post (End.ne ed) qd] at e
          have e1 := (Prod.mk.inj e).1
          omega
        · rw [nx_in (End.ne ed) qd] at e
          have e1 := (Prod.mk.inj e).1
          have e2 := (Prod.mk.inj e).2
          rw [← e1] at md e2
          exact Prod.ext e1 (mod_inj mc md e2)
    · exact (two ec pd ed e).elim
  · rcases Cor.cases hd with ed | ⟨pd, ed⟩
    · exact (two ed pc ec e.symm).elim
    · rw [nx_rim ec, nx_rim ed] at e
      have e1 := (Prod.mk.inj e).1
      have ep : c.1 = d.1 := by
        unfold Net.prev at e1
        split at e1 <;> split at e1 <;> omega
      exact Prod.ext ep (by rw [ec, ed, ep])

/-- the corners of rows 0 .. i - 1 -/
def Net.corsTo (N : Net) (i : Nat) : List At := (List.range i).flatMap fun p => (List.range (N.cc p)).map fun k => (p, k)
abbrev Net.cors (N : Net) : List At := N.corsTo N.R.length
theorem mem_corsTo {i : Nat} {c : At} : c ∈ N.corsTo i ↔ c.1 < i ∧ c.2 < N.cc c.1 := by
  obtain ⟨p, k⟩ := c
  unfold Net.corsTo
  rw [List.mem_flatMap]
  constructor
  · rintro ⟨q, hq, h⟩
    obtain ⟨j, hj, e⟩ := List.mem_map.mp h
    obtain ⟨rfl, rfl⟩ := Prod.mk.inj e
    exact ⟨List.mem_range.mp hq, List.mem_range.mp hj⟩
  · rintro ⟨h1, h2⟩
    exact ⟨p, List.mem_range.mpr h1, List.mem_map.mpr ⟨k, List.mem_range.mpr h2, rfl⟩⟩
theorem mem_cors {c : At} : c ∈ N.cors ↔ N.Cor c := mem_corsTo
theorem corsTo_succ (i : Nat) : N.corsTo (i + 1) = N.corsTo i ++ (List.range (N.cc i)).map fun k => (i, k) := by
  unfold Net.corsTo
  rw [List.range_succ, List.flatMap_append]
  simp
theorem corsTo_nd : ∀ i, (N.corsTo i).Nodup
  | 0 => by simp [Net.corsTo]
  | i + 1 => by
    rw [corsTo_succ]
    refine List.nodup_append.mpr ⟨corsTo_nd i, ?_, ?_⟩
    · unfold List.Nodup
      rw [List.pairwise_map]
      exact List.Pairwise.imp (fun {a b} h z => h (Prod.mk.inj z).2) List.nodup_range
    · rintro a ha b hb rfl
      have h1 := (mem_corsTo.mp ha).1
      obtain ⟨k, _, e⟩ := List.mem_map.mp hb
      have : a.1 = i := by rw [← e]
      omega
theorem nx_perms (O : N.Ok) : Perms N.nx N.cors :=
  ⟨fun c h => mem_cors.mpr (nx_cor O (mem_cors.mp h)), fun c d hc hd => nx_inj O (mem_cors.mp hc) (mem_cors.mp hd)⟩
/-- all regions -/
noncomputable def Net.regs (N : Net) : List (List At) := rounds N.nx N.cors
theorem regs_perm (O : N.Ok) : N.regs.flatten.Perm N.cors := rounds_perm (nx_perms O) (corsTo_nd _)

/-! ### how many -/
theorem flat_len (O : N.Ok) : N.R.flatten.length = 2 * N.M := by
  have key : ∀ (m : Nat) (l : List Nat), (∀ w, w ∈ l → w < m) → (∀ w, w < m → l.count w = 2) → l.length = 2 * m := by
    intro m
    induction m with
    | zero =>
      intro l h _
      cases l with
      | nil => rfl
      | cons a l => exact absurd (h a List.mem_cons_self) (Nat.not_lt_zero _)
    | succ m ih =>
      intro l h hc
      have e1 := ih (l.filter (· != m)) (fun w hw => by
        obtain ⟨a, b⟩ := List.mem_filter.mp hw
        have := h w a
        have : w ≠ m := by simpa using b
        omega) (fun w hw => by
        rw [List.count_filter (by simp; omega)]
        exact hc w (by omega))
      have e2 : (l.filter (· == m)).length = 2 := by
        rw [← List.countP_eq_length_filter]
        exact hc m (by omega)
      have e3 : ∀ l : List Nat, l.length = (l.filter (· == m)).length + (l.filter (· != m)).length := by
        intro l
        induction l with
        | nil => rfl
        | cons a l ih2 =>
          rw [List.filter_cons, List.filter_cons]
          by_cases z : a = m
          · rw [if_pos (by simpa using z), if_neg (by simpa using z), List.length_cons, List.length_cons, ih2]
            omega
          · rw [if_neg (by simpa using z), if_pos (by simpa using z), List.length_cons, List.length_cons, ih2]
            omega
      rw [e3 l, e1, e2]
      omega
  exact key N.M _ O.lt O.two
theorem row_le_flat {p : Nat} : (N.row p).length ≤ N.R.flatten.length := by
  unfold Net.row
  rw [List.getD_eq_getElem?_getD]
  cases e : N.R[p]? with
  | none => simp
  | some r =>
    have hm : r ∈ N.R := List.mem_of_getElem? e
    have := (List.sublist_flatten_of_mem hm).length_le
    simpa using this
theorem row_len (O : N.Ok) (p : Nat) : (N.row p).length ≤ 30 := by
  have := row_le_flat (N := N) (p := p)
  rw [flat_len O] at this
  have := O.m15
  omega
theorem cors_len_aux : ∀ i, i ≤ N.R.length → (N.corsTo i).length ≤ ((N.R.take i).flatten).length + (if i ≤ N.np then i else N.np)
  | 0, _ => by simp [Net.corsTo]
  | i + 1, h => by
    have ih := cors_len_aux i (by omega)
    have e1 : N.R[i]? = some (N.row i) := by
      unfold Net.row
      rw [List.getD_eq_getElem?_getD, List.getElem?_eq_getElem (by omega)]
      rfl
    rw [corsTo_succ, List.length_append, List.length_map, List.length_range]
    have e2 : N.R.take (i + 1) = N.R.take i ++ [N.row i] := by
      rw [List.take_succ, e1]
      rfl
    rw [e2, List.flatten_append, List.length_append]
    have e3 : ([N.row i].flatten).length = (N.row i).length := by simp
    rw [e3]
    unfold Net.cc
    split at ih <;> split <;> split <;> omega
theorem cors_len (O : N.Ok) : N.cors.length ≤ 34 := by
  have q := cors_len_aux (N := N) N.R.length (Nat.le_refl _)
  rw [List.take_length, flat_len O] at q
  have := O.m15
  have := O.p4
  have := O.pn
  have e : N.cors.length = (N.corsTo N.R.length).length := rfl
  rw [e]
  split at q <;> omega

/-! ### the other ends, found end by end -/
def Ahead (i j : Nat) (c : At) : Prop := c.1 < i ∨ (c.1 = i ∧ c.2 < j)
/-- F: a wire's first end; T: other ends; what stands in both when the ends of rows < i and places < j of row i are gone through -/
structure Mating (N : Net) (i j : Nat) (F : Nat → Option At) (T : At → Option At) : Prop where
  first : ∀ w e, F w = some e → N.End e ∧ Ahead i j e ∧ N.wire e = some w
  none_ : ∀ w, F w = none → ∀ e, N.End e → Ahead i j e → N.wire e ≠ some w
  two : ∀ c, N.End c → Ahead i j c → Ahead i j (N.mate c) → T c = some (N.mate c)
theorem no_ahead {c : At} (h : Ahead 0 0 c) : False := by
  unfold Ahead at h
  omega
theorem mating_start : Mating N 0 0 (fun _ => none) (fun _ => none) :=
  ⟨fun _ _ h => (nomatch h), fun _ _ _ _ h => (no_ahead h).elim, fun _ _ h => (no_ahead h).elim⟩
theorem Mating.nextRow {i : Nat} {F : Nat → Option At} {T : At → Option At} (h : Mating N i (N.row i).length F T) : Mating N (i + 1) 0 F T := by
  have up : ∀ c, N.End c → Ahead (i + 1) 0 c → Ahead i (N.row i).length c := fun c hc hA => by
    unfold Net.End at hc
    rcases hA with z | ⟨_, z⟩
    · by_cases e : c.1 = i
      · rw [e] at hc; exact .inr ⟨e, hc⟩
      · exact .inl (by omega)
    · omega
  refine ⟨fun w e q => ?_, fun w q e he hA => h.none_ w q e he (up e he hA), fun c hc h1 h2 => ?_⟩
  · obtain ⟨a, b, c⟩ := h.first w e q
    refine ⟨a, ?_, c⟩
    rcases b with z | ⟨z, _⟩
    · exact .inl (by omega)
    · exact .inl (by omega)
  · by_cases hm : N.End (N.mate c)
    · exact h.two c hc (up c hc h1) (up _ hm h2)
    · refine absurd ?_ hm
      unfold Net.mate
      split
      · rename_i z
        exact (Classical.choose_spec z).2.2
      · exact hc
theorem ahead_succ {i j : Nat} {c : At} : Ahead i (j + 1) c ↔ Ahead i j c ∨ c = (i, j) := by
  obtain ⟨p, k⟩ := c
  unfold Ahead
  simp only [Prod.mk.injEq]
  omega
theorem not_ahead {i j : Nat} : ¬ Ahead i j (i, j) := by unfold Ahead; simp
/-- the wire is met for the first time -/
theorem Mating.lone (O : N.Ok) {i j w : Nat} {F F' : Nat → Option At} {T : At → Option At} (h : Mating N i j F T) (hw : N.wire (i, j) = some w) (q : F w = none)
    (hF : ∀ v, F' v = if v = w then some (i, j) else F v) : Mating N i (j + 1) F' T := by
  refine ⟨fun v e q' => ?_, fun v q' e he hA => ?_, fun c hc h1 h2 => ?_⟩
  · rw [hF] at q'
    by_cases z : v = w
    · rw [if_pos z] at q'
      cases q'
      exact ⟨end_iff.mpr ⟨w, hw⟩, ahead_succ.mpr (.inr rfl), by rw [z]; exact hw⟩
    · rw [if_neg z] at q'
      obtain ⟨a, b, c⟩ := h.first v e q'
      exact ⟨a, ahead_succ.mpr (.inl b), c⟩
  · rw [hF] at q'
    by_cases z : v = w
    · rw [if_pos z] at q'; cases q'
    · rw [if_neg z] at q'
      rcases ahead_succ.mp hA with b | b
      · exact h.none_ v q' e he b
      · rw [b, hw]
        exact fun e => z (Option.some.inj e).symm
  · have key : ∀ d, N.End d → Ahead i j d → N.wire d = some w → False := fun d hd a e => h.none_ w q d hd a e
    have em := (mate_spec O hc).2.1
    have hm := mate_end O hc
    rcases ahead_succ.mp h1 with b1 | b1
    · rcases ahead_succ.mp h2 with b2 | b2
      · exact h.two c hc b1 b2
      · rw [b2, hw] at em
        exact (key c hc b1 em.symm).elim
    · rcases ahead_succ.mp h2 with b2 | b2
      · rw [b1] at em b2 hm
        exact (key _ hm b2 (em.trans hw)).elim
      · exact absurd (b2.trans b1.symm) (mate_spec O hc).1
/-- .. for the second time -/
theorem Mating.pair (O : N.Ok) {i j w : Nat} {e : At} {F : Nat → Option At} {T T' : At → Option At} (h : Mating N i j F T) (hw : N.wire (i, j) = some w) (q : F w = some e)
    (hT : ∀ c, T' c = if c = e then some (i, j) else if c = (i, j) then some e else T c) : Mating N i (j + 1) F T' := by
  obtain ⟨he, ha, ew⟩ := h.first w e q
  have hij : N.End (i, j) := end_iff.mpr ⟨w, hw⟩
  have ne : e ≠ (i, j) := fun z => not_ahead (z ▸ ha)
  have m1 : N.mate (i, j) = e := mate_of O hij ne (ew.trans hw.symm)
  have m2 : N.mate e = (i, j) := by rw [← m1]; exact mate_mate O hij
  refine ⟨fun v d q' => ?_, fun v q' d hd hA => ?_, fun c hc h1 h2 => ?_⟩
  · obtain ⟨a, b, c⟩ := h.first v d q'
    exact ⟨a, ahead_succ.mpr (.inl b), c⟩
  · rcases ahead_succ.mp hA with b | b
    · exact h.none_ v q' d hd b
    · rw [b, hw]
      intro z
      have z := Option.some.inj z
      rw [← z, q] at q'
      cases q'
  · rw [hT]
    by_cases z1 : c = e
    · rw [if_pos z1, z1, m2]
    · rw [if_neg z1]
      by_cases z2 : c = (i, j)
      · rw [if_pos z2, z2, m1]
      · rw [if_neg z2]
        have b1 := (ahead_succ.mp h1).resolve_right z2
        refine h.two c hc b1 ((ahead_succ.mp h2).resolve_right fun z3 => z1 ?_)
        rw [← m1, ← z3, mate_mate O hc]
theorem Mating.done (O : N.Ok) {F : Nat → Option At} {T : At → Option At} (h : Mating N N.R.length 0 F T) {c : At} (hc : N.End c) : T c = some (N.mate c) :=
  h.two c hc (.inl (End.lt hc)) (.inl (End.lt (mate_end O hc)))

/-! ### what hangs on a post -/
inductive Hang (N : Net) : Nat → Prop
  | post {p : Nat} : p < N.np → Hang N p
  | next {c : At} : Hang N c.1 → N.End c → Hang N (N.mate c).1
/-- the points that hang, each once -/
structure Hangs (N : Net) (L : List Nat) : Prop where
  nd : L.Nodup
  mem : ∀ p, p ∈ L ↔ Hang N p
theorem Hangs.len {L L' : List Nat} (a : Hangs N L) (b : Hangs N L') : L.length = L'.length :=
  Nat.le_antisymm (a.nd.length_le_of_subset fun p h => (b.mem p).mpr ((a.mem p).mp h)) (b.nd.length_le_of_subset fun p h => (a.mem p).mpr ((b.mem p).mp h))
theorem Hang.lt (O : N.Ok) {p : Nat} (h : Hang N p) : p < N.R.length := by
  cases h with
  | post h => exact Nat.lt_of_lt_of_le h O.pn
  | next _ e => exact End.lt (mate_end O e)
theorem hangs_of {L : List Nat} (nd : L.Nodup) (to : ∀ p, p ∈ L → Hang N p) (posts : ∀ p, p < N.np → p ∈ L) (clo : ∀ c : At, c.1 ∈ L → N.End c → (N.mate c).1 ∈ L) : Hangs N L := by
  refine ⟨nd, fun p => ⟨to p, fun h => ?_⟩⟩
  induction h with
  | post h => exact posts _ h
  | next _ e ih => exact clo _ ih e
/-- two rows share a wire -/
def Net.Share (N : Net) (p q : Nat) : Prop := ∃ w, w ∈ N.row p ∧ w ∈ N.row q
theorem share_mate (O : N.Ok) {p q : Nat} (ne : p ≠ q) (h : N.Share p q) : ∃ c : At, c.1 = p ∧ N.End c ∧ (N.mate c).1 = q := by
  obtain ⟨w, h1, h2⟩ := h
  obtain ⟨k, hk⟩ := List.mem_iff_getElem?.mp h1
  obtain ⟨j, hj⟩ := List.mem_iff_getElem?.mp h2
  have e : N.End (p, k) := end_iff.mpr ⟨w, hk⟩
  refine ⟨(p, k), rfl, e, ?_⟩
  rw [mate_of O e (d := (q, j)) (fun z => ne (Prod.mk.inj z).1.symm) (show N.wire (q, j) = N.wire (p, k) from Eq.trans hj (Eq.symm hk))]
theorem mate_share (O : N.Ok) {c : At} (h : N.End c) : N.Share c.1 (N.mate c).1 := by
  obtain ⟨w, e⟩ := end_iff.mp h
  have em := (mate_spec O h).2.1.trans e
  exact ⟨w, List.mem_of_getElem? e, List.mem_of_getElem? em⟩
end
end Rim
namespace Rim
section
variable {N : Net}
open Classical in
/-- how many points hang on a post -/
noncomputable def Net.hung (N : Net) : Nat := ((List.range N.R.length).filter fun p => decide (Hang N p)).length
theorem hung_of (O : N.Ok) {L : List Nat} (h : Hangs N L) : L.length = N.hung := by
  classical
  refine h.len ⟨List.Nodup.sublist List.filter_sublist List.nodup_range, fun p => ?_⟩
  rw [List.mem_filter, List.mem_range]
  exact ⟨fun q => by simpa using q.2, fun q => ⟨Hang.lt O q, by simpa using q⟩⟩
/-- all points hang on posts -/
def Net.Tied (N : Net) : Prop := N.hung = N.R.length
/-- as many regions as in the plane -/
def Net.Flat (N : Net) : Prop := (N.R.length : Int) - (N.M : Int) - (N.np : Int) + (N.regs.length : Int) = 1

/-- the wires of rows that have not been found -/
def Net.left (N : Net) (L : List Nat) : Nat := ((List.range N.R.length).map fun q => if q ∈ L then 0 else (N.row q).length).sum
theorem sum_at {f g : Nat → Nat} {p : Nat} : ∀ {l : List Nat}, l.Nodup → p ∈ l → (∀ q, q ∈ l → q ≠ p → f q = g q) → (l.map f).sum + g p = (l.map g).sum + f p
  | [], _, h, _ => absurd h (by simp)
  | a :: l, nd, h, e => by
    obtain ⟨n1, n2⟩ := List.nodup_cons.mp nd
    rw [List.map_cons, List.map_cons, List.sum_cons, List.sum_cons]
    by_cases z : a = p
    · subst z
      have q : l.map f = l.map g := List.map_congr_left fun q hq => e q (List.mem_cons_of_mem _ hq) fun w => n1 (w ▸ hq)
      rw [q]
      omega
    · have m : p ∈ l := by
        rcases List.mem_cons.mp h with w | w
        · exact absurd w.symm z
        · exact w
      have ih := sum_at n2 m fun q hq => e q (List.mem_cons_of_mem _ hq)
      have ea := e a List.mem_cons_self z
      omega
theorem left_more {L : List Nat} {p : Nat} (hp : p < N.R.length) (no : ¬ p ∈ L) : N.left (L ++ [p]) + (N.row p).length = N.left L := by
  unfold Net.left
  have q := sum_at (f := fun q => if q ∈ L ++ [p] then 0 else (N.row q).length) (g := fun q => if q ∈ L then 0 else (N.row q).length) (p := p) (l := List.range N.R.length) List.nodup_range (List.mem_range.mpr hp) fun q _ ne => by
    have e : q ∈ L ++ [p] ↔ q ∈ L := by
      rw [List.mem_append, List.mem_singleton]
      exact ⟨fun h => h.resolve_right ne, .inl⟩
    by_cases h : q ∈ L
    · simp [h]
    · simp [h, ne]
  have e1 : (if p ∈ L ++ [p] then 0 else (N.row p).length) = 0 := if_pos (by simp)
  have e2 : (if p ∈ L then 0 else (N.row p).length) = (N.row p).length := if_neg no
  simp only [e1, e2] at q
  omega
theorem left_le (O : N.Ok) (L : List Nat) : N.left L ≤ 420 := by
  have go : ∀ (l : List Nat), (l.map fun q => if q ∈ L then 0 else (N.row q).length).sum ≤ 30 * l.length := by
    intro l
    induction l with
    | nil => simp
    | cons a l ih =>
      rw [List.map_cons, List.sum_cons, List.length_cons]
      have := row_len O a
      split <;> omega
  have q := go (List.range N.R.length)
  rw [List.length_range] at q
  have := O.n14
  unfold Net.left
  omega

/-- the search: L found, qs waiting -/
structure Search (N : Net) (L qs : List Nat) : Prop where
  nd : L.Nodup
  to : ∀ p, p ∈ L → Hang N p
  wait : ∀ p, p ∈ qs → Hang N p
  posts : ∀ p, p < N.np → p ∈ L ∨ p ∈ qs
  clo : ∀ c : At, c.1 ∈ L → N.End c → (N.mate c).1 ∈ L ∨ (N.mate c).1 ∈ qs
theorem search_start : Search N [] (List.range N.np) :=
  ⟨List.nodup_nil, fun p h => absurd h (by simp), fun p h => .post (List.mem_range.mp h), fun p h => .inr (List.mem_range.mpr h), fun c h => absurd h (by simp)⟩
theorem Search.done {L : List Nat} (h : Search N L []) : Hangs N L :=
  hangs_of h.nd h.to (fun p hp => (h.posts p hp).resolve_right (by simp)) fun c hc he => (h.clo c hc he).resolve_right (by simp)
theorem Search.seen {L qs : List Nat} {p : Nat} (h : Search N L (qs ++ [p])) (hp : p ∈ L) : Search N L qs := by
  refine ⟨h.nd, h.to, fun q hq => h.wait q (List.mem_append_left _ hq), fun q hq => ?_, fun c hc he => ?_⟩
  · rcases h.posts q hq with z | z
    · exact .inl z
    · rcases List.mem_append.mp z with w | w
      · exact .inr w
      · rw [List.mem_singleton.mp w]
        exact .inl hp
  · rcases h.clo c hc he with z | z
    · exact .inl z
    · rcases List.mem_append.mp z with w | w
      · exact .inr w
      · rw [List.mem_singleton.mp w]
        exact .inl hp
/-- the points at the other ends of a row's wires -/
noncomputable def Net.over (N : Net) (p m : Nat) : List Nat := (List.range m).map fun k => (N.mate (p, k)).1
theorem Search.new {L qs : List Nat} {p : Nat} (h : Search N L (qs ++ [p])) (no : ¬ p ∈ L) : Search N (L ++ [p]) (qs ++ N.over p (N.row p).length) := by
  have hp : Hang N p := h.wait p (by simp)
  have up : ∀ q, q ∈ L ∨ q ∈ qs ++ [p] → q ∈ L ++ [p] ∨ q ∈ qs ++ N.over p (N.row p).length := fun q z => by
    simp only [List.mem_append, List.mem_singleton] at z ⊢
    rcases z with z | z | z
    · exact .inl (.inl z)
    · exact .inr (.inl z)
    · exact .inl (.inr z)
  refine ⟨?_, fun q hq => ?_, fun q hq => ?_, fun q hq => up q (h.posts q hq), fun c hc he => ?_⟩
  · refine List.nodup_append.mpr ⟨h.nd, by simp, ?_⟩
    rintro a ha b hb rfl
    rw [List.mem_singleton.mp hb] at ha
    exact no ha
  · rcases List.mem_append.mp hq with z | z
    · exact h.to q z
    · rw [List.mem_singleton.mp z]
      exact hp
  · rcases List.mem_append.mp hq with z | z
    · exact h.wait q (List.mem_append_left _ z)
    · obtain ⟨k, hk, rfl⟩ := List.mem_map.mp z
      exact .next (c := (p, k)) hp (List.mem_range.mp hk)
  · rcases List.mem_append.mp hc with z | z
    · exact up _ (h.clo c z he)
    · have e := List.mem_singleton.mp z
      refine .inr (List.mem_append_right _ (List.mem_map.mpr ⟨c.2, List.mem_range.mpr ?_, ?_⟩))
      · have := he
        unfold Net.End at this
        rw [e] at this
        exact this
      · rw [← e]
end
end Rim

/-! Rules that the layer lacks: a text times 1, len(set(texts)), sorted of (text, int), a try with two clauses «as e», isinstance of the caught error against a tuple. -/
namespace RimW
open PySem PySem.Spec PyProof.Rows L2

/-! ### a text times 1 -/
theorem op_mulS {X : Cx} : OpR X (binaryOp .Mult) (fun x y H Q => ∃ z, x = .str z ∧ y = .int 1 ∧ Q (.str z) H) := by
  intro pins st σ H x y v u Q I rx ry h
  obtain ⟨z, rfl, rfl, q⟩ := h
  obtain ⟨t1, rfl⟩ := rx
  obtain ⟨t2, rfl⟩ := ry
  refine PySem.P.mul_str (by decide) (fun _ e => ?_) (fun _ e => ?_) ?_
  · exact absurd e (by simp)
  · exact absurd e (by simp)
  · rw [if_neg (show ¬ ((1 : Int) < 1) by decide), if_pos (by simp)]
    exact ⟨.str z, H, I, ⟨t1, rfl⟩, q⟩

/-! ### isinstance(e, (A, B)) of the error in hand -/
/-- e the error that the suite holds, the tuple tracked -/
def rIsET (K : PySem.W.Frag) (D a : Addr) : List V → Hp → VK → Prop := fun xs H Q =>
  ∃ (tp : Addr) (cs : List V) (us : List Value) (b : Bool), xs = [.ref a, .ref tp] ∧ H tp = some (.tup cs) ∧ Paired ClsV cs us ∧ PySem.W.kitAny K (.ref D) us = some b ∧ Q (.bl b) H
theorem call_isET {X : Cx} {a D : Addr} {oe : Obj} {pn : List (Addr × Obj)} (T : ExcC X.K D) (hz : Zc (.ref D) none oe) (hf : ∃ vs, oe.data = .fields vs) :
    CallR (X.suite a ((a, oe) :: pn)) (.builtin "isinstance") (rIsET X.K D a) := by
  intro pins st σ H xs us Q I r h
  obtain ⟨tp, cs, ws, b, rfl, htp, pc, e, q⟩ := h
  obtain ⟨u1, u2, rfl, r1, r2⟩ := vals2 r
  cases (show u1 = Value.ref a from r1)
  cases (show u2 = Value.ref tp from r2)
  obtain ⟨got, _⟩ := I.pin (a, oe) (List.mem_append_left _ List.mem_cons_self)
  obtain ⟨fv, hv⟩ := hf
  have inst : PySem.W.InstAt st.heap a oe D none := by
    obtain ⟨o1, o2, o3, o4⟩ := oe
    obtain ⟨z1, z2⟩ := hz
    dsimp only at z1 z2 hv
    subst z1 z2 hv
    exact ⟨got, rfl, rfl, trivial⟩
  obtain ⟨_, its, rv, ot, g1, g2, n, g3⟩ := (show ObjOk X.prog X.w H st.heap tp (.tup cs) from I.hok tp _ htp)
  have es := ClsV.all pc rv
  subst es
  obtain ⟨c1, c2, c3, c4⟩ := ot
  simp only at g2 g3
  subst g2 g3
  exact PySem.W.kia_tup (PySem.W.handS_kitx_exc T.hg T.hk T.hs T.hd T.ha T.hn T.ht T.hm) I.kIn inst g1 e (fun z => nomatch z) fun tk => ⟨.bl b, H, I.kept (t' := tk) fun _ _ w => w, rfl, q⟩

/-! ### try: body, except A as n: .., except B as n: .. -/
abbrev SuiteT := Addr → Value → Option Addr → TS
/-- behind a suite the name goes -/
def gone (i : Nat) (D : Ends) : Ends := { nx := fun σ H => D.nx (σ.set i none) H, rt := D.rt, bk := fun σ H => D.bk (σ.set i none) H, ct := fun σ H => D.ct (σ.set i none) H }
/-- what the two clauses wish; an error of neither is not let by -/
def wTwo (K : PySem.W.Frag) (c1 c2 : Value) (i : Nat) (t1 t2 : SuiteT) (D : Ends) : WX := fun cls d σ H =>
  (PySem.W.exmOne K cls c1 = some true ∧ ∀ a, H a = none → t1 a cls d (gone i D) (σ.set i (some (.ref a))) H) ∨
  (PySem.W.exmOne K cls c1 = some false ∧ PySem.W.exmOne K cls c2 = some true ∧ ∀ a, H a = none → t2 a cls d (gone i D) (σ.set i (some (.ref a))) H)
section
variable {X : Cx} {pins : List (Addr × Obj)} {σ : L2.St} {H : Hp} {st : Shared} {D : Ends} {B : Heap} {a : Addr} {cls : Value} {d : Option Addr}
/-- the class that a clause names, looked up in a suite's context -/
theorem name_in {x : Str} {c : Value} {np : Pos} {oe : Obj} {pn : List (Addr × Obj)} (S : Inv (X.suite a ((a, oe) :: pn)) [] σ H st) (hc : Names X x c) {Q : Value → Shared → Prop} {E : Value → Shared → Prop} (q : Q c st) :
    wpAny (model X.prog X.w) (X.A.mark (some (.ref a))) (eval (.Name x np) X.env) Q E st := by
  obtain ⟨g1, g2, g3 | ⟨g3, g4, g5⟩⟩ := hc
  · exact ld_glob (X := X.suite a ((a, oe) :: pn)) S g1 g3 q g2
  · exact ld_blt (X := X.suite a ((a, oe) :: pn)) S g1 g3 g4 q g5 g2
/-- the error lies on the ground at a -/
structure Grounded (X : Cx) (pins : List (Addr × Obj)) (σ : L2.St) (H : Hp) (B : Heap) (a : Addr) (cls : Value) (d : Option Addr) (st : Shared) : Prop where
  inv : ∀ st' : Shared, B.StaysIn st'.heap → st.heap.UpToSlots st'.heap → st'.os = st.os → AllBare st'.gens → Inv X pins σ H st'
  bare : AllBare st.gens
  fly : HandSPX.FlyingZ B (X.env :: X.outer) a (Zc cls d) st.heap
  na : H a = none
  nL : a ≠ X.env.locals
  nF : a ∉ X.fs
theorem Grounded.suite (G : Grounded X pins σ H B a cls d st) {st' : Shared} (fl : HandSPX.FlyingZ B (X.env :: X.outer) a (Zc cls d) st'.heap) (up : st.heap.UpToSlots st'.heap) (os : st'.os = st.os) (ag : AllBare st'.gens) :
    ∃ oe, Zc cls d oe ∧ (∃ vs, oe.data = .fields vs) ∧ st'.heap.get? a = some oe ∧ Inv (X.suite a ((a, oe) :: (X.pn ++ pins))) [] σ H st' := by
  obtain ⟨oe, vs, h1, h2, h3⟩ := fl.there
  exact ⟨oe, h2, ⟨vs, h3⟩, h1, (G.inv st' fl.1 up os ag).suite h1 h3 G.na G.nL G.nF⟩
/-- a clause of another class -/
theorem clause_no {x n : Str} {c : Value} {np pos : Pos} {suite : List Stmt} {hds : List ExceptHandler} (G : Grounded X pins σ H B a cls d st) (hc : Names X x c) (no : PySem.W.exmOne X.K cls c = some false)
    (h : wpAny (model X.prog X.w) X.A (handleBy (.ref a) X.env hds) (SP X pins D) X.xe st) :
    wpAny (model X.prog X.w) X.A (handleBy (.ref a) X.env (.ExceptHandler (some (.Name x np)) (some n) suite pos :: hds)) (SP X pins D) X.xe st := by
  obtain ⟨oe, hz, hf, got, S⟩ := G.suite (st' := st) G.fly (Heap.UpToSlots.refl _) rfl G.bare
  have LT : PySem.W.Looks (model X.prog X.w) st.heap (typeOf (.ref a)) cls := fun A Q E s k q => wpAny_typeOf_ref (k _ _ got) (hz.1 ▸ q)
  refine wpAny_handleBy_cons (codeAny_handlers_test (name_in S hc ?_)) (fun z => nomatch z)
  exact (PySem.W.exm_one (M := model X.prog X.w) S.kIn LT no).here h
/-- the clause of the error's class -/
theorem clause_yes {i : Nat} {x n : Str} {c : Value} {np pos : Pos} {b₀ : Stmt} {suite : List Stmt} {hds : List ExceptHandler} {t : SuiteT} (G : Grounded X pins σ H B a cls d st) (hN : X.N.Nodup) (hi : X.N[i]? = some n)
    (hl : X.env.kindOf n = some .local) (hc : Names X x c) (yes : PySem.W.exmOne X.K cls c = some true)
    (hsu : ∀ (oe : Obj) (pn : List (Addr × Obj)), Zc cls d oe → (∃ vs, oe.data = .fields vs) → PSs (X.suite a ((a, oe) :: pn)) (b₀ :: suite) (t a cls d))
    (h : t a cls d (gone i D) (σ.set i (some (.ref a))) H) :
    wpAny (model X.prog X.w) X.A (handleBy (.ref a) X.env (.ExceptHandler (some (.Name x np)) (some n) (b₀ :: suite) pos :: hds)) (SP X pins D) X.xe st := by
  obtain ⟨oe, hz, hf, got, S⟩ := G.suite (st' := st) G.fly (Heap.UpToSlots.refl _) rfl G.bare
  have LT : PySem.W.Looks (model X.prog X.w) st.heap (typeOf (.ref a)) cls := fun A Q E s k q => wpAny_typeOf_ref (k _ _ got) (hz.1 ▸ q)
  refine wpAny_handleBy_cons (codeAny_handlers_test (name_in S hc ?_)) (fun z => nomatch z)
  refine (PySem.W.exm_one (M := model X.prog X.w) S.kIn LT yes).here ?_
  refine codeAny_handlers_suite_as (HandSPX.lands_againZ G.fly fun h4 fl4 up4 => ?_)
  obtain ⟨o4, z4, f4, _, S4⟩ := G.suite (st' := { st with heap := h4 }) fl4 up4 rfl G.bare
  have ok : X.Ok := (G.inv st G.fly.1 (Heap.UpToSlots.refl _) rfl G.bare).ok
  refine store_ok (X := X.suite a ((a, o4) :: (X.pn ++ pins))) (v := .ref a) S4 hN hi (.inl hl) rfl (fun s5 S5 => ?_) (.inr hl)
  refine wpAny_mono ((hsu o4 (X.pn ++ pins) z4 f4).run [] s5 _ H _ S5 h) (fun fw s6 sp6 => ?_) (fun _ _ z => z.elim)
  have drop : ∀ {σ6 : L2.St} {H6 : Hp} {R : Shared → Prop}, Inv (X.suite a ((a, o4) :: (X.pn ++ pins))) [] σ6 H6 s6 → (∀ s7, Inv X pins (σ6.set i none) H6 s7 → R s7) →
      wpAny (model X.prog X.w) X.A (do bindName X.env n .none; unbindBehindTheSuite X.env n pos) (fun _ s7 => R s7) X.xe s6 := fun S6 hq => gone_ok (S6.unsuite ok) hN hi hl hq
  cases fw with
  | next =>
    obtain ⟨σ', H', S', w'⟩ := sp6
    exact drop S' fun s7 J => ⟨_, _, J, w'⟩
  | brk =>
    obtain ⟨σ', H', S', w'⟩ := sp6
    exact drop S' fun s7 J => ⟨_, _, J, w'⟩
  | cont =>
    obtain ⟨σ', H', S', w'⟩ := sp6
    exact drop S' fun s7 J => ⟨_, _, J, w'⟩
  | ret u =>
    obtain ⟨v', σ', H', S', r', w'⟩ := sp6
    exact drop S' fun s7 J => ⟨_, _, _, J, r', w'⟩
end
section
variable {X : Cx} {x1 x2 n : Str} {c1 c2 : Value} {i : Nat} {body s1 s2 : List Stmt} {b1 b2 : Stmt} {np1 np2 pos pos1 pos2 : Pos} {tb : WX → TS} {t1 t2 : SuiteT}
theorem ps_try_two (hs : X.stack = X.env :: X.outer) (hf : X.env.frame = some X.env.locals) (hN : X.N.Nodup) (hi : X.N[i]? = some n) (hl : X.env.kindOf n = some .local) (hc1 : Names X x1 c1) (hc2 : Names X x2 c2)
    (hb : ∀ (W : WX) (pn : List (Addr × Obj)) (xe : Value → Shared → Prop), Takes (X.tr pn xe) W → PassesOwn (model X.prog X.w) X.A X.env xe → PSs (X.tr pn xe) body (tb W))
    (h1 : ∀ (a : Addr) (oe : Obj) (cls : Value) (d : Option Addr) (pn : List (Addr × Obj)), Zc cls d oe → (∃ vs, oe.data = .fields vs) → PSs (X.suite a ((a, oe) :: pn)) (b1 :: s1) (t1 a cls d))
    (h2 : ∀ (a : Addr) (oe : Obj) (cls : Value) (d : Option Addr) (pn : List (Addr × Obj)), Zc cls d oe → (∃ vs, oe.data = .fields vs) → PSs (X.suite a ((a, oe) :: pn)) (b2 :: s2) (t2 a cls d)) :
    PS X (.Try body [.ExceptHandler (some (.Name x1 np1)) (some n) (b1 :: s1) pos1, .ExceptHandler (some (.Name x2 np2)) (some n) (b2 :: s2) pos2] [] [] pos)
      (fun D σ H => tb (wTwo X.K c1 c2 i t1 t2 D) D σ H) := by
  refine ⟨fun pins st σ H D I h => ?_⟩
  have frm : X.A.frames = some (X.env :: X.outer) := by rw [I.ok.frames, hs]
  have ok0 := I.ok
  refine wpAny_Try_except ?_
  have body_run := (hb (wTwo X.K c1 c2 i t1 t2 D) (X.pn ++ pins) (fun e s₁ => wpAny (model X.prog X.w) X.A (noteFrame e X.env) (fun _ s₂ => wpAny (model X.prog X.w) X.A (setFlight e none) (fun _ s₃ =>
    wpAny (model X.prog X.w) X.A (handleBy e X.env [.ExceptHandler (some (.Name x1 np1)) (some n) (b1 :: s1) pos1, .ExceptHandler (some (.Name x2 np2)) (some n) (b2 :: s2) pos2]) (SP X pins D) X.xe s₃) X.xe s₂) X.xe s₁) (fun u s' air => ?_) PassesOwn.looking).run [] st σ H D (I.toTry _) h
  · refine wpAny_mono body_run (fun fw s' sp' => ?_) (fun e s' q => q)
    cases fw with
    | next =>
      obtain ⟨σ', H', J, w'⟩ := sp'
      exact wpAny_execs_nil ⟨σ', H', J.ofTry ok0, w'⟩
    | brk =>
      obtain ⟨σ', H', J, w'⟩ := sp'
      exact ⟨σ', H', J.ofTry ok0, w'⟩
    | cont =>
      obtain ⟨σ', H', J, w'⟩ := sp'
      exact ⟨σ', H', J.ofTry ok0, w'⟩
    | ret u =>
      obtain ⟨v', σ', H', J, r', w'⟩ := sp'
      exact ⟨v', σ', H', J.ofTry ok0, r', w'⟩
  · obtain ⟨a, B, sI, pins', σ', H', cls, d, rfl, J', nb, up, sky, na, os, ag, wish⟩ := air
    have J : Inv X pins σ' H' sI := J'.ofTry ok0
    have sky' : Sky B (X.env :: X.outer) a (Zc cls d) X.env.locals s'.heap := hs ▸ sky
    show wpAny (model X.prog X.w) X.A (noteFrame (.ref a) X.env) _ _ _
    refine Sky.land Zc.steady frm hf sky' fun h3 fl3 up3 => ?_
    obtain ⟨o3, f3, g3, _, d3⟩ := fl3.there
    have nfr : a ∉ frs (X.env :: X.outer) := fun hm => by
      obtain ⟨_, o', e', hnf⟩ := fl3.2.2.1.mem hm
      rw [g3] at e'
      cases e'
      exact hnf _ d3
    have gr : Grounded X pins σ' H' B a cls d { s' with heap := h3 } := by
      refine ⟨fun st' k1 k2 k3 k4 => ?_, ag, fl3, na, fun z => nfr ?_, fun hm => nfr ?_⟩
      · exact J.landed nb k1 ((up.trans up3).trans k2) (k3.trans os) k4
      · exact List.mem_filterMap.mpr ⟨X.env, List.mem_cons_self, by rw [hf, z]⟩
      · obtain ⟨e, he, q⟩ := List.mem_filterMap.mp hm
        exact List.mem_filterMap.mpr ⟨e, List.mem_cons_of_mem _ he, q⟩
    rcases wish with ⟨y1, w1⟩ | ⟨n1, y2, w2⟩
    · exact clause_yes gr hN hi hl hc1 y1 (fun oe pn z f => h1 a oe cls d pn z f) (w1 a na)
    · exact clause_no gr hc1 n1 (clause_yes gr hN hi hl hc2 y2 (fun oe pn z f => h2 a oe cls d pn z f) (w2 a na))
end
end RimW

/-! len(set(xs)) of texts that are all unlike; sorted of tuples (text, int). -/
namespace RimW
open PySem PySem.Spec PyProof.Rows L2

theorem texts_at {us : List Value} {zs : List Str} (r : StrsAre us zs) : ∀ {i : Nat} {v : Value}, us[i]? = some v → ∃ z t, zs[i]? = some z ∧ v = .str z t := by
  induction r with
  | nil => intro i v e; simp at e
  | cons z t r ih =>
    intro i v e
    cases i with
    | zero => exact ⟨z, t, rfl, by simpa using e.symm⟩
    | succ i => exact ih (by simpa using e)
/-- the members so far -/
def met (zs : List Str) (i : Nat) : Str → Bool := fun y => decide (y ∈ zs.take i)
section
variable {prog : Program} {w : World} {A : Around} {R : Result → Shared → Prop} {I : Addr} {fp wr : List Addr} {G : Array GenState → Array GenState → Prop} {n : Nat} {Pv : Nat → Value → Prop} {Tn : Nat → Shared → Prop}
theorem texts_update (W : WalksS prog w A.in1 I fp wr G n Pv Tn) (S : Addr) (nfp : S ∉ fp) (zs : List Str) (unlike : zs.Nodup) (len : zs.length = n) (room : n + 1 < scanBound)
    (items : ∀ i v, Pv i v → ∃ z t, zs[i]? = some z ∧ v = .str z t) :
    ∀ (left i : Nat) (st : Shared), n - i = left → i ≤ n → Tn i st → st.heap.SetOf (PySem.strKind prog w) S (met zs i) i →
      (∀ st', Moved (S :: wr) G st st' → st'.heap.SetOf (PySem.strKind prog w) S (met zs n) n → R (.ok (.ret .none)) st') →
      codeAny (model prog w) A (.builtin "set.update.loop" ⟨[.ref S, .ref I], []⟩) R st := by
  have nwr : S ∉ wr := fun z => nfp (W.sub _ z)
  have wide : ∀ b ∈ wr, b ∈ S :: wr := fun b z => List.mem_cons_of_mem _ z
  intro left
  induction left with
  | zero =>
    intro i st el hi tn hS done
    obtain rfl : i = n := by omega
    refine codeAny_builtin PyProof.Rows.F.entry_set_update_loop ?_
    rw [Around.under_plainId PyProof.Rows.F.plain_set_update_loop _]
    show wpAny _ A.in1 (pyNext (.ref I) >>= _) _ _ st
    refine wpAny_bind (W.done st _ _ tn fun st' mv => ?_)
    show wpAny _ A.in1 (ret Value.none) _ _ st'
    refine wpAny_pure (done st' (mv.mono wide) ?_)
    obtain ⟨o, es, ep, tb, got, more⟩ := hS
    exact ⟨o, es, ep, tb, mv.heap S _ nwr got, more⟩
  | succ left ih =>
    intro i st el hi tn hS done
    have lt : i < n := by omega
    refine codeAny_builtin PyProof.Rows.F.entry_set_update_loop ?_
    rw [Around.under_plainId PyProof.Rows.F.plain_set_update_loop _]
    show wpAny _ A.in1 (pyNext (.ref I) >>= _) _ _ st
    refine wpAny_bind (W.item i st _ _ lt tn fun v st' hv tn' mv => ?_)
    obtain ⟨z, t, hz, rfl⟩ := items i v hv
    have hS' : st'.heap.SetOf (PySem.strKind prog w) S (met zs i) i := by
      obtain ⟨o, es, ep, tb, got, more⟩ := hS
      exact ⟨o, es, ep, tb, mv.heap S _ nwr got, more⟩
    show wpAny _ A.in1 (holding [Value.str z t] (setAdd S (.str z t)) >>= _) _ _ st'
    refine wpAny_bind (wpAny_holding ?_)
    unfold setAdd
    refine wpAny_holding (wpAny_bind ((PySem.strKind prog w).pyHash (k := z) (strKind_is _ _ _ _) ?_))
    refine wpAny_setAddHashed_of (knd := PySem.strKind prog w) (s := { st' with toks := st'.toks + 1 }) (strKind_is _ _ _ _) rfl hS' (by omega) fun h2 same hS2 => ?_
    have new : met zs i z = false := decide_eq_false fun m => by
      obtain ⟨j, hj⟩ := List.mem_iff_getElem?.mp m
      have hji : j < i := by
        have q := (List.getElem?_eq_some_iff.mp hj).1
        rw [List.length_take] at q
        omega
      rw [List.getElem?_take_of_lt hji] at hj
      have := nd_ix unlike hj hz
      omega
    have hS3 : h2.SetOf (PySem.strKind prog w) S (met zs (i + 1)) (i + 1) := by
      refine SetOf_congr hS2 (fun y => ?_) (by rw [new]; simp)
      show (met zs i y || decide (y = z)) = met zs (i + 1) y
      unfold met
      rw [List.take_succ, hz, Bool.eq_iff_iff]
      simp [List.mem_append]
    refine wpAny_pure ⟨plainId_quiet PyProof.Rows.F.plain_set_update_loop _, ih (i + 1) _ (by omega) lt (W.frame _ st' _ _ tn' (Nat.le_succ _) fun b hb o e => ?_) hS3 fun st2 mv2 hS4 => ?_⟩
    · exact (same.2 b fun q => nfp (q ▸ hb)).trans e
    · refine done st2 (Moved.trans W.gtrans ((mv.mono wide).then_heap (Nat.le_succ _) fun b o nb e => ?_) mv2) hS4
      exact (same.2 b fun q => nb (q ▸ List.mem_cons_self)).trans e
end
section
variable {prog : Program} {w : World} {A : Around} {E : Value → Shared → Prop} {s : Shared}
theorem call_set_texts {l : Addr} {items : Array Value} {zs : List Str} {Q : Value → Shared → Prop} (calm : A.handled = none) (hl : s.heap.IsList l items) (hz : StrsAre items.toList zs) (unlike : zs.Nodup) (few : zs.length + 1 < scanBound)
    (k : ∀ (h' : Heap) (tk : Nat), h'.SetOf (PySem.strKind prog w) s.heap.objs.size (met zs zs.length) zs.length →
      (∀ b o, b < s.heap.objs.size → s.heap.get? b = some o → h'.get? b = some o) → Q (.ref s.heap.objs.size) { s with heap := h', toks := tk }) :
    wpAny (model prog w) A (call (.type "set") [.ref l]) Q E s := by
  have size : zs.length = items.size := by rw [← StrsAre.len_eq hz, Array.length_toList]
  obtain ⟨mc, mt, mro⟩ := PySem.F.called_set.mro
  have f1 := PySem.F.called_set.made
  have f2 := PySem.F.called_set.sub
  refine wpAny_call (codeAny_of_tree ?_)
  show wpAny _ _ (callAny (.type "set") _) _ _ _
  refine wpAny_pure ⟨Code.quiet_builtin _ (by decide +kernel), codeAny_builtin PySem.F.entry_type_call ?_⟩
  rw [Around.under_plain (weight_type_call_type "set" [.ref l] []) rfl]
  have f3 := PySem.F.called_set.notType
  have f4 := PySem.F.called_set.canCreate
  have f5 := PySem.F.typeCall_set_1 (.ref l)
  repeat (any_goals (first | assumption | wp_step))
  refine codeAny_mono (code_set_new_1 (.ref l) (E := E) (Q₁ := fun ob st => ∃ led : Bool, ob = .ref s.heap.objs.size ∧ st = { s with heap := s.heap.push { cls := .type "set", dict := none, data := .set #[] 0 (.fresh 0 0 led) } }) fun led => ⟨led, rfl, rfl⟩) fun r st hr => ?_
  cases r with
  | error e => exact hr
  | ok fl =>
    cases fl with
    | next => exact hr.elim
    | brk => exact hr.elim
    | cont => exact hr.elim
    | ret ob =>
      obtain ⟨led, rfl, rfl⟩ := hr
      have gS : (s.heap.push { cls := .type "set", dict := none, data := .set #[] 0 (.fresh 0 0 led) }).get? s.heap.objs.size = some { cls := .type "set", dict := none, data := .set #[] 0 (.fresh 0 0 led) } := Heap.get?_push_size _ rfl
      have tS : Shared.TypeIs { s with heap := s.heap.push { cls := .type "set", dict := none, data := .set #[] 0 (.fresh 0 0 led) } } (.ref s.heap.objs.size) "set" := ⟨_, gS, rfl⟩
      have g1 := PySem.F.called_set.init.lookup
      have g2 := PySem.F.called_set.init.bind (.ref s.heap.objs.size)
      repeat (any_goals (first | assumption | wp_step))
      refine codeAny_mono (codeAny_call_builtin (R := wants (fun r st => r = .none ∧ ∃ h' tk, st = { s with heap := h', toks := tk } ∧ h'.SetOf (PySem.strKind prog w) s.heap.objs.size (met zs zs.length) zs.length ∧
          (∀ b o, b < s.heap.objs.size → s.heap.get? b = some o → h'.get? b = some o)) E) PySem.F.called_set.init.plain PySem.F.entry_set_init (check_set_init_1 tS ?_)) fun r2 st2 hr2 => ?_
      · obtain ⟨ol, gl, cl, nl, dl⟩ := hl
        obtain ⟨oc, od, oda, osl⟩ := ol
        simp only at cl dl
        subst cl dl
        have gl' : (s.heap.push { cls := .type "set", dict := none, data := .set #[] 0 (.fresh 0 0 led) }).get? l = some { cls := .type "list", dict := od, data := .seq items nl, slots := osl } := Heap.get?_push_of_some _ gl
        have q1 := PySem.F.sub_list_set
        have q2 := PySem.F.sub_list_frozenset
        have q3 : (Value.type "list" == Value.type "dict") = false := by decide
        have il : (s.heap.push { cls := .type "set", dict := none, data := .set #[] 0 (.fresh 0 0 led) }).IsList l items := ⟨_, gl', rfl, nl, rfl⟩
        unfold Builtin.«set.__init__» noKeywords Builtin.Frozenset.updateFrom
        generalize ePI : pyIter = PI
        wp_walk
        subst ePI
        refine wpAny_pyIter_list il (wpAny_bind (wpAny_runValue ?_))
        have ll : l < s.heap.objs.size := Heap.lt_size gl
        have calm3 : A.in1.in1.in1.handled = none := by simp [calm]
        have neI : l ≠ (s.heap.push { cls := .type "set", dict := none, data := .set #[] 0 (.fresh 0 0 led) }).objs.size := by
          rw [Heap.size_push]
          exact Nat.ne_of_lt (Nat.lt_succ_of_lt ll)
        have nS : s.heap.objs.size ∉ [(s.heap.push { cls := .type "set", dict := none, data := .set #[] 0 (.fresh 0 0 led) }).objs.size, l] := by
          rw [Heap.size_push]
          intro z
          rcases List.mem_cons.mp z with z | z
          · exact Nat.ne_of_lt (Nat.lt_succ_self _) z
          · exact Nat.ne_of_gt ll (List.mem_singleton.mp z)
        refine texts_update ((Walks.list calm3 _ l neI items).toS) s.heap.objs.size nS zs unlike size (by omega) (fun i v hv => texts_at hz (by rw [Array.getElem?_toList]; exact hv)) (items.size - 0) 0 _ (by omega) (Nat.zero_le _)
          ⟨⟨_, Heap.get?_push_size _ rfl, rfl, rfl⟩, (il.push _)⟩ ?start ?stop
        case start =>
          have gg : ((s.heap.push { cls := .type "set", dict := none, data := .set #[] 0 (.fresh 0 0 led) }).push { cls := .type "list_iterator", data := .fields #[.ref l, .int 0 0] }).get? s.heap.objs.size
              = some { cls := .type "set", dict := none, data := .set #[] 0 (.fresh 0 0 led) } := Heap.get?_push_of_some _ gS
          exact SetOf_congr ((setObjOf_fresh (knd := PySem.strKind prog w) led).setOf gg (by unfold scanBound; omega)) (fun y => by simp [met]) rfl
        case stop =>
          intro st' mv hS'
          obtain ⟨h', g', d', tk', os'⟩ := st'
          have eg : g' = s.gens := mv.gens
          have ed : d' = s.drawn := mv.drawn
          have eo : os' = s.os := mv.os
          subst eg ed eo
          show wpAny _ _ _ _ _ _
          refine wpAny_pure ?_
          show wpAny _ _ (ret Value.none) _ _ _
          refine wpAny_pure ⟨rfl, h', tk', rfl, size ▸ hS', fun b o hb e => ?_⟩
          refine mv.heap b o (fun z => ?_) (Heap.get?_push_of_some _ (Heap.get?_push_of_some _ e))
          rcases List.mem_cons.mp z with z | z
          · exact Nat.ne_of_lt hb z
          · rw [List.mem_singleton.mp z, Heap.size_push] at hb
            exact absurd hb (Nat.not_lt.mpr (Nat.le_succ _))
      · cases r2 with
        | error e => exact hr2
        | ok fl2 =>
          cases fl2 with
          | next => exact hr2.elim
          | brk => exact hr2.elim
          | cont => exact hr2.elim
          | ret r =>
            obtain ⟨rfl, h', tk, rfl, hS', kp⟩ := hr2
            repeat (any_goals (first | assumption | wp_step))
            exact k _ _ hS' kp
end
/-- len(set(xs)) of unlike texts -/
def tLenTexts (K : PySem.W.Frag) (ta : TE) : TE := fun σ H Q => ta σ H fun x H1 => ∃ (l : Addr) (zs : List Str), x = .ref l ∧ SqL K H1 l (zs.map V.str) ∧ zs.Nodup ∧ zs.length ≤ 1000 ∧ Q (.int (zs.length : Nat)) H1
theorem pe_lenTexts {X : Cx} {a : Expr} {ta : TE} {p p2 q pos : Pos} (g1 : Gl X "len") (m1 : X.mg "len" = none) (g2 : Gl X "set") (m2 : X.mg "set" = none) (ha : PE X a ta) (hc : X.calm = true := by rfl)
    (na : starEach [a] X.env = (false, eval a X.env) :: starEach [] X.env := by rfl) : PE X (.Call (.Name "len" p) [.Call (.Name "set" p2) [a] [] q] [] pos) (tLenTexts X.K ta) := by
  refine ⟨fun pins st σ H Q I h => ?_⟩
  refine Call_ (ld_blt I g1 m1 boot_len (callWith_builtin1 (args_cons ?_ rfl) rfl rfl))
  refine Call_ (ld_blt I g2 m2 boot_set ?_)
  refine callWith_type1 (args_cons (thn (ha.run pins st σ H _ I h) fun v st1 hv => args_nil ?_) na) na rfl
  obtain ⟨x, H1, I1, rx, l, zs, rfl, hq, nd, few, q1⟩ := hv
  cases rx
  obtain ⟨its, r, pl, hz⟩ := I1.list hq
  refine call_set_texts (I1.ok.hd hc) pl.isList (by simpa using r.strs) nd (by unfold scanBound; omega) fun h' tk hS kp => args_nil ?_
  obtain ⟨o, es, ep, t, ho, hex, hd, _, _, _, hf, hn⟩ := hS
  have I2 : Inv X pins σ H1 { st1 with heap := h', toks := tk } := I1.kept fun b o e => kp b o (Heap.lt_size e) e
  exact PySem.call_len_set ho hex hd hf (by rw [hn] <;> omega) ⟨.int zs.length, H1, I2.tok _, ⟨_, by rw [hn]⟩, q1⟩
end RimW

/-! sorted of a list of tuples (text, int), as one list; two lists with the same items sort alike. -/
namespace RimW
open PySem PySem.Spec PyProof.Rows L2

/-- x is a tuple (text, int) -/
def CorT (H : Hp) (x : V) (c : Str × Int) : Prop := ∃ t, x = .ref t ∧ H t = some (.tup [.str c.1, .int c.2])
abbrev CorTs (H : Hp) : List V → List (Str × Int) → Prop := Paired (CorT H)
def encC (c : Str × Int) : PyData := .tuple [.str c.1, .int c.2]
def leC : Str × Int → Str × Int → Bool := PySem.W.dataLe false encC
theorem leC_total : PySem.W.TotalLe leC := PySem.W.sortLe_total (listOrd itemOrd) false fun b => PySem.W.keyToks (encC b)
theorem leC_anti {a b : Str × Int} (h1 : leC a b = true) (h2 : leC b a = true) : a = b := by
  have e1 : (!PySem.W.dataLt (encC b) (encC a)) = true := h1
  have e2 : (!PySem.W.dataLt (encC a) (encC b)) = true := h2
  unfold encC at e1 e2
  rw [PySem.W.dataLt_pair (by simp [PySem.W.alike]) (by simp [PySem.W.alike]), PySem.W.dataLt_int, PySem.W.dataLt_str] at e1 e2
  simp only [PyData.eqv, beq_iff_eq] at e1 e2
  by_cases hs : a.1 = b.1
  · rw [if_pos hs.symm] at e1
    rw [if_pos hs] at e2
    by_cases hi : a.2 = b.2
    · exact Prod.ext hs hi
    · rw [if_neg (Ne.symm hi)] at e1
      rw [if_neg hi] at e2
      simp at e1 e2
      omega
  · rw [if_neg (Ne.symm hs)] at e1
    rw [if_neg hs] at e2
    simp at e1 e2
    exact absurd (PySem.W.str_of_cps (List.le_antisymm e1 e2)) hs
theorem sort_alike {l m : List (Str × Int)} (h : l.Perm m) : l.mergeSort leC = m.mergeSort leC :=
  List.Perm.eq_of_pairwise (le := fun a b => leC a b = true) (fun _ _ _ _ => leC_anti) (PySem.W.sort_pairwise leC_total l) (PySem.W.sort_pairwise leC_total m)
    (((List.mergeSort_perm l leC).trans h).trans (List.mergeSort_perm m leC).symm)

theorem CorTs.same {H H' : Hp} (s : Same H H') {xs : List V} {cs : List (Str × Int)} (h : CorTs H xs cs) : CorTs H' xs cs :=
  Paired.mapP h fun _ _ ⟨t, e, q⟩ => ⟨t, e, s _ _ q⟩
theorem CorTs.dp {K : PySem.W.Frag} {H : Hp} : ∀ {xs : List V} {cs : List (Str × Int)}, CorTs H xs cs → DpAll K H xs (cs.map encC)
  | _, _, .nil => .nil
  | _, _, .cons ⟨t, e, q⟩ r => by
    subst e
    exact .cons (.tup (SqT.of q) (.cons (.str _) (.cons (.int _) .nil))) (CorTs.dp r)
theorem CorTs.len {H : Hp} {xs : List V} {cs : List (Str × Int)} (h : CorTs H xs cs) : xs.length = cs.length := Paired.length h
theorem lay_encs : ∀ cs : List (Str × Int), (∀ c, c ∈ cs → PyData.strOk c.1 = true) → PyData.canLayAll0 (cs.map encC) = true
  | [], _ => by simp [PyData.canLayAll0]
  | c :: cs, h => by
    have ih := lay_encs cs fun d hd => h d (List.mem_cons_of_mem _ hd)
    rw [List.map_cons, PyData.canLayAll0, ih]
    simp [encC, PyData.canLay0, PyData.canLayAll0, h c List.mem_cons_self]
theorem depth_encs : ∀ cs : List (Str × Int), PyData.depthAll (cs.map encC) ≤ 2
  | [] => by simp [PyData.depthAll]
  | c :: cs => by
    have ih := depth_encs cs
    rw [List.map_cons, PyData.depthAll]
    have e : (encC c).depth ≤ 2 := by simp [encC, PyData.depth, PyData.depthAll]
    omega
theorem shaped_encs {cs : List (Str × Int)} (h : ∀ c, c ∈ cs → PyData.strOk c.1 = true) : SeqAt.shaped (.list (cs.map encC)) = true := by
  unfold SeqAt.shaped
  rw [Bool.and_eq_true_iff]
  refine ⟨?_, decide_eq_true ?_⟩
  · rw [PyData.canLay0]
    exact lay_encs cs h
  · have := depth_encs cs
    rw [PyData.depth]
    omega

/-- the same of values -/
def CorV (H : Hp) (v : Value) (c : Str × Int) : Prop := ∃ t, v = .ref t ∧ H t = some (.tup [.str c.1, .int c.2])
theorem corV_of {H : Hp} : ∀ {xs : List V} {us : List Value} {cs : List (Str × Int)}, CorTs H xs cs → Vals xs us → PySem.W.EachIs (CorV H) us cs
  | _, _, _, .nil, .nil => .nil
  | _, _, _, .cons ⟨t, e, q⟩ r, .cons rv rr => by
    subst e
    exact .cons ⟨t, rv, q⟩ (corV_of r rr)
theorem of_corV {H : Hp} : ∀ {us : List Value} {cs : List (Str × Int)}, PySem.W.EachIs (CorV H) us cs → ∃ xs, Vals xs us ∧ CorTs H xs cs
  | _, _, .nil => ⟨[], .nil, .nil⟩
  | _, _, .cons ⟨t, e, q⟩ r => by
    obtain ⟨xs, h1, h2⟩ := of_corV r
    exact ⟨.ref t :: xs, .cons e h1, .cons ⟨t, rfl, q⟩ h2⟩

section
variable {X : Cx}
def rSortedC (K : PySem.W.Frag) : List V → Hp → VK → Prop := fun vs H Q => ∃ (a : Addr) (xs : List V) (cs : List (Str × Int)), vs = [.ref a] ∧ SqL K H a xs ∧ CorTs H xs cs ∧
  ∀ ys p, CorTs H ys (cs.mergeSort leC) → H p = none → Q (.ref p) (upd H p (.lst ys))
theorem cr_sortedC (hu : X.A.units + 64 < cLine) : CallR X (.builtin "sorted") (rSortedC X.K) := by
  intro pins st σ H vs us Q I r h
  obtain ⟨a, xs, cs, rfl, hq, hc, k⟩ := h
  obtain ⟨u, rfl, ru⟩ := vals1 r
  cases (show u = Value.ref a from ru)
  obtain ⟨its, rv, pl, hz⟩ := I.list hq
  have lens : its.length = cs.length := by rw [← rv.length, hc.len]
  have reads : PySem.W.EachIs (fun v b => ∃ as, Reads st.heap v (encC b) as) its cs := by
    have go : ∀ {xs : List V} {us : List Value} {cs : List (Str × Int)}, CorTs H xs cs → Vals xs us → PySem.W.EachIs (fun v b => ∃ as, Reads st.heap v (encC b) as) us cs := by
      intro xs us cs h1
      induction h1 generalizing us with
      | nil =>
        intro h2
        cases h2
        exact .nil
      | cons h1 _ ih =>
        intro h2
        cases h2 with
        | cons r1 r2 =>
          obtain ⟨t, rfl, q⟩ := h1
          exact .cons (Dp.reads I _ _ _ (.tup (SqT.of q) (.cons (.str _) (.cons (.int _) .nil))) r1) (ih r2)
    exact go hc rv
  refine PySem.W.sorted_data (bs := cs) (enc := encC) pl.isList (corV_of hc rv) reads (PySem.W.AllAlike.of fun b b' => by simp [encC, PySem.W.alike, PySem.W.alikeAll]) (PySem.W.Sortable.tuples fun b => ⟨_, _, rfl⟩)
    (by rw [← hc.len]; exact hz) (fun b _ => ?_) fun out lo eo => ?_
  · have e : (encC b).depth ≤ 2 := by simp [encC, PyData.depth, PyData.depthAll]
    omega
  · obtain ⟨ys, h1, h2⟩ := of_corV eo
    obtain ⟨e, he⟩ := sortedAll_at st.heap its out.toArray
    have hp : H (st.heap.objs.size + 1) = none := I.hok.fresh (Nat.le_succ _)
    have ly : ys.length = cs.length := h1.length.trans lo
    refine ⟨.ref (st.heap.objs.size + 1), _, I.laid (o := .lst ys) (t' := st.toks) (fun b o q => sortedAll_old q) (Nat.le_succ _) ⟨?_, out, e, h1, he⟩, rfl, k ys _ h2 hp⟩
    rw [ly, ← hc.len]
    exact hz
end
end RimW

/-! The names: p0 .. p3, q0 .. q9, w10 .. w24. -/
namespace RimW
open PySem PySem.Spec PyProof.Rows L2 Rim

def dec (k : Int) : Str := Str.ofString (toString k)
def Net.pt (N : Net) (p : Nat) : Str := if p < N.np then ("p" : Str) ++ dec (p : Int) else ("q" : Str) ++ dec ((p - N.np : Nat) : Int)
def wn (k : Nat) : Str := ("w" : Str) ++ dec (10 + (k : Int))
def signs : Str := "abcdefghijklmnopqrstuvwxyz0123456789"

/-- what is_name asks, and that its signs are codes -/
def goodB (z : Str) : Bool := !(z == ("" : Str)) && decide (z.length ≤ 8) && z.cps.toList.all (fun c => signs.cps.toList.contains c) && PyData.strOk z
structure Good (z : Str) : Prop where
  ne : z ≠ ("" : Str)
  len : z.length ≤ 8
  inn : ∀ c, c ∈ z.cps.toList → c ∈ signs.cps.toList
  ok : PyData.strOk z = true
theorem good_of {z : Str} (h : goodB z = true) : Good z := by
  unfold goodB at h
  simp only [Bool.and_eq_true, Bool.not_eq_true', decide_eq_true_eq, List.all_eq_true] at h
  obtain ⟨⟨⟨h1, h2⟩, h3⟩, h4⟩ := h
  exact ⟨by simpa using h1, h2, fun c hc => by simpa using h3 c hc, h4⟩

def pAll : List Str := (List.range 4).map fun (k : Nat) => ("p" : Str) ++ dec (k : Int)
def qAll : List Str := (List.range 14).map fun (k : Nat) => ("q" : Str) ++ dec (k : Int)
def wAll : List Str := (List.range 15).map wn
theorem pq_nd : (pAll ++ qAll).Nodup := by decide +kernel
theorem pq_good : (pAll ++ qAll).all goodB = true := by decide +kernel
theorem w_nd : wAll.Nodup := by decide +kernel
theorem w_good : wAll.all goodB = true := by decide +kernel
theorem w_up : wAll.Pairwise (fun a b => a.cps.toList < b.cps.toList) := by decide +kernel

section
variable {N : Net}
theorem pt_ix (O : N.Ok) {p : Nat} (h : p < N.R.length) : (pAll ++ qAll)[if p < N.np then p else 4 + (p - N.np)]? = some (Net.pt N p) := by
  have h4 := O.p4
  have h14 := O.n14
  unfold Net.pt
  by_cases q : p < N.np
  · rw [if_pos q, if_pos q]
    have e : pAll.length = 4 := by unfold pAll; simp
    rw [List.getElem?_append_left (by omega)]
    unfold pAll
    rw [List.getElem?_map, List.getElem?_range (by omega)]
    rfl
  · rw [if_neg q, if_neg q]
    have e : pAll.length = 4 := by unfold pAll; simp
    rw [List.getElem?_append_right (by omega), e]
    unfold qAll
    rw [List.getElem?_map, show 4 + (p - N.np) - 4 = p - N.np by omega, List.getElem?_range (by omega)]
    rfl
theorem pt_inj (O : N.Ok) {p q : Nat} (hp : p < N.R.length) (hq : q < N.R.length) (e : Net.pt N p = Net.pt N q) : p = q := by
  have h4 := O.p4
  have a := pt_ix O hp
  have b := pt_ix O hq
  rw [e] at a
  have := nd_ix pq_nd a b
  split at this <;> split at this <;> omega
theorem pt_good (O : N.Ok) {p : Nat} (h : p < N.R.length) : Good (Net.pt N p) :=
  good_of (List.all_eq_true.mp pq_good _ (List.mem_of_getElem? (pt_ix O h)))
theorem wn_ix {k : Nat} (h : k < 15) : wAll[k]? = some (wn k) := by
  unfold wAll
  rw [List.getElem?_map, List.getElem?_range h]
  rfl
theorem wn_inj {j k : Nat} (hj : j < 15) (hk : k < 15) (e : wn j = wn k) : j = k := by
  have a := wn_ix hj
  rw [e] at a
  exact nd_ix w_nd a (wn_ix hk)
theorem wn_good {k : Nat} (h : k < 15) : Good (wn k) := good_of (List.all_eq_true.mp w_good _ (List.mem_of_getElem? (wn_ix h)))
/-- the first M wires' names rise -/
theorem wn_up {M : Nat} (h : M ≤ 15) : ((List.range M).map wn).Pairwise (fun a b => a.cps.toList < b.cps.toList) := by
  have e : (List.range M).map wn = wAll.take M := by
    unfold wAll
    rw [← List.map_take, List.take_range, Nat.min_eq_left h]
  rw [e]
  exact List.Pairwise.sublist (List.take_sublist _ _) w_up
end
end RimW

/-! The text by places; the settled part of a heap; how nets, turns, mates, corners lie in it; defs as constants. -/
namespace RimW
open PySem PySem.Spec PyProof.Rows L2 Rim
open C8 (Cal pe_c pss_cut tCut)

/-! ### the text by places -/
def top (i : Nat) : Stmt := PySem.Challenge.pw_rimread_k13_whole_turns_judged.main.body.getD i (.Pass ⟨0, 0, 0, 0⟩)

/-! ### G: what is settled (never written again), H: all that is tracked -/
structure Ext (G H G' H' : Hp) : Prop where
  s0 : Same G H
  g : Same G G'
  h : Same H H'
  s : Same G' H'
  n : ∀ b, G b = none → H b ≠ none → G' b = none
section
variable {G H G' H' G0 H0 G1 H1 : Hp} {p d : Addr} {o u : HO}
theorem Ext.refl (s : Same G H) : Ext G H G H := ⟨s, Same.refl _, Same.refl _, s, fun _ h _ => h⟩
theorem Ext.trans (a : Ext G0 H0 G H) (b : Ext G H G1 H1) : Ext G0 H0 G1 H1 :=
  ⟨a.s0, a.g.trans b.g, a.h.trans b.h, b.s, fun c q z => b.n c (a.n c q z) fun w => z (a.h.free w)⟩
theorem ne_free {H : Hp} {b d : Addr} (z : H b ≠ none) (h : H d = none) : b ≠ d := fun w => z (by rw [w]; exact h)
theorem same_new (hp : H p = none) : Same H (upd H p o) := fun b u e => by rw [upd_ne (ne_of_none e hp)]; exact e
theorem same_back (s : Same G H) : Same (upd G d o) (upd H d o) := fun b u e => by
  by_cases q : b = d
  · subst q
    rw [upd_same] at e ⊢
    exact e
  · rw [upd_ne q] at e ⊢
    exact s b u e
/-- a new thing, settled at once -/
theorem Ext.alloc (a : Ext G0 H0 G H) (hp : H p = none) : Ext G0 H0 (upd G p o) (upd H p o) :=
  ⟨a.s0, a.g.trans (same_new (a.s.free hp)), a.h.trans (same_new hp), same_back a.s, fun b q z => by
    rw [upd_ne (ne_free z (a.h.free hp))]
    exact a.n b q z⟩
/-- a new thing that is to be written -/
theorem Ext.allocM (a : Ext G0 H0 G H) (hp : H p = none) : Ext G0 H0 G (upd H p o) := ⟨a.s0, a.g, a.h.trans (same_new hp), a.s.trans (same_new hp), a.n⟩
/-- the def's own thing is written -/
theorem Ext.mut (a : Ext G0 H0 G H) (h0 : H0 d = none) (hg : G d = none) : Ext G0 H0 G (upd H d o) :=
  ⟨a.s0, a.g, fun b u e => by rw [upd_ne (ne_of_none e h0)]; exact a.h b u e, fun b u e => by rw [upd_ne (ne_of_none e hg)]; exact a.s b u e, a.n⟩
/-- the def's own thing is settled -/
theorem Ext.fin (a : Ext G0 H0 G H) (h0 : H0 d = none) (hg : G d = none) (hd : H d = some o) : Ext G0 H0 (upd G d o) H :=
  ⟨a.s0, a.g.trans (same_new hg), a.h, fun b u e => by
    by_cases q : b = d
    · subst q
      rw [upd_same] at e
      rw [← e]
      exact hd
    · rw [upd_ne q] at e
      exact a.s b u e, fun b q z => by
    rw [upd_ne (ne_free z h0)]
    exact a.n b q z⟩
theorem Ext.new (a : Ext G0 H0 G H) (hp : H p = none) : H0 p = none := a.h.free hp
theorem Ext.newG (a : Ext G0 H0 G H) (hp : H p = none) : G p = none := a.s.free hp
/-- what a call leaves of a thing that the caller writes -/
theorem Ext.own (a : Ext G H G1 H1) (hd : H d = some o) (hg : G d = none) : H1 d = some o ∧ G1 d = none := ⟨a.h _ _ hd, a.n _ hg (by rw [hd]; exact fun z => nomatch z)⟩

/-- what stood stands behind a new thing -/
theorem up {b : Addr} {v : HO} (h : H b = some v) (hp : H p = none) : (upd H p o) b = some v := by rw [upd_ne (ne_of_none h hp)]; exact h
theorem gp {b : Addr} {v : HO} (h : H b = some v) (hp : H p = none) (g : G b = none) : (upd G p o) b = none := by rw [upd_ne (ne_of_none h hp)]; exact g
theorem ap {b : Addr} {x : Option HO} (ne : b ≠ d) (h : H b = x) : (upd H d o) b = x := by rw [upd_ne ne]; exact h

/-! a thing is locked while it is walked -/
def drop (G : Hp) (d : Addr) : Hp := fun b => if b = d then none else G b
theorem drop_ne {b : Addr} (h : b ≠ d) : drop G d b = G b := by unfold drop; rw [if_neg h]
theorem drop_same : drop G d d = none := by unfold drop; rw [if_pos rfl]
theorem of_drop {b : Addr} (e : drop G d b = some o) : b ≠ d ∧ G b = some o := by
  by_cases q : b = d
  · rw [q, drop_same] at e
    cases e
  · rw [drop_ne q] at e
    exact ⟨q, e⟩
theorem drop_of {b : Addr} (hd : G d = some u) (e : G b = some o) (ne : o ≠ u) : drop G d b = some o := by
  rw [drop_ne fun z => ?_]
  · exact e
  · subst z
    rw [hd] at e
    exact ne (Option.some.inj e).symm
theorem same_lock (s : Same G H) : Same (drop G d) (upd H d o) := fun b u e => by
  obtain ⟨q, e⟩ := of_drop e
  rw [upd_ne q]
  exact s b u e
theorem Ext.lock (a : Ext G0 H0 G H) : Ext (drop G0 d) (upd H0 d o) (drop G d) (upd H d o) :=
  ⟨same_lock a.s0, fun b u e => by
    obtain ⟨q, e⟩ := of_drop e
    rw [drop_ne q]
    exact a.g b u e, fun b u e => by
    by_cases q : b = d
    · subst q
      rw [upd_same] at e ⊢
      exact e
    · rw [upd_ne q] at e ⊢
      exact a.h b u e, same_lock a.s, fun b q z => by
    by_cases w : b = d
    · rw [w, drop_same]
    · rw [drop_ne w] at q ⊢
      rw [upd_ne w] at z
      exact a.n b q z⟩
/-- the thing was settled when it was locked -/
theorem Ext.unlock (a : Ext G0 H0 G H) (hd : G d = some u) (b : Ext (drop G0 d) (upd H0 d o) G' H') : Ext G0 H0 (upd G' d u) (upd H' d u) := by
  have in0 : ∀ v, G0 d = some v → v = u := fun v e => by
    have q := a.g _ _ e
    rw [hd] at q
    exact (Option.some.inj q).symm
  have in1 : ∀ v, H0 d = some v → v = u := fun v e => by
    have q := (a.h _ _ e).symm.trans (a.s _ _ hd)
    exact Option.some.inj q
  refine ⟨a.s0, fun c v e => ?_, fun c v e => ?_, same_back b.s, fun c q z => ?_⟩
  · by_cases w : c = d
    · subst w
      rw [upd_same, in0 v e]
    · rw [upd_ne w]
      exact b.g c v (by rw [drop_ne w]; exact e)
  · by_cases w : c = d
    · subst w
      rw [upd_same, in1 v e]
    · rw [upd_ne w]
      exact b.h c v (by rw [upd_ne w]; exact e)
  · have ne : c ≠ d := fun w => by
      rw [w] at q z
      have := a.n d q z
      rw [hd] at this
      cases this
    rw [upd_ne ne]
    exact b.n c (by rw [drop_ne ne]; exact q) (by rw [upd_ne ne]; exact z)
end

/-! ### data in the settled part -/
/-- how the two programs name a point as a key: by its name, by its number -/
abbrev Kp := Nat → Key
def byName (N : Net) : Kp := fun p => .inr (Net.pt N p)
def byNum : Kp := fun p => .inl (p : Int)
def ckey (kp : Kp) (c : At) : List Key := [kp c.1, .inl (c.2 : Int)]
/-- x is the tuple of c -/
def IsC (kp : Kp) (G : Hp) (x : V) (c : At) : Prop := ∃ t, x = .ref t ∧ G t = some (.tup ((ckey kp c).map kV))
def IsCs (kp : Kp) (G : Hp) : List V → List At → Prop := Paired (IsC kp G)
def LstAt (G : Hp) (x : V) (xs : List V) : Prop := ∃ a, x = .ref a ∧ G a = some (.lst xs)

section
variable {G G' : Hp} {kp : Kp}
theorem IsC.mono (s : Same G G') {x : V} {c : At} (h : IsC kp G x c) : IsC kp G' x c := let ⟨t, e, q⟩ := h; ⟨t, e, s _ _ q⟩
theorem IsCs.mono (s : Same G G') {xs : List V} {cs : List At} (h : IsCs kp G xs cs) : IsCs kp G' xs cs := Paired.mapP h fun _ _ q => q.mono s
theorem paired_snoc {α β : Type} {F : α → β → Prop} {x : α} {y : β} : ∀ {l : List α} {m : List β}, Paired F l m → F x y → Paired F (l ++ [x]) (m ++ [y])
  | _, _, .nil, h => .cons h .nil
  | _, _, .cons r t, h => .cons r (paired_snoc t h)
theorem paired_app {α β : Type} {F : α → β → Prop} : ∀ {l l' : List α} {m m' : List β}, Paired F l m → Paired F l' m' → Paired F (l ++ l') (m ++ m')
  | _, _, _, _, .nil, h => h
  | _, _, _, _, .cons r t, h => .cons r (paired_app t h)
theorem paired_at {α β : Type} {F : α → β → Prop} : ∀ {l : List α} {m : List β} {i : Nat} {x : α}, Paired F l m → l[i]? = some x → ∃ y, m[i]? = some y ∧ F x y
  | _, _, i, x, .nil, e => by simp at e
  | _, _, 0, x, .cons r t, e => by
    simp only [List.getElem?_cons_zero, Option.some.injEq] at e
    subst e
    exact ⟨_, rfl, r⟩
  | _, _, i + 1, x, .cons r t, e => by
    obtain ⟨y, h1, h2⟩ := paired_at (i := i) (x := x) t (by simpa using e)
    exact ⟨y, by simpa using h1, h2⟩
theorem IsCs.len {xs : List V} {cs : List At} (h : IsCs kp G xs cs) : xs.length = cs.length := Paired.length h
end

def wiresV (r : List Nat) : List V := r.map fun w => V.str (wn w)
def postsV (N : Net) : List V := (List.range N.np).map fun p => V.str (Net.pt N p)
/-- rows: tuples of a name and a list of wires -/
def RowAt (G : Hp) (N : Net) (x : V) (p : Nat) : Prop := ∃ t l, x = .ref t ∧ G t = some (.tup [.str (Net.pt N p), .ref l]) ∧ G l = some (.lst (wiresV (N.row p)))
def WorthAt (G : Hp) (x : V) (k : Nat) : Prop := ∃ t f, x = .ref t ∧ G t = some (.tup [.str (wn k), .ref f]) ∧ G f = some (.tup [.int (1 + (k : Int)), .int 1])
structure NetAt (G : Hp) (v : V) (N : Net) : Prop where
  ex : ∃ a pl rl wl rs ws, v = .ref a ∧ G a = some (.tup [.ref pl, .ref rl, .ref wl]) ∧ G pl = some (.lst (postsV N)) ∧ G rl = some (.lst rs) ∧ G wl = some (.lst ws) ∧
    Paired (RowAt G N) rs (List.range N.R.length) ∧ Paired (WorthAt G) ws (List.range N.M)
/-- an entry of the dict of turns -/
def TurnAt (G : Hp) (N : Net) (kv : Key × V) (p : Nat) : Prop := kv.1 = Sum.inr (Net.pt N p) ∧ ∃ l, kv.2 = .ref l ∧ G l = some (.lst (wiresV (N.row p)))
/-- a dict: names to lists of wires, in the order of rows -/
def TurnsAt (G : Hp) (v : V) (N : Net) : Prop := ∃ d kvs, v = .ref d ∧ G d = some (.dK kvs) ∧ Paired (TurnAt G N) kvs (List.range N.R.length)
/-- a list of lists of wires -/
def LTurnsAt (G : Hp) (v : V) (N : Net) : Prop := ∃ a xs, v = .ref a ∧ G a = some (.lst xs) ∧ Paired (fun x p => ∃ l, x = .ref l ∧ G l = some (.lst (wiresV (N.row p)))) xs (List.range N.R.length)
def MatesAt (kp : Kp) (G : Hp) (v : V) (N : Net) : Prop := ∃ d kvs, v = .ref d ∧ G d = some (.dT kvs) ∧ ∀ c, N.End c → ∃ t, valV kvs (ckey kp c) = some (.ref t) ∧ G t = some (.tup ((ckey kp (N.mate c)).map kV))
def CorsAt (kp : Kp) (G : Hp) (v : V) (cs : List At) : Prop := ∃ a xs, v = .ref a ∧ G a = some (.lst xs) ∧ IsCs kp G xs cs
def RegsAt (kp : Kp) (G : Hp) (v : V) (rs : List (List At)) : Prop := ∃ a ys, v = .ref a ∧ G a = some (.lst ys) ∧ Paired (CorsAt kp G) ys rs
section
variable {G G' : Hp} {kp : Kp} {v : V} {N : Net}
theorem NetAt.mono (s : Same G G') (h : NetAt G v N) : NetAt G' v N := by
  obtain ⟨a, pl, rl, wl, rs, ws, e, h1, h2, h3, h4, h5, h6⟩ := h.ex
  exact ⟨a, pl, rl, wl, rs, ws, e, s _ _ h1, s _ _ h2, s _ _ h3, s _ _ h4, Paired.mapP h5 fun x p ⟨t, l, e, q1, q2⟩ => ⟨t, l, e, s _ _ q1, s _ _ q2⟩, Paired.mapP h6 fun x p ⟨t, l, e, q1, q2⟩ => ⟨t, l, e, s _ _ q1, s _ _ q2⟩⟩
theorem TurnAt.mono (s : Same G G') {kv : Key × V} {p : Nat} (h : TurnAt G N kv p) : TurnAt G' N kv p := ⟨h.1, let ⟨l, e, q⟩ := h.2; ⟨l, e, s _ _ q⟩⟩
theorem TurnsAt.mono (s : Same G G') (h : TurnsAt G v N) : TurnsAt G' v N := by
  obtain ⟨d, kvs, e, h1, h2⟩ := h
  exact ⟨d, kvs, e, s _ _ h1, Paired.mapP h2 fun _ _ q => q.mono s⟩
theorem LTurnsAt.mono (s : Same G G') (h : LTurnsAt G v N) : LTurnsAt G' v N := by
  obtain ⟨a, xs, e, h1, h2⟩ := h
  exact ⟨a, xs, e, s _ _ h1, Paired.mapP h2 fun x p ⟨l, e, q⟩ => ⟨l, e, s _ _ q⟩⟩
theorem MatesAt.mono (s : Same G G') (h : MatesAt kp G v N) : MatesAt kp G' v N := by
  obtain ⟨d, kvs, e, h1, h2⟩ := h
  exact ⟨d, kvs, e, s _ _ h1, fun c hc => let ⟨t, q1, q2⟩ := h2 c hc; ⟨t, q1, s _ _ q2⟩⟩
theorem CorsAt.mono (s : Same G G') {cs : List At} (h : CorsAt kp G v cs) : CorsAt kp G' v cs := by
  obtain ⟨a, xs, e, h1, h2⟩ := h
  exact ⟨a, xs, e, s _ _ h1, h2.mono s⟩
theorem RegsAt.mono (s : Same G G') {rs : List (List At)} (h : RegsAt kp G v rs) : RegsAt kp G' v rs := by
  obtain ⟨a, xs, e, h1, h2⟩ := h
  exact ⟨a, xs, e, s _ _ h1, Paired.mapP h2 fun _ _ q => q.mono s⟩
end

/-! ### defs as constants -/
structure Dfn (K : PySem.W.Frag) (mg : Str → Option Value) (x : Str) (st : Stmt) (ps : List Str) : Prop where
  ex : ∃ f fd, Fun K x x st f fd ∧ mg x = some (.ref f) ∧ Binds K fd ps []
section
variable {P : Program} {w : World} {K : PySem.W.Frag} {mg : Str → Option Value} {base : Heap}
theorem cal_by {x : Str} {st : Stmt} {N ps : List Str} {k : Nat} {sp : Sp} (D : Dfn K mg x st ps) (S : FnScope N ps (defScope st)) (len : ∀ vs H Q E, sp vs H Q E → vs.length = ps.length)
    (body : ∀ (f : Addr) (cdv : Value) (A : Around) (outer : List Env) (s : Shared) (H : Hp) (vs : List V) (Q : VK) (E : XK), Room k (A.deeper (envOfC x (defScope st) s.heap.objs.size f cdv)) → sp vs H Q E →
      ∃ t, PSs (cxOf CX0 P w K mg base N x (defScope st) f cdv A outer s H E).nox (defBody st) t ∧ t { nx := fun _ H' => Q .non H', rt := Q } (start N vs) H) : Cal P w K mg base (k + 1) x sp [] := by
  obtain ⟨f, fd, F, m, b⟩ := D.ex
  exact ⟨f, fd, ps, [], F.ok S len fun cdv A outer s H vs Q E hr h => body f cdv A outer s H vs Q E hr h, m, F.kp, b, .nil⟩
end
/-- what the top leaves: the built-ins are the built-ins, the constants -/
structure Txt (K : PySem.W.Frag) (mg : Str → Option Value) : Prop where
  len : mg "len" = none
  list : mg "list" = none
  range : mg "range" = none
  enumerate : mg "enumerate" = none
  int : mg "int" = none
  str : mg "str" = none
  bool : mg "bool" = none
  tuple : mg "tuple" = none
  set : mg "set" = none
  sorted : mg "sorted" = none
  isinstance : mg "isinstance" = none
  signs : ∃ t, mg "SIGNS" = some (.str signs t)
  longest : ∃ t, mg "LONGEST" = some (.int 8 t)
end RimW

/-! common, is_whole, is_worth, is_name, are_names. -/
namespace RimW
open PySem PySem.Spec PyProof.Rows L2 Rim
open C8 (Cal pe_c pss_cut tCut)

theorem ifT {c : Bool} {A B : Prop} (hc : c = true) (h : A) : if c = true then A else B := by
  rw [if_pos hc]
  exact h
theorem ifF {c : Bool} {A B : Prop} (hc : c = false) (h : B) : if c = true then A else B := by
  rw [hc, if_neg Bool.false_ne_true]
  exact h
theorem ifC {c : Bool} {A B : Prop} (h1 : c = true → A) (h2 : c = false → B) : if c = true then A else B := by
  cases c with
  | true => exact ifT rfl (h1 rfl)
  | false => exact ifF rfl (h2 rfl)

/-! ### the promises -/
/-- common(a, 1) -/
def spCommon : Sp := fun vs H Q _ => ∃ a : Int, vs = [.int a, .int 1] ∧ Q (.int 1) H
def spWhole : Sp := fun vs H Q _ => ∃ a : Int, vs = [.int a] ∧ Q (.bl true) H
/-- a tuple (a, 1), a above 0 -/
def spWorth : Sp := fun vs H Q _ => ∃ (t : Addr) (a : Int), vs = [.ref t] ∧ H t = some (.tup [.int a, .int 1]) ∧ 0 < a ∧ Q (.bl true) H
def spIsName : Sp := fun vs H Q _ => ∃ z : Str, vs = [.str z] ∧ Good z ∧ Q (.bl true) H
def spAreNames (K : PySem.W.Frag) : Sp := fun vs H Q _ => ∃ (a : Addr) (zs : List Str), vs = [.ref a] ∧ SqL K H a (zs.map V.str) ∧ (∀ z, z ∈ zs → Good z) ∧ Q (.bl true) H

abbrev s_common : Stmt := top 6
theorem sc_common : FnScope ["one", "other"] ["one", "other"] (defScope s_common) := ⟨rfl, rfl, rfl, by decide +kernel, rfl, by decide +kernel, by decide +kernel⟩
abbrev s_is_whole : Stmt := top 7
theorem sc_is_whole : FnScope ["thing"] ["thing"] (defScope s_is_whole) := ⟨rfl, rfl, rfl, by decide +kernel, rfl, by decide +kernel, by decide +kernel⟩
abbrev s_is_worth : Stmt := top 8
theorem sc_is_worth : FnScope ["thing"] ["thing"] (defScope s_is_worth) := ⟨rfl, rfl, rfl, by decide +kernel, rfl, by decide +kernel, by decide +kernel⟩
abbrev s_is_name : Stmt := top 12
theorem sc_is_name : FnScope ["thing", "sign"] ["thing"] (defScope s_is_name) := ⟨rfl, rfl, rfl, by decide +kernel, rfl, by decide +kernel, by decide +kernel⟩
abbrev s_are_names : Stmt := top 13
theorem sc_are_names : FnScope ["things", "thing"] ["things"] (defScope s_are_names) := ⟨rfl, rfl, rfl, by decide +kernel, rfl, by decide +kernel, by decide +kernel⟩
section
variable {P : Program} {w : World} {K : PySem.W.Frag} {mg : Str → Option Value} {base : Heap}
theorem ok_common (T : Txt K mg) (D : Dfn K mg "common" s_common ["one", "other"]) : Cal P w K mg base 1 "common" spCommon [] := by
  refine cal_by D sc_common (fun vs H Q E h => ?_) (fun f cdv A outer s H vs Q E hr h => ?_)
  · obtain ⟨a, rfl, _⟩ := h
    rfl
  · obtain ⟨a, rfl, k⟩ := h
    refine ⟨_, (pss_cons (ps_while PassesOwn.never (pt_cmpR op_ne (pv 1) (pe_int) (nomark _)) (pss_one (ps_par (i := 0) (j := 1) (by rfl) sc_common.nd rfl rfl (by decide) rfl rfl (pa_cons (pv 1) (pa_cons (pe_op op_mod (pv 0) (pv 1)) pa_nil)) (by rfl))))
       (pss_one (ps_ret (pv 0)))), ?_⟩
    refine ⟨fun m σ H' => H' = H ∧ ((m = 1 ∧ σ = [some (.int a), some (.int 1)]) ∨ (m = 0 ∧ σ = [some (.int 1), some (.int 0)])), ⟨1, rfl, .inl ⟨rfl, rfl⟩⟩, ?_⟩
    rintro m σ H' ⟨rfl, ⟨rfl, rfl⟩ | ⟨rfl, rfl⟩⟩
    · refine ⟨_, rfl, rfl, _, rfl, ifT (by decide) ?_⟩
      refine ⟨fun σ' H2 => H2 = H' ∧ σ' = [some (.int 1), some (.int 0)], fun σ' H2 q => ⟨0, by decide, q.1, .inr ⟨rfl, q.2⟩⟩, ?_⟩
      refine ⟨_, rfl, _, rfl, _, rfl, _, _, rfl, rfl, (by show (0 : Int) < 1; decide), _, _, rfl, rfl, ?_⟩
      show [some (V.int 1), some (V.int (a % 1))] = _
      rw [Int.emod_one]
    · refine ⟨_, rfl, rfl, _, rfl, ifF (by decide) ?_⟩
      exact ⟨_, rfl, k⟩
theorem ok_is_whole (T : Txt K mg) (D : Dfn K mg "is_whole" s_is_whole ["thing"]) : Cal P w K mg base 1 "is_whole" spWhole [] := by
  refine cal_by D sc_is_whole (fun vs H Q E h => ?_) (fun f cdv A outer s H vs Q E hr h => ?_)
  · obtain ⟨a, rfl, _⟩ := h
    rfl
  · obtain ⟨a, rfl, k⟩ := h
    refine ⟨_, (pss_one (ps_ret (pe_and (pe_callB call_isi (by rfl) T.isinstance (by decide +kernel) (pa_cons (pv 0) (pa_cons (pe_bltn (v := .ty "int") (by rfl) T.int (by decide +kernel) rfl) pa_nil))) (pe_one (pe_not (pe_callB call_isi (by rfl) T.isinstance (by decide +kernel) (pa_cons (pv 0) (pa_cons (pe_bltn (v := .ty "bool") (by rfl) T.bool (by decide +kernel) rfl) pa_nil)))))))), ?_⟩
    refine ⟨_, rfl, _, _, _, _, true, rfl, .ty "int", .base (.int a), kit_ty (by decide +kernel), true, rfl, ifT rfl ?_⟩
    exact ⟨_, rfl, _, _, _, _, false, rfl, .ty "bool", .base (.int a), kit_ty (by decide +kernel), false, rfl, k⟩
theorem ok_is_worth (T : Txt K mg) (D : Dfn K mg "is_worth" s_is_worth ["thing"]) (Cis_whole : Cal P w K mg base 1 "is_whole" spWhole []) (Ccommon : Cal P w K mg base 1 "common" spCommon []) : Cal P w K mg base 2 "is_worth" spWorth [] := by
  refine cal_by D sc_is_worth (fun vs H Q E h => ?_) (fun f cdv A outer s H vs Q E hr h => ?_)
  · obtain ⟨t, a, rfl, _⟩ := h
    rfl
  · obtain ⟨t, a, rfl, ht, h0, k⟩ := h
    refine ⟨_, (pss_cons (ps_if (PW.pt (pw_or (pt_not (pt_val (pe_callB call_isi (by rfl) T.isinstance (by decide +kernel) (pa_cons (pv 0) (pa_cons (pe_bltn (v := .ty "tuple") (by rfl) T.tuple (by decide +kernel) rfl) pa_nil))))) (pw_or (pt_cmpR op_ne (pe_callB call_len_seq (by rfl) T.len PySem.boot_len (pa_cons (pv 0) pa_nil)) (pe_int) (nomark _)) (pw_or (pt_not (pt_val (pe_c Cis_whole hr (by decide) rfl (pa_cons (pe_ix ix_tup (pv 0) (pe_int) (fun _ _ => rfl)) pa_nil)))) (pw_or1 (pt_not (pt_val (pe_c Cis_whole hr (by decide) rfl (pa_cons (pe_ix ix_tup (pv 0) (pe_int) (fun _ _ => rfl)) pa_nil))))))))) (pss_one (ps_ret (pe_bl))) pss_nil)
       (pss_one (ps_ret (pe_and (pe_cmpR op_gt (pe_ix ix_tup (pv 0) (pe_int) (fun _ _ => rfl)) (pe_int) (nomark _)) (pe_and (pe_cmpR op_gt (pe_ix ix_tup (pv 0) (pe_int) (fun _ _ => rfl)) (pe_int) (nomark _)) (pe_one (pe_cmpR op_eq (pe_c Ccommon hr (by decide) rfl (pa_cons (pe_ix ix_tup (pv 0) (pe_int) (fun _ _ => rfl)) (pa_cons (pe_ix ix_tup (pv 0) (pe_int) (fun _ _ => rfl)) pa_nil))) (pe_int) (nomark _)))))))), ?_⟩
    have hT : SqT K H t [.int a, .int 1] := SqT.of ht
    refine ⟨_, rfl, _, _, _, _, true, rfl, .ty "tuple", .base (.tup ht), kit_ty (by decide +kernel), true, rfl, ifF rfl ?_⟩
    refine ⟨_, rfl, t, _, rfl, .inr hT, rfl, _, rfl, ifF rfl ?_⟩
    refine ⟨_, rfl, t, _, _, _, rfl, rfl, hT, at_of (j := 0) rfl rfl, a, rfl, true, rfl, ifF rfl ?_⟩
    refine ⟨_, rfl, t, _, _, _, rfl, rfl, hT, at_of (j := 1) rfl rfl, 1, rfl, true, rfl, ifF rfl ?_⟩
    refine ⟨_, rfl, t, _, _, _, rfl, rfl, hT, at_of (j := 0) rfl rfl, _, _, rfl, rfl, _, rfl, ifT (decide_eq_true h0) ?_⟩
    refine ⟨_, rfl, t, _, _, _, rfl, rfl, hT, at_of (j := 1) rfl rfl, _, _, rfl, rfl, _, rfl, ifT (by decide) ?_⟩
    exact ⟨_, rfl, t, _, _, _, rfl, rfl, hT, at_of (j := 0) rfl rfl, _, rfl, t, _, _, _, rfl, rfl, hT, at_of (j := 1) rfl rfl, a, rfl, rfl, k⟩
theorem ok_is_name (T : Txt K mg) (D : Dfn K mg "is_name" s_is_name ["thing"]) : Cal P w K mg base 1 "is_name" spIsName [] := by
  refine cal_by D sc_is_name (fun vs H Q E h => ?_) (fun f cdv A outer s H vs Q E hr h => ?_)
  · obtain ⟨z, rfl, _⟩ := h
    rfl
  · obtain ⟨z, rfl, g, k⟩ := h
    refine ⟨_, (pss_cons (ps_if (PW.pt (pw_or (pt_not (pt_val (pe_callB call_isi (by rfl) T.isinstance (by decide +kernel) (pa_cons (pv 0) (pa_cons (pe_bltn (v := .ty "str") (by rfl) T.str (by decide +kernel) rfl) pa_nil))))) (pw_or (pt_cmpR op_eq (pv 0) (pe_str) (nomark _)) (pw_or1 (pt_cmpR op_gt (pe_callB call_len_str (by rfl) T.len PySem.boot_len (pa_cons (pv 0) pa_nil)) (pe_glob (v := .int 8) rfl T.longest.choose_spec ⟨_, rfl⟩) (nomark _)))))) (pss_one (ps_ret (pe_bl))) pss_nil)
       (pss_cons (ps_for PassesOwn.never rfl (pi_str (pv 0)) (pg_name (i := 1) sc_is_name.nd rfl (Or.inl rfl)) (pss_one (ps_if (pt_cmpR op_notIn_sign (pv 1) (pe_glob (v := .str signs) rfl T.signs.choose_spec ⟨_, rfl⟩) (by rfl)) (pss_one (ps_ret (pe_bl))) pss_nil)))
       (pss_one (ps_ret (pe_bl))))), ?_⟩
    have hl : z.length ≤ sizeLine := Nat.le_trans g.len (by decide)
    have e1 : decide (V.str z = V.str "") = false := decide_eq_false fun q => g.ne (V.str.inj q)
    have e2 : decide ((8 : Int) < (z.length : Nat)) = false := decide_eq_false (by have := g.len; omega)
    refine ⟨_, rfl, _, _, _, _, true, rfl, .ty "str", .base (.str z), kit_ty (by decide +kernel), true, rfl, ifF rfl ?_⟩
    refine ⟨_, rfl, rfl, _, rfl, ifF e1 ?_⟩
    refine ⟨_, rfl, _, rfl, hl, _, _, rfl, rfl, _, rfl, ifF e2 ?_⟩
    refine ⟨_, rfl, z, rfl, ?_⟩
    refine ⟨fun i m σ H' => m = z.cps.size - i ∧ i ≤ z.cps.size ∧ H' = H ∧ ∃ v, σ = [some (.str z), v], ⟨_, rfl, Nat.zero_le _, rfl, none, rfl⟩, ?_⟩
    rintro i m σ H' ⟨rfl, hi, rfl, v, rfl⟩
    by_cases lt : i < z.cps.size
    · refine .inr ⟨lt, fun σ H2 => H2 = H' ∧ ∃ v, σ = [some (.str z), v], fun σ H2 q => ⟨z.cps.size - (i + 1), by omega, rfl, lt, q⟩, ?_⟩
      rintro x H2 ⟨rfl, c, hc, rfl⟩
      have hm : c ∈ signs.cps.toList := g.inn c (by
        have := Array.mem_of_getElem? hc
        exact Array.mem_toList_iff.mpr this)
      refine ⟨_, rfl, c, signs, rfl, rfl, _, rfl, ifF (by simp [hm]) ?_⟩
      exact ⟨rfl, _, rfl⟩
    · exact .inl ⟨by show z.cps.size ≤ i; omega, k⟩
theorem ok_are_names (T : Txt K mg) (D : Dfn K mg "are_names" s_are_names ["things"]) (Cis_name : Cal P w K mg base 1 "is_name" spIsName []) : Cal P w K mg base 2 "are_names" (spAreNames K) [] := by
  refine cal_by D sc_are_names (fun vs H Q E h => ?_) (fun f cdv A outer s H vs Q E hr h => ?_)
  · obtain ⟨a, zs, rfl, _⟩ := h
    rfl
  · obtain ⟨a, zs, rfl, hq, g, k⟩ := h
    refine ⟨_, (pss_cons (ps_for PassesOwn.never rfl (pi_list (pv 0)) (pg_name (i := 1) sc_are_names.nd rfl (Or.inl rfl)) (pss_one (ps_if (pt_not (pt_val (pe_c Cis_name hr (by decide) rfl (pa_cons (pv 1) pa_nil)))) (pss_one (ps_ret (pe_bl))) pss_nil)))
       (pss_one (ps_ret (pe_bl)))), ?_⟩
    refine ⟨_, rfl, a, rfl, ⟨_, hq⟩, for_list (K := K) (a := a) (xs := zs.map V.str) (fun i σ H' => H' = H ∧ ∃ v, σ = [some (.ref a), v]) ⟨rfl, none, rfl⟩ (fun i σ H' _ q => q.1 ▸ hq) ?_ ?_⟩
    · rintro i x σ H' hi ⟨rfl, v, rfl⟩
      rw [List.getElem?_map] at hi
      cases e : zs[i]? with
      | none =>
        rw [e] at hi
        cases hi
      | some z =>
        rw [e] at hi
        cases hi
        exact ⟨_, rfl, z, rfl, g z (List.mem_of_getElem? e), true, rfl, ifF rfl ⟨rfl, _, rfl⟩⟩
    · rintro σ H' ⟨rfl, v, rfl⟩
      exact k
end
end RimW

/-! Loops over enumerate, over a locked dict; look-ups in the dicts; == of tuples. -/
namespace RimW
open PySem PySem.Spec PyProof.Rows L2 Rim
open C8 (Cal pe_c pss_cut tCut)

/-! rules whose reading names the written part: within a comprehension's block it is the def's -/
theorem ix_tupK {X : Cx} {K : PySem.W.Frag} (e : X.K = K) : IxR X (rIxT K) := e ▸ ix_tup
theorem ix_listK {X : Cx} {K : PySem.W.Frag} (e : X.K = K) : IxR X (rIxL K) := e ▸ ix_list
theorem op_in_seqK {X : Cx} {K : PySem.W.Frag} (e : X.K = K) : OpR X (compareOp .In) (rIn K false) := e ▸ op_in_seq
theorem op_notIn_seqK {X : Cx} {K : PySem.W.Frag} (e : X.K = K) : OpR X (compareOp .NotIn) (rIn K true) := e ▸ op_notIn_seq
theorem list_ofK {X : Cx} {K : PySem.W.Frag} (e : X.K = K) : CallR X (.type "list") (fun xs H Q => ∃ p ys, xs = [.ref p] ∧ (SqL K H p ys ∨ SqT K H p ys) ∧ ∀ l, H l = none → Q (.ref l) (upd H l (.lst ys))) := e ▸ call_list_of

/-- over enumerate(list): each pair is a new tuple -/
theorem for_enum {K : PySem.W.Frag} {a : Addr} {xs : List V} {g : TG} {tb : TS} {D : Ends} {σ : L2.St} {H : Hp} (Pv : Nat → L2.St → Hp → Prop) (h0 : Pv 0 σ H) (hl : ∀ i σ H, i ≤ xs.length → Pv i σ H → SqL K H a xs)
    (hs : ∀ i x t σ H, xs[i]? = some x → Pv i σ H → H t = none → g (.ref t) σ (upd H t (.tup [.int (i : Nat), x])) fun σ2 H2 => tb { D with nx := Pv (i + 1), ct := Pv (i + 1), bk := D.nx } σ2 H2) (hd : ∀ σ H, Pv xs.length σ H → D.nx σ H) :
    ∃ W : Nat → Nat → L2.St → Hp → Prop, (∃ m, W 0 m σ H) ∧ ∀ i m σ H, W i m σ H →
      ((Ite K a).stop i H ∧ D.nx σ H) ∨ ((Ite K a).go i H ∧ ∃ N : L2.St → Hp → Prop, (∀ σ' H', N σ' H' → ∃ m', m' < m ∧ W (i + 1) m' σ' H') ∧ ∀ x H', (Ite K a).yld i H x H' → g x σ H' fun σ2 H2 => tb { D with nx := N, ct := N, bk := D.nx } σ2 H2) := by
  refine ⟨fun i m σ H => m = xs.length - i ∧ i ≤ xs.length ∧ Pv i σ H, ⟨_, rfl, Nat.zero_le _, h0⟩, ?_⟩
  rintro i m σ H ⟨rfl, le, pv⟩
  have sq := hl i σ H le pv
  by_cases lt : i < xs.length
  · refine .inr ⟨⟨xs, xs[i], sq, List.getElem?_eq_getElem lt⟩, Pv (i + 1), fun σ' H' q => ⟨xs.length - (i + 1), by omega, rfl, lt, q⟩, ?_⟩
    rintro x H' ⟨t, y, rfl, ht, rfl, hy⟩
    exact hs i y t σ H (hy xs sq) pv ht
  · obtain rfl : i = xs.length := by omega
    exact .inl ⟨⟨xs, sq, Nat.le_refl _⟩, hd σ H pv⟩
/-- over a locked dict's keys -/
theorem for_keys {d : Addr} {o : Obj} {kvs : List (Key × V)} {g : TG} {tb : TS} {D : Ends} {σ : L2.St} {H : Hp} (Pv : Nat → L2.St → Hp → Prop) (h0 : Pv 0 σ H) (hl : ∀ i σ H, Pv i σ H → H d = some (.frz o (.dK kvs)))
    (hs : ∀ i kv σ H, kvs[i]? = some kv → Pv i σ H → g (kV kv.1) σ H fun σ2 H2 => tb { D with nx := Pv (i + 1), ct := Pv (i + 1), bk := D.nx } σ2 H2) (hd : ∀ σ H, Pv kvs.length σ H → D.nx σ H) :
    ∃ W : Nat → Nat → L2.St → Hp → Prop, (∃ m, W 0 m σ H) ∧ ∀ i m σ H, W i m σ H →
      ((Itk d o kvs).stop i H ∧ D.nx σ H) ∨ ((Itk d o kvs).go i H ∧ ∃ N : L2.St → Hp → Prop, (∀ σ' H', N σ' H' → ∃ m', m' < m ∧ W (i + 1) m' σ' H') ∧ ∀ x H', (Itk d o kvs).yld i H x H' → g x σ H' fun σ2 H2 => tb { D with nx := N, ct := N, bk := D.nx } σ2 H2) := by
  refine ⟨fun i m σ H => m = kvs.length - i ∧ i ≤ kvs.length ∧ Pv i σ H, ⟨_, rfl, Nat.zero_le _, h0⟩, ?_⟩
  rintro i m σ H ⟨rfl, le, pv⟩
  have lk := hl i σ H pv
  by_cases lt : i < kvs.length
  · refine .inr ⟨⟨lk, lt⟩, Pv (i + 1), fun σ' H' q => ⟨kvs.length - (i + 1), by omega, rfl, lt, q⟩, ?_⟩
    rintro x H' ⟨rfl, k, v, e, rfl⟩
    exact hs i (k, v) σ _ e pv
  · obtain rfl : i = kvs.length := by omega
    exact .inl ⟨⟨lk, Nat.le_refl _⟩, hd σ H pv⟩
/-- a comprehension over a locked dict's keys -/
theorem lc_keys {d : Addr} {o : Obj} {kvs : List (Key × V)} {g : TG} {tt : TT} {te : TE} {vs : List Nat} {σ : L2.St} {H1 : Hp} {D : Addr} {Qd : Hp → Prop} (Pv : Nat → Hp → Prop) (h0 : Pv 0 (upd H1 D (.lst []))) (hl : ∀ i H, Pv i H → H d = some (.frz o (.dK kvs)))
    (hs : ∀ i kv H, kvs[i]? = some kv → Pv i H → g (kV kv.1) (wipe σ vs) H fun σ2 H2 => wipe σ2 vs = wipe σ vs ∧ tt σ2 H2 fun b H3 =>
      if b = true then te σ2 H3 fun y H4 => ∃ acc, H4 D = some (.lst acc) ∧ acc.length < sizeLine ∧ Pv (i + 1) (upd H4 D (.lst (acc ++ [y]))) else Pv (i + 1) H3) (hd : ∀ H, Pv kvs.length H → Qd H) :
    ∃ W : Nat → Nat → Hp → Prop, (∃ m, W 0 m (upd H1 D (.lst []))) ∧ ∀ i m H, W i m H →
      ((Itk d o kvs).stop i H ∧ Qd H) ∨ ((Itk d o kvs).go i H ∧ ∃ Nx : Hp → Prop, (∀ H', Nx H' → ∃ m', m' < m ∧ W (i + 1) m' H') ∧ ∀ x H', (Itk d o kvs).yld i H x H' → g x (wipe σ vs) H' fun σ2 H2 => wipe σ2 vs = wipe σ vs ∧ tt σ2 H2 fun b H3 =>
        if b = true then te σ2 H3 fun y H4 => ∃ acc, H4 D = some (.lst acc) ∧ acc.length < sizeLine ∧ Nx (upd H4 D (.lst (acc ++ [y]))) else Nx H3) := by
  refine ⟨fun i m H => m = kvs.length - i ∧ i ≤ kvs.length ∧ Pv i H, ⟨_, rfl, Nat.zero_le _, h0⟩, ?_⟩
  rintro i m H ⟨rfl, le, pv⟩
  have lk := hl i H pv
  by_cases lt : i < kvs.length
  · refine .inr ⟨⟨lk, lt⟩, Pv (i + 1), fun H' q => ⟨kvs.length - (i + 1), by omega, rfl, lt, q⟩, ?_⟩
    rintro x H' ⟨rfl, k, v, e, rfl⟩
    exact hs i (k, v) _ e pv
  · obtain rfl : i = kvs.length := by omega
    exact .inl ⟨⟨lk, Nat.le_refl _⟩, hd H pv⟩

/-! ### keys -/
def KpOk (kp : Kp) (N : Net) : Prop := ∀ p q, p < N.R.length → q < N.R.length → kp p = kp q → p = q
section
variable {N : Net} {kp : Kp} {G G' : Hp}
theorem byName_ok (O : N.Ok) : KpOk (byName N) N := fun p q hp hq e => pt_inj O hp hq (Sum.inr.inj e)
theorem byNum_ok : KpOk byNum N := fun p q _ _ e => by
  have := Sum.inl.inj e
  omega
theorem ckey_inj (ko : KpOk kp N) {c d : At} (hc : c.1 < N.R.length) (hd : d.1 < N.R.length) (e : ckey kp c = ckey kp d) : c = d := by
  unfold ckey at e
  injection e with e1 e2
  injection e2 with e3 _
  have e3 := Sum.inl.inj e3
  exact Prod.ext (ko _ _ hc hd e1) (by omega)
theorem snd_len {c : At} {w : Nat} (h : N.wire c = some w) : c.1 < N.R.length := End.lt (end_iff.mpr ⟨w, h⟩)

theorem turns_find (O : N.Ok) : ∀ {kvs : List (Key × V)} {ps : List Nat}, Paired (TurnAt G N) kvs ps → (∀ q, q ∈ ps → q < N.R.length) → ∀ p, p < N.R.length →
    (p ∈ ps → ∃ l, valV kvs (Sum.inr (Net.pt N p)) = some (.ref l) ∧ G l = some (.lst (wiresV (N.row p)))) ∧ (¬ p ∈ ps → valV kvs (Sum.inr (Net.pt N p)) = none)
  | _, _, .nil, _, p, _ => ⟨fun h => absurd h (by simp), fun _ => valV_nil⟩
  | _, _, .cons (a := kv) (b := q) r t, hps, p, hp => by
    obtain ⟨h1, l, h2, h3⟩ := r
    have hq := hps q List.mem_cons_self
    obtain ⟨i1, i2⟩ := turns_find O t (fun z hz => hps z (List.mem_cons_of_mem _ hz)) p hp
    by_cases e : p = q
    · subst e
      exact ⟨fun _ => ⟨l, by rw [valV_pos h1, h2], h3⟩, fun h => absurd List.mem_cons_self h⟩
    · have ne : ¬ kv.1 = Sum.inr (Net.pt N p) := fun z => by
        rw [h1] at z
        exact e (pt_inj O hp hq (Sum.inr.inj z).symm)
      rw [valV_neg ne]
      refine ⟨fun h => i1 ?_, fun h => i2 fun z => h (List.mem_cons_of_mem _ z)⟩
      rcases List.mem_cons.mp h with z | z
      · exact absurd z e
      · exact z
theorem turns_get (O : N.Ok) {kvs : List (Key × V)} (h : Paired (TurnAt G N) kvs (List.range N.R.length)) {p : Nat} (hp : p < N.R.length) :
    ∃ l, valV kvs (Sum.inr (Net.pt N p)) = some (.ref l) ∧ G l = some (.lst (wiresV (N.row p))) :=
  (turns_find O h (fun q hq => List.mem_range.mp hq) p hp).1 (List.mem_range.mpr hp)
theorem turns_not (O : N.Ok) {kvs : List (Key × V)} {i : Nat} (h : Paired (TurnAt G N) kvs (List.range i)) (hi : i < N.R.length) : valV kvs (Sum.inr (Net.pt N i)) = none :=
  (turns_find O h (fun q hq => by have := List.mem_range.mp hq; omega) i hi).2 (by simp)

/-! ### the two dicts of the search for other ends -/
def FirstRel (kp : Kp) (G : Hp) (N : Net) (kvs : List (Key × V)) (F : Nat → Option At) : Prop := ∀ w, w < N.M →
  (F w = none → valV kvs (Sum.inr (wn w)) = none) ∧ ∀ e, F w = some e → ∃ t, valV kvs (Sum.inr (wn w)) = some (.ref t) ∧ G t = some (.tup ((ckey kp e).map kV))
def MateRel (kp : Kp) (G : Hp) (N : Net) (kvs : List (List Key × V)) (T : At → Option At) : Prop := ∀ c e, N.End c → T c = some e →
  ∃ t, valV kvs (ckey kp c) = some (.ref t) ∧ G t = some (.tup ((ckey kp e).map kV))
theorem first_start : FirstRel kp G N [] (fun _ => none) := fun w _ => ⟨fun _ => valV_nil, fun e h => nomatch h⟩
theorem mate_start : MateRel kp G N [] (fun _ => none) := fun c e _ h => nomatch h
theorem FirstRel.mono (s : Same G G') {kvs : List (Key × V)} {F : Nat → Option At} (h : FirstRel kp G N kvs F) : FirstRel kp G' N kvs F := fun w hw =>
  ⟨(h w hw).1, fun e q => let ⟨t, a, b⟩ := (h w hw).2 e q; ⟨t, a, s _ _ b⟩⟩
theorem MateRel.mono (s : Same G G') {kvs : List (List Key × V)} {T : At → Option At} (h : MateRel kp G N kvs T) : MateRel kp G' N kvs T := fun c e hc q =>
  let ⟨t, a, b⟩ := h c e hc q; ⟨t, a, s _ _ b⟩
theorem FirstRel.put (O : N.Ok) {kvs : List (Key × V)} {F : Nat → Option At} (h : FirstRel kp G N kvs F) {w : Nat} {c : At} {t : Addr} (hw : w < N.M) (ht : G t = some (.tup ((ckey kp c).map kV))) :
    FirstRel kp G N (putK kvs (Sum.inr (wn w)) (.ref t)) (fun v => if v = w then some c else F v) := fun v hv => by
  have m := O.m15
  by_cases e : v = w
  · subst e
    refine ⟨fun q => ?_, fun d q => ?_⟩
    · dsimp only at q
      rw [if_pos rfl] at q
      cases q
    · dsimp only at q
      rw [if_pos rfl] at q
      cases q
      exact ⟨t, by rw [valV_put, if_pos rfl], ht⟩
  · have ne : ¬ (Sum.inr (wn v) : Key) = Sum.inr (wn w) := fun z => e (wn_inj (by omega) (by omega) (Sum.inr.inj z))
    rw [valV_put, if_neg ne]
    refine ⟨fun q => (h v hv).1 ?_, fun d q => (h v hv).2 d ?_⟩
    · simpa [e] using q
    · simpa [e] using q
theorem MateRel.put (ko : KpOk kp N) {kvs : List (List Key × V)} {T : At → Option At} (h : MateRel kp G N kvs T) {c e : At} {t : Addr} (hc : N.End c) (ht : G t = some (.tup ((ckey kp e).map kV))) :
    MateRel kp G N (putK kvs (ckey kp c) (.ref t)) (fun d => if d = c then some e else T d) := fun d f hd q => by
  by_cases z : d = c
  · subst z
    dsimp only at q
    rw [if_pos rfl] at q
    cases q
    exact ⟨t, by rw [valV_put, if_pos rfl], ht⟩
  · have ne : ¬ ckey kp d = ckey kp c := fun y => z (ckey_inj ko (End.lt hd) (End.lt hc) y)
    rw [valV_put, if_neg ne]
    exact h d f hd (by simpa [z] using q)
end
/-- texts in a list of texts -/
theorem in_texts (z : Str) (zs : List Str) : inV (.str z) (zs.map V.str) = decide (z ∈ zs) := by
  unfold inV
  rw [List.any_map, Bool.eq_iff_iff]
  simp only [List.any_eq_true, Function.comp, decide_eq_true_eq]
  constructor
  · rintro ⟨y, hy, e⟩
    have : y = z := by simpa [eqV] using e
    rw [← this]
    exact hy
  · intro h
    exact ⟨z, h, by simp [eqV]⟩
theorem flat_texts (zs : List Str) : (zs.map V.str).all flatV = true := by
  rw [List.all_map]
  exact List.all_eq_true.mpr fun _ _ => rfl
theorem in_posts {N : Net} (O : N.Ok) {p : Nat} (hp : p < N.R.length) : inV (.str (Net.pt N p)) (postsV N) = decide (p < N.np) := by
  have e : postsV N = ((List.range N.np).map (Net.pt N)).map V.str := by
    unfold postsV
    rw [List.map_map]
    rfl
  rw [e, in_texts]
  rw [decide_eq_decide]
  constructor
  · intro h
    obtain ⟨q, hq, e⟩ := List.mem_map.mp h
    have hq := List.mem_range.mp hq
    rw [← pt_inj O (by have := O.pn; omega) hp e]
    exact hq
  · intro h
    exact List.mem_map.mpr ⟨p, List.mem_range.mpr h, rfl⟩
theorem flat_posts {N : Net} : (postsV N).all flatV = true := by
  unfold postsV
  rw [List.all_map]
  exact List.all_eq_true.mpr fun _ _ => rfl
end RimW

/-! turns_of, corner_count. -/
namespace RimW
open PySem PySem.Spec PyProof.Rows L2 Rim
open C8 (Cal pe_c pss_cut tCut)

/-- a def that reads a net -/
def spNet (post : Hp → V → Net → Prop) : Sp := fun vs H Q _ => ∃ (G : Hp) (v : V) (N : Net), vs = [v] ∧ N.Ok ∧ Same G H ∧ NetAt G v N ∧ ∀ G' H' x, Ext G H G' H' → post G' x N → Q x H'
abbrev spTurns : Sp := spNet TurnsAt
/-- corner_count(posts, turns, point) -/
def spCount (K : PySem.W.Frag) : Sp := fun vs H Q _ => ∃ (N : Net) (pl d l : Addr) (xs : List V) (p : Nat), vs = [.ref pl, .ref d, .str (Net.pt N p)] ∧ N.Ok ∧ p < N.R.length ∧ SqL K H pl (postsV N) ∧
  DGet H d (.str (Net.pt N p)) (some (.ref l)) ∧ SqL K H l (wiresV (N.row p)) ∧ Q (.int (N.cc p : Nat)) H

abbrev s_turns_of : Stmt := top 15
theorem sc_turns_of : FnScope ["net", "turns", "point", "wires"] ["net"] (defScope s_turns_of) := ⟨rfl, rfl, rfl, by decide +kernel, rfl, by decide +kernel, by decide +kernel⟩
abbrev s_corner_count : Stmt := top 17
theorem sc_corner_count : FnScope ["posts", "turns", "point"] ["posts", "turns", "point"] (defScope s_corner_count) := ⟨rfl, rfl, rfl, by decide +kernel, rfl, by decide +kernel, by decide +kernel⟩
section
variable {P : Program} {w : World} {K : PySem.W.Frag} {mg : Str → Option Value} {base : Heap}
theorem ok_turns_of (T : Txt K mg) (D : Dfn K mg "turns_of" s_turns_of ["net"]) : Cal P w K mg base 1 "turns_of" spTurns [] := by
  refine cal_by D sc_turns_of (fun vs H Q E h => ?_) (fun f cdv A outer s H vs Q E hr h => ?_)
  · obtain ⟨G, v, N, rfl, _⟩ := h
    rfl
  · obtain ⟨G, v, N, rfl, O, s0, hn, k⟩ := h
    obtain ⟨a, pl, rl, wl, rs, ws, rfl, ha, hpl, hrl, hwl, hrs, hws⟩ := hn.ex
    have hu := hu_of hr
    refine ⟨_, (pss_cons (ps_set (i := 1) sc_turns_of.nd rfl (Or.inl rfl) pe_dnewK)
       (pss_cons (ps_for PassesOwn.never rfl (pi_list (pe_ix ix_tup (pv 0) (pe_int) (fun _ _ => rfl))) (pg_tup (by rfl) (pgs_cons (pg_name (i := 2) sc_turns_of.nd rfl (Or.inl rfl)) (pgs_cons (pg_name (i := 3) sc_turns_of.nd rfl (Or.inl rfl)) pgs_nil))) (pss_one (ps_dput hu (pv 1) (pv 2) (pe_callTy (call_list_of) (by rfl) T.list (by decide +kernel) (pa_cons (pv 3) pa_nil)) rfl)))
       (pss_one (ps_ret (pv 1))))), ?_⟩
    intro d hd
    have x0 : Ext G H G (upd H d (.dK [])) := (Ext.refl s0).allocM hd
    have d0 : G d = none := s0.free hd
    refine ⟨_, rfl, a, _, _, _, rfl, rfl, SqT.of (x0.s _ _ ha), at_of (j := 1) rfl rfl, rl, rfl, ⟨_, SqL.of (x0.s _ _ hrl)⟩, for_list (K := K) (a := rl) (xs := rs)
      (fun i σ H' => ∃ G' kvs v2 v3, σ = [some (.ref a), some (.ref d), v2, v3] ∧ Ext G H G' H' ∧ H' d = some (.dK kvs) ∧ G' d = none ∧ kvs.length = i ∧ Paired (TurnAt G' N) kvs (List.range i))
      ⟨G, [], none, none, rfl, x0, upd_same, d0, rfl, .nil⟩ (fun i σ H' _ ⟨G', kvs, _, _, _, x, _⟩ => SqL.of (x.s _ _ (x.g _ _ hrl))) ?_ ?_⟩
    · rintro i y σ H' hi ⟨G', kvs, v2, v3, rfl, x, h1, h2, hl, hp⟩
      obtain ⟨p, ep, t, lw, rfl, ht, hlw⟩ := paired_at hrs hi
      obtain ⟨hlt, rfl⟩ : i < N.R.length ∧ p = i := by
        obtain ⟨q1, q2⟩ := List.getElem?_eq_some_iff.mp ep
        rw [List.getElem_range] at q2
        exact ⟨by simpa using q1, q2.symm⟩
      refine ⟨t, _, rfl, SqT.of (x.s _ _ (x.g _ _ ht)), rfl, _, _, rfl, _, _, rfl, rfl, ?_⟩
      refine ⟨_, rfl, lw, _, rfl, .inl (SqL.of (x.s _ _ (x.g _ _ hlw))), fun l hl' => ?_⟩
      have ne : d ≠ l := ne_of_none h1 hl'
      have len : kvs.length < sizeLine := Nat.lt_of_le_of_lt (m := 14) (by have := O.n14; omega) (by decide)
      refine ⟨_, rfl, _, rfl, d, _, rfl, DPut.k (k := Sum.inr (Net.pt N p)) (by rw [upd_ne ne]; exact h1) len, ?_⟩
      refine ⟨upd G' l (.lst (wiresV (N.row p))), _, _, _, rfl, (x.alloc hl').mut (s0.free hd ▸ hd) (by rw [upd_ne ne]; exact h2), upd_same, by rw [upd_ne ne]; exact h2, ?_, ?_⟩
      · rw [putK_new _ (turns_not O hp hlt), List.length_append, hl]
        rfl
      · rw [putK_new _ (turns_not O hp hlt), List.range_succ]
        exact paired_snoc (Paired.mapP hp fun _ _ q => q.mono (same_new (x.newG hl'))) ⟨rfl, l, rfl, upd_same⟩
    · rintro σ H' ⟨G', kvs, v2, v3, rfl, x, h1, h2, _, hp⟩
      rw [Paired.length hrs, List.length_range] at hp
      refine ⟨_, rfl, ?_⟩
      refine k (upd G' d (.dK kvs)) H' _ (x.fin hd h2 h1) ⟨d, kvs, rfl, upd_same, Paired.mapP hp fun _ _ q => q.mono (same_new h2)⟩
theorem ok_corner_count (T : Txt K mg) (D : Dfn K mg "corner_count" s_corner_count ["posts", "turns", "point"]) : Cal P w K mg base 1 "corner_count" (spCount K) [] := by
  refine cal_by D sc_corner_count (fun vs H Q E h => ?_) (fun f cdv A outer s H vs Q E hr h => ?_)
  · obtain ⟨N, pl, d, l, xs, p, rfl, _⟩ := h
    rfl
  · obtain ⟨N, pl, d, l, xs, p, rfl, O, hp, q1, q2, q3, k⟩ := h
    have hu := hu_of hr
    refine ⟨_, (pss_one (ps_ret (pe_op op_add (pe_callB call_len_seq (by rfl) T.len PySem.boot_len (pa_cons (pe_dget hu (pv 1) (pv 2) (fun _ _ => rfl)) pa_nil)) (pe_callTy call_int1 (by rfl) T.int (by decide +kernel) (pa_cons (pe_cmpR op_in_seq (pv 2) (pv 0) (by rfl)) pa_nil))))), ?_⟩
    refine ⟨_, rfl, _, rfl, d, _, rfl, q2, l, _, rfl, .inl q3, ?_⟩
    refine ⟨_, rfl, _, rfl, pl, _, rfl, .inl q1, rfl, flat_posts, .inr ⟨_, rfl, ?_⟩⟩
    refine ⟨_, _, rfl, rfl, ?_⟩
    have e : (((wiresV (N.row p)).length : Nat) : Int) + (if inV (V.str (Net.pt N p)) (postsV N) = true then 1 else 0) = ((N.cc p : Nat) : Int) := by
      rw [in_posts O hp]
      unfold Net.cc wiresV
      rw [List.length_map]
      by_cases h : p < N.np
      · rw [decide_eq_true h, if_pos rfl, if_pos h]
        rfl
      · rw [decide_eq_false h, if_neg Bool.false_ne_true, if_neg h]
        rfl
    show Q (V.int ((((wiresV (N.row p)).length : Nat) : Int) + (if inV (V.str (Net.pt N p)) (postsV N) = true then 1 else 0))) H
    rw [e]
    exact k
end
end RimW

/-! mates_of. -/
namespace RimW
open PySem PySem.Spec PyProof.Rows L2 Rim
open C8 (Cal pe_c pss_cut tCut)

/-- mates_of(turns) -/
def spMates : Sp := fun vs H Q _ => ∃ (G : Hp) (v : V) (N : Net), vs = [v] ∧ N.Ok ∧ Same G H ∧ TurnsAt G v N ∧ ∀ G' H' x, Ext G H G' H' → MatesAt (byName N) G' x N → Q x H'
/-- a wire's name in a row -/
theorem wire_at {N : Net} {i j : Nat} {x : V} (h : (wiresV (N.row i))[j]? = some x) : ∃ w, N.wire (i, j) = some w ∧ x = .str (wn w) := by
  unfold wiresV at h
  rw [List.getElem?_map] at h
  cases e : (N.row i)[j]? with
  | none =>
    rw [e] at h
    cases h
  | some w =>
    rw [e] at h
    exact ⟨w, e, (Option.some.inj h).symm⟩
/-- what stands when the ends of rows < i and places < j are gone through -/
structure Mated (kp : Kp) (N : Net) (G : Hp) (i j : Nat) (fk : List (Key × V)) (mk : List (List Key × V)) : Prop where
  ex : ∃ F T, Mating N i j F T ∧ FirstRel kp G N fk F ∧ MateRel kp G N mk T
  fl : fk.length ≤ 40 * i + j
  ml : mk.length ≤ 80 * i + 2 * j
section
variable {kp : Kp} {N : Net} {G G' : Hp} {i j w : Nat} {fk : List (Key × V)} {mk : List (List Key × V)}
theorem mated_start : Mated kp N G 0 0 [] [] := ⟨⟨_, _, mating_start, first_start, mate_start⟩, Nat.zero_le _, Nat.zero_le _⟩
theorem Mated.mono (h : Mated kp N G i j fk mk) (s : Same G G') : Mated kp N G' i j fk mk := by
  obtain ⟨F, T, a, b, c⟩ := h.ex
  exact ⟨⟨F, T, a, b.mono s, c.mono s⟩, h.fl, h.ml⟩
theorem Mated.next (h : Mated kp N G i (N.row i).length fk mk) (O : N.Ok) : Mated kp N G (i + 1) 0 fk mk := by
  obtain ⟨F, T, a, b, c⟩ := h.ex
  have := row_len O i
  exact ⟨⟨F, T, a.nextRow, b, c⟩, by have := h.fl; omega, by have := h.ml; omega⟩
/-- the wire has been met, or not -/
theorem Mated.cases (h : Mated kp N G i j fk mk) (O : N.Ok) (hw : N.wire (i, j) = some w) :
    (valV fk (Sum.inr (wn w)) = none) ∨ ∃ t e, valV fk (Sum.inr (wn w)) = some (.ref t) ∧ G t = some (.tup ((ckey kp e).map kV)) := by
  obtain ⟨F, T, a, b, c⟩ := h.ex
  have hm := wire_lt O hw
  cases q : F w with
  | none => exact .inl ((b w hm).1 q)
  | some e =>
    obtain ⟨t, r1, r2⟩ := (b w hm).2 e q
    exact .inr ⟨t, e, r1, r2⟩
theorem Mated.lone (h : Mated kp N G i j fk mk) (O : N.Ok) (hw : N.wire (i, j) = some w) (no : valV fk (Sum.inr (wn w)) = none) (s : Same G G') {t : Addr} (ht : G' t = some (.tup ((ckey kp (i, j)).map kV))) :
    Mated kp N G' i (j + 1) (putK fk (Sum.inr (wn w)) (.ref t)) mk := by
  obtain ⟨F, T, a, b, c⟩ := h.ex
  have hm := wire_lt O hw
  have q : F w = none := by
    cases q : F w with
    | none => rfl
    | some e =>
      obtain ⟨t, r1, _⟩ := (b w hm).2 e q
      rw [no] at r1
      cases r1
  refine ⟨⟨fun v => if v = w then some (i, j) else F v, T, a.lone O hw q fun v => rfl, (b.mono s).put O hm ht, c.mono s⟩, ?_, ?_⟩
  · have := length_putK fk (Sum.inr (wn w)) (V.ref t)
    have := h.fl
    omega
  · have := h.ml
    omega
theorem Mated.pair (h : Mated kp N G i j fk mk) (O : N.Ok) (ko : KpOk kp N) (hw : N.wire (i, j) = some w) {t t' : Addr} (yes : valV fk (Sum.inr (wn w)) = some (.ref t)) (s : Same G G') (ht' : G' t' = some (.tup ((ckey kp (i, j)).map kV))) :
    ∃ e, G' t = some (.tup ((ckey kp e).map kV)) ∧ Mated kp N G' i (j + 1) fk (putK (putK mk (ckey kp (i, j)) (.ref t)) (ckey kp e) (.ref t')) := by
  obtain ⟨F, T, a, b, c⟩ := h.ex
  have hm := wire_lt O hw
  cases q : F w with
  | none =>
    rw [(b w hm).1 q] at yes
    cases yes
  | some e =>
    obtain ⟨t2, r1, r2⟩ := (b w hm).2 e q
    rw [yes] at r1
    cases r1
    have he := (a.first w e q).1
    have hij : N.End (i, j) := end_iff.mpr ⟨w, hw⟩
    refine ⟨e, s _ _ r2, ⟨_, _, a.pair O hw q fun v => rfl, b.mono s, ((c.mono s).put ko hij (s _ _ r2)).put ko he ht'⟩, ?_, ?_⟩
    · have := h.fl
      omega
    · have := length_putK (putK mk (ckey kp (i, j)) (V.ref t)) (ckey kp e) (V.ref t')
      have := length_putK mk (ckey kp (i, j)) (V.ref t)
      have := h.ml
      omega
theorem Mated.small (h : Mated kp N G i j fk mk) (hi : i ≤ 14) (hj : j ≤ 30) : fk.length < sizeLine ∧ mk.length + 1 < sizeLine := by
  have h1 := h.fl
  have h2 := h.ml
  have e : (5000 : Nat) < sizeLine := by decide
  omega
theorem Mated.done (h : Mated kp N G N.R.length 0 fk mk) (O : N.Ok) {c : At} (hc : N.End c) : ∃ t, valV mk (ckey kp c) = some (.ref t) ∧ G t = some (.tup ((ckey kp (N.mate c)).map kV)) := by
  obtain ⟨F, T, a, b, m⟩ := h.ex
  exact m c _ hc (a.done O hc)
end

abbrev s_mates_of : Stmt := top 16
theorem sc_mates_of : FnScope ["turns", "first", "mates", "point", "place", "wire"] ["turns"] (defScope s_mates_of) := ⟨rfl, rfl, rfl, by decide +kernel, rfl, by decide +kernel, by decide +kernel⟩
section
variable {P : Program} {w : World} {K : PySem.W.Frag} {mg : Str → Option Value} {base : Heap}
theorem ok_mates_of (T : Txt K mg) (D : Dfn K mg "mates_of" s_mates_of ["turns"]) : Cal P w K mg base 1 "mates_of" spMates [] := by
  refine cal_by D sc_mates_of (fun vs H Q E h => ?_) (fun f cdv A outer s H vs Q E hr h => ?_)
  · obtain ⟨G, v, N, rfl, _⟩ := h
    rfl
  · obtain ⟨G, v, N, rfl, O, s0, ⟨d, kvs, rfl, hd, hk⟩, k⟩ := h
    have hu := hu_of hr
    have ko : KpOk (byName N) N := byName_ok O
    have n14 := O.n14
    refine ⟨_, (pss_cons (ps_set (i := 1) sc_mates_of.nd rfl (Or.inl rfl) pe_dnewK)
       (pss_cons (ps_set (i := 2) sc_mates_of.nd rfl (Or.inl rfl) pe_dnewT)
       (pss_cons (ps_lock (ps_for PassesOwn.never rfl (pi_keys (pv 0)) (pg_name (i := 3) sc_mates_of.nd rfl (Or.inl rfl)) (pss_one (ps_for PassesOwn.never rfl (pi_enum (by rfl) T.enumerate (pa_cons (pe_dget hu (pv 0) (pv 3) (fun _ _ => rfl)) pa_nil)) (pg_tup (by rfl) (pgs_cons (pg_name (i := 4) sc_mates_of.nd rfl (Or.inl rfl)) (pgs_cons (pg_name (i := 5) sc_mates_of.nd rfl (Or.inl rfl)) pgs_nil))) (pss_one (ps_if (pt_cmp (pc_din hu (pv 5) (pv 1)) rfl) (pss_cons (ps_dput hu (pv 2) (pe_tup (pa_cons (pv 3) (pa_cons (pv 4) pa_nil))) (pe_dget hu (pv 1) (pv 5) (fun _ _ => rfl)) rfl)
       (pss_one (ps_dput hu (pv 2) (pe_dget hu (pv 1) (pv 5) (fun _ _ => rfl)) (pe_tup (pa_cons (pv 3) (pa_cons (pv 4) pa_nil))) rfl))) (pss_one (ps_dput hu (pv 1) (pv 5) (pe_tup (pa_cons (pv 3) (pa_cons (pv 4) pa_nil))) rfl))))))))
       (pss_one (ps_ret (pv 2)))))), ?_⟩
    intro fa hfa
    intro ma hma
    have x0 : Ext G H G (upd (upd H fa (.dK [])) ma (.dT [])) := ((Ext.refl s0).allocM hfa).allocM hma
    have nfm : fa ≠ ma := fun z => by
      rw [← z, upd_same] at hma
      cases hma
    have nf0 : H fa = none := hfa
    have nm0 : H ma = none := by
      rw [upd_ne nfm.symm] at hma
      exact hma
    have ndf : d ≠ fa := ne_of_none (s0 _ _ hd) nf0
    have ndm : d ≠ ma := ne_of_none (s0 _ _ hd) nm0
    refine ⟨d, .dK kvs, x0.s _ _ hd, trivial, fun od => ?_⟩
    have x1 : Ext (drop G d) (upd H d (.frz od (.dK kvs))) (drop G d) (upd (upd (upd H fa (.dK [])) ma (.dT [])) d (.frz od (.dK kvs))) := x0.lock
    have l1 : (upd H d (.frz od (.dK kvs))) fa = none := by rw [upd_ne ndf.symm]; exact nf0
    have l2' : (upd H d (.frz od (.dK kvs))) ma = none := by rw [upd_ne ndm.symm]; exact nm0
    have hk' : Paired (TurnAt (drop G d) N) kvs (List.range N.R.length) := Paired.mapP hk fun kv p ⟨e, l, e2, q⟩ => ⟨e, l, e2, drop_of hd q (by intro z; cases z)⟩
    have klen : kvs.length = N.R.length := by rw [Paired.length hk, List.length_range]
    -- the outer loop's word
    let Pv : Nat → Nat → L2.St → Hp → Prop := fun i j σ H' => ∃ G' fk mk, Ext (drop G d) (upd H d (.frz od (.dK kvs))) G' H' ∧ H' fa = some (.dK fk) ∧ G' fa = none ∧ H' ma = some (.dT mk) ∧ G' ma = none ∧ H' d = some (.frz od (.dK kvs)) ∧
      Mated (byName N) N G' i j fk mk
    refine ⟨_, rfl, d, od, rfl, .inl ⟨kvs, upd_same, for_keys (fun i σ H' => (∃ v3 v4 v5, σ = [some (.ref d), some (.ref fa), some (.ref ma), v3, v4, v5]) ∧ Pv i 0 σ H') ⟨⟨none, none, none, rfl⟩, drop G d, [], [], x1, ?_, ?_, ?_, ?_, upd_same, mated_start⟩
      (fun i σ H' q => let ⟨_, _, _, _, _, _, _, _, _, q, _⟩ := q; q) ?_ ?_⟩⟩
    · rw [upd_ne ndf.symm, upd_ne nfm, upd_same]
    · rw [drop_ne ndf.symm]
      exact s0.free nf0
    · rw [upd_ne ndm.symm, upd_same]
    · rw [drop_ne ndm.symm]
      exact s0.free nm0
    · rintro i kv σ H' hi ⟨⟨v3, v4, v5, rfl⟩, G', fk, mk, x, h1, h2, h3, h4, h5, h6⟩
      obtain ⟨p, ep, ekv, l, el, hl⟩ := paired_at hk' hi
      obtain ⟨hlt, rfl⟩ : i < N.R.length ∧ p = i := by
        obtain ⟨q1, q2⟩ := List.getElem?_eq_some_iff.mp ep
        rw [List.getElem_range] at q2
        exact ⟨by simpa using q1, q2.symm⟩
      have get := turns_get O hk' hlt
      obtain ⟨l2, g1, g2⟩ := get
      have hl2 : G' l2 = some (.lst (wiresV (N.row p))) := x.g _ _ g2
      rw [ekv]
      refine ⟨_, rfl, _, rfl, d, _, rfl, .inl ⟨kvs, Sum.inr (Net.pt N p), .inr ⟨od, h5⟩, rfl, g1.symm⟩, l2, _, rfl, SqL.of (x.s _ _ hl2), ?_⟩
      refine for_enum (K := K) (a := l2) (xs := wiresV (N.row p)) (fun j σ H' => (∃ v4 v5, σ = [some (.ref d), some (.ref fa), some (.ref ma), some (.str (Net.pt N p)), v4, v5]) ∧ Pv p j σ H' ∧ SqL K H' l2 (wiresV (N.row p)))
        ⟨⟨v4, v5, rfl⟩, ⟨G', fk, mk, x, h1, h2, h3, h4, h5, h6⟩, SqL.of (x.s _ _ hl2)⟩ (fun j σ H' _ q => q.2.2) ?_ ?_
      · rintro j y t σ H' hj ⟨⟨v4, v5, rfl⟩, ⟨G', fk, mk, x, h1, h2, h3, h4, h5, h6⟩, _⟩ ht
        obtain ⟨wi, hw, rfl⟩ := wire_at hj
        have hl2 : G' l2 = some (.lst (wiresV (N.row p))) := x.g _ _ g2
        have jl : j ≤ 30 := by
          have := (List.getElem?_eq_some_iff.mp hj).1
          unfold wiresV at this
          rw [List.length_map] at this
          have := row_len O p
          omega
        obtain ⟨sm1, sm2⟩ := h6.small (by omega) jl
        refine ⟨t, _, rfl, SqT.of upd_same, rfl, _, _, rfl, _, _, rfl, rfl, ?_⟩
        have x2 := x.alloc (o := .tup [.int (j : Nat), .str (wn wi)]) ht
        have a1 := up (o := .tup [.int (j : Nat), .str (wn wi)]) h1 ht
        have a2 := gp (o := .tup [.int (j : Nat), .str (wn wi)]) h1 ht h2
        have a3 := up (o := .tup [.int (j : Nat), .str (wn wi)]) h3 ht
        have a4 := gp (o := .tup [.int (j : Nat), .str (wn wi)]) h3 ht h4
        have a5 := up (o := .tup [.int (j : Nat), .str (wn wi)]) h5 ht
        have a6 := h6.mono (G' := upd G' t (.tup [.int (j : Nat), .str (wn wi)])) (same_new (x.newG ht))
        refine ⟨_, rfl, _, rfl, fa, _, rfl, DGet.k (k := Sum.inr (wn wi)) a1, _, rfl, ?_⟩
        rcases a6.cases O hw with no | ⟨t1, e, yes, ht1⟩
        · rw [no]
          refine ifF rfl ?_
          refine ⟨_, rfl, _, rfl, (by show 2 ≤ sizeLine; decide), fun t2 ht2 => ⟨_, rfl, _, rfl, fa, _, rfl, DPut.k (k := Sum.inr (wn wi)) (up a1 ht2) sm1, ?_⟩⟩
          have x3 := (x2.alloc (o := .tup [.str (Net.pt N p), .int (j : Nat)]) ht2).mut (o := .dK (putK fk (Sum.inr (wn wi)) (.ref t2))) l1 (gp a1 ht2 a2)
          exact ⟨⟨_, _, rfl⟩, ⟨_, _, _, x3, upd_same, gp a1 ht2 a2, ap nfm.symm (up a3 ht2), gp a3 ht2 a4, ap ndf (up a5 ht2), a6.lone O hw no (same_new (x2.newG ht2)) upd_same⟩, SqL.of (x3.s _ _ (x3.g _ _ g2))⟩
        · rw [yes]
          refine ifT rfl ?_
          -- mates[point, place] = first[wire]
          refine ⟨_, rfl, _, rfl, fa, _, rfl, .inl ⟨fk, Sum.inr (wn wi), .inl a1, rfl, yes.symm⟩, _, rfl, _, rfl, _, rfl, (by show 2 ≤ sizeLine; decide), fun t2 ht2 => ?_⟩
          refine ⟨ma, _, rfl, DPut.t (k := ckey (byName N) (p, j)) (up a3 ht2) upd_same (by omega), ?_⟩
          have x3 := (x2.alloc (o := .tup [.str (Net.pt N p), .int (j : Nat)]) ht2).mut (d := ma) (o := .dT (putK mk (ckey (byName N) (p, j)) (.ref t1))) l2' (gp a3 ht2 a4)
          -- mates[first[wire]] = (point, place)
          refine ⟨_, rfl, _, rfl, (by show 2 ≤ sizeLine; decide), fun t3 ht3 => ?_⟩
          obtain ⟨e', ht1', m7⟩ := a6.pair O ko hw yes (G' := upd (upd (upd G' t (.tup [.int (j : Nat), .str (wn wi)])) t2 (.tup [.str (Net.pt N p), .int (j : Nat)])) t3 (.tup [.str (Net.pt N p), .int (j : Nat)]))
            ((same_new (x2.newG ht2)).trans (same_new (x3.newG ht3))) (t' := t3) upd_same
          have x4 := x3.alloc (o := .tup [.str (Net.pt N p), .int (j : Nat)]) ht3
          have b1 := ap (d := ma) (o := .dT (putK mk (ckey (byName N) (p, j)) (.ref t1))) nfm (up (o := .tup [.str (Net.pt N p), .int (j : Nat)]) a1 ht2)
          have b4 := gp (G := upd (upd G' t (.tup [.int (j : Nat), .str (wn wi)])) t2 (.tup [.str (Net.pt N p), .int (j : Nat)])) (o := .tup [.str (Net.pt N p), .int (j : Nat)]) upd_same ht3 (gp a3 ht2 a4)
          refine ⟨_, rfl, _, rfl, _, rfl, fa, _, rfl, .inl ⟨fk, Sum.inr (wn wi), .inl (up b1 ht3), rfl, yes.symm⟩, ma, _, rfl, DPut.t (k := ckey (byName N) e') (up upd_same ht3) (x4.s _ _ ht1') ?_, ?_⟩
          · have := length_putK mk (ckey (byName N) (p, j)) (V.ref t1)
            omega
          have x5 := x4.mut (d := ma) (o := .dT (putK (putK mk (ckey (byName N) (p, j)) (.ref t1)) (ckey (byName N) e') (.ref t3))) l2' b4
          exact ⟨⟨_, _, rfl⟩, ⟨_, _, _, x5, ap nfm (up b1 ht3), gp b1 ht3 (gp a1 ht2 a2), upd_same, b4, ap ndm (up (ap ndm (up a5 ht2)) ht3), m7⟩, SqL.of (x5.s _ _ (x5.g _ _ g2))⟩
      · rintro σ H' ⟨⟨v4, v5, rfl⟩, ⟨G', fk, mk, x, h1, h2, h3, h4, h5, h6⟩, _⟩
        refine ⟨⟨_, _, _, rfl⟩, G', fk, mk, x, h1, h2, h3, h4, h5, ?_⟩
        unfold wiresV at h6
        rw [List.length_map] at h6
        exact h6.next O
    · rintro σ H' ⟨⟨v3, v4, v5, rfl⟩, G', fk, mk, x, h1, h2, h3, h4, h5, h6⟩
      refine ⟨h5, _, rfl, ?_⟩
      rw [klen] at h6
      have y : Ext G H (upd G' d (.dK kvs)) (upd H' d (.dK kvs)) := Ext.unlock (Ext.refl s0) hd x
      refine k _ _ _ (y.fin (d := ma) nm0 (by rw [upd_ne ndm.symm]; exact h4) (by rw [upd_ne ndm.symm]; exact h3)) ⟨ma, mk, rfl, upd_same, fun c hc => ?_⟩
      obtain ⟨t, r1, r2⟩ := h6.done O hc
      have ntd : t ≠ d := fun z => by
        have q := x.s _ _ r2
        rw [z, h5] at q
        cases q
      refine ⟨t, r1, ?_⟩
      rw [upd_ne (fun z => by rw [z, h4] at r2; cases r2), upd_ne ntd]
      exact r2
end
end RimW

/-! corners_of, corner_behind. -/
namespace RimW
open PySem PySem.Spec PyProof.Rows L2 Rim
open C8 (Cal pe_c pss_cut tCut)

abbrev spCorners : Sp := spNet fun G v N => CorsAt (byName N) G v N.cors
/-- corner_behind(posts, turns, mates, corner), region_from(..) -/
def spCorner (post : Net → Hp → V → At → Prop) : Sp := fun vs H Q _ => ∃ (G : Hp) (pl : Addr) (tv mv cv : V) (N : Net) (c : At), vs = [.ref pl, tv, mv, cv] ∧ N.Ok ∧ Same G H ∧ G pl = some (.lst (postsV N)) ∧ TurnsAt G tv N ∧ MatesAt (byName N) G mv N ∧
  IsC (byName N) G cv c ∧ N.Cor c ∧ ∀ G' H' x, Ext G H G' H' → post N G' x c → Q x H'
abbrev spBehind : Sp := spCorner fun N G v c => IsC (byName N) G v (N.nx c)

theorem tyes {Q : Bool → Hp → Prop} {σ : L2.St} {H : Hp} (h : Q true H) : tYes σ H Q := h
theorem eqV_self (z : Str) : eqV (.str z) (.str z) = true := by simp [eqV]
theorem posts_at {N : Net} {p : Nat} (h : p < N.np) : (postsV N)[p]? = some (.str (Net.pt N p)) := by
  unfold postsV
  rw [List.getElem?_map, List.getElem?_range h]
  rfl
theorem posts_len {N : Net} : (postsV N).length = N.np := by unfold postsV; rw [List.length_map, List.length_range]
theorem posts_prev {N : Net} (O : N.Ok) {p : Nat} (h : p < N.np) : atI (postsV N) ((p : Int) - 1) = some (.str (Net.pt N (N.prev p))) := by
  have q := posts_at (prev_lt O h)
  unfold Net.prev at q ⊢
  by_cases z : p = 0
  · subst z
    rw [if_pos rfl] at q ⊢
    obtain ⟨m, em⟩ : ∃ m, N.np = m + 1 := ⟨N.np - 1, by have := O.p1; omega⟩
    have e : postsV N = ((List.range m).map fun p => V.str (Net.pt N p)) ++ [.str (Net.pt N (N.np - 1))] := by
      unfold postsV
      rw [em, List.range_succ, List.map_append]
      rfl
    rw [e]
    exact atI_last _ _
  · rw [if_neg z] at q ⊢
    exact at_of (j := p - 1) (by omega) q
theorem wires_len {r : List Nat} : (wiresV r).length = r.length := by unfold wiresV; rw [List.length_map]
/-- a point's place among the posts -/
theorem posts_first {N : Net} (O : N.Ok) {p : Nat} (h : p < N.np) : ∀ (m : Nat) (z : V), m < p → (postsV N)[m]? = some z → eqV z (.str (Net.pt N p)) = false := by
  intro m z hm e
  rw [posts_at (by omega)] at e
  cases e
  have := O.pn
  have ne : Net.pt N m ≠ Net.pt N p := fun q => by
    have := pt_inj O (by omega) (by omega) q
    omega
  simpa [eqV] using ne

abbrev s_corners_of : Stmt := top 18
theorem sc_corners_of : FnScope ["net", "turns", "found", "point", "place"] ["net"] (defScope s_corners_of) := ⟨rfl, rfl, rfl, by decide +kernel, rfl, by decide +kernel, by decide +kernel⟩
abbrev s_corner_behind : Stmt := top 19
theorem sc_corner_behind : FnScope ["posts", "turns", "mates", "corner", "point", "place", "there", "at"] ["posts", "turns", "mates", "corner"] (defScope s_corner_behind) := ⟨rfl, rfl, rfl, by decide +kernel, rfl, by decide +kernel, by decide +kernel⟩
section
variable {P : Program} {w : World} {K : PySem.W.Frag} {mg : Str → Option Value} {base : Heap}
theorem ok_corners_of (T : Txt K mg) (D : Dfn K mg "corners_of" s_corners_of ["net"]) (Cturns_of : Cal P w K mg base 1 "turns_of" spTurns []) (Ccorner_count : Cal P w K mg base 1 "corner_count" (spCount K) []) : Cal P w K mg base 2 "corners_of" spCorners [] := by
  refine cal_by D sc_corners_of (fun vs H Q E h => ?_) (fun f cdv A outer s H vs Q E hr h => ?_)
  · obtain ⟨G, v, N, rfl, _⟩ := h
    rfl
  · obtain ⟨G, v, N, rfl, O, s0, hn, k⟩ := h
    obtain ⟨a, pl, rl, wl, rs, ws, rfl, ha, hpl, hrl, hwl, hrs, hws⟩ := id hn.ex
    have hu := hu_of hr
    have n14 := O.n14
    refine ⟨_, (pss_cons (ps_set (i := 1) sc_corners_of.nd rfl (Or.inl rfl) (pe_c Cturns_of hr (by decide) rfl (pa_cons (pv 0) pa_nil)))
       (pss_cons (ps_set (i := 2) sc_corners_of.nd rfl (Or.inl rfl) (pe_lst pa_nil))
       (pss_cons (ps_lock (ps_for PassesOwn.never rfl (pi_keys (pv 1)) (pg_name (i := 3) sc_corners_of.nd rfl (Or.inr rfl)) (pss_one (ps_expr (pe_bm PySem.F.plainAttrs_list PySem.F.slot_list_extend PySem.F.type_list_extend mt_extend (pv 2) (pa_cons (pe_lc (own := [("place", 4)]) (g := gName 4) (by rfl) sc_corners_of.nd (pi_range1 (by rfl) T.range (pa_cons (pe_c Ccorner_count hr (by decide) rfl (pa_cons (pe_ix ix_tup (pv 0) (pe_int) (fun _ _ => rfl)) (pa_cons (pv 1) (pa_cons (pv 3) pa_nil)))) pa_nil)) (blkOk_by (N := ["net", "turns", "found", "point", "place"]) (sc := defScope s_corners_of) (by decide +kernel)) (fun _ _ _ _ _ => pg_name (i := 4) sc_corners_of.nd rfl (Or.inl rfl)) (fun _ _ _ _ _ => pts_nil) (fun _ _ _ _ _ => (pe_tup (pa_cons (pv 3) (pa_cons (pv 4) pa_nil))))) pa_nil))))))
       (pss_one (ps_ret (pv 2)))))), ?_⟩
    refine ⟨_, rfl, G, _, N, rfl, O, s0, hn, ?_⟩
    rintro G1 H1 _ x1 ⟨d, kvs, rfl, hd, hk⟩
    refine ⟨Nat.zero_le _, fun fa hfa => ?_⟩
    have x2 := x1.allocM (o := .lst []) hfa
    have ndf : d ≠ fa := ne_of_none (x1.s _ _ hd) hfa
    refine ⟨d, .dK kvs, x2.s _ _ hd, trivial, fun od => ?_⟩
    have x3 := x2.lock (d := d) (o := .frz od (.dK kvs))
    have hk' : Paired (TurnAt (drop G1 d) N) kvs (List.range N.R.length) := Paired.mapP hk fun kv p ⟨e, l, e2, q⟩ => ⟨e, l, e2, drop_of hd q (by intro z; cases z)⟩
    have klen : kvs.length = N.R.length := by rw [Paired.length hk, List.length_range]
    have ha' : drop G1 d a = some (.tup [.ref pl, .ref rl, .ref wl]) := drop_of hd (x1.g _ _ ha) (by intro z; cases z)
    have hpl' : drop G1 d pl = some (.lst (postsV N)) := drop_of hd (x1.g _ _ hpl) (by intro z; cases z)
    have hf0 : (upd H d (.frz od (.dK kvs))) fa = none := ap ndf.symm (x1.new hfa)
    refine ⟨_, rfl, d, od, rfl, .inl ⟨kvs, upd_same, for_keys (fun i σ H' => (∃ v3 v4, σ = [some (.ref a), some (.ref d), some (.ref fa), v3, v4]) ∧ ∃ G' xs, Ext (drop G d) (upd H d (.frz od (.dK kvs))) G' H' ∧ Same (drop G1 d) G' ∧
        H' fa = some (.lst xs) ∧ G' fa = none ∧ H' d = some (.frz od (.dK kvs)) ∧ IsCs (byName N) G' xs (N.corsTo i))
      ⟨⟨none, none, rfl⟩, drop G1 d, [], x3, Same.refl _, ap ndf.symm upd_same, ?_, upd_same, .nil⟩ (fun i σ H' q => let ⟨_, _, _, _, _, _, _, q, _⟩ := q; q) ?_ ?_⟩⟩
    · rw [drop_ne ndf.symm]
      exact x1.newG hfa
    · rintro i kv σ H' hi ⟨⟨v3, v4, rfl⟩, G', xs, x, sg, h1, h2, h3, h4⟩
      obtain ⟨p, ep, ekv, l, el, hl⟩ := paired_at hk' hi
      obtain ⟨hlt, rfl⟩ : i < N.R.length ∧ p = i := by
        obtain ⟨q1, q2⟩ := List.getElem?_eq_some_iff.mp ep
        rw [List.getElem_range] at q2
        exact ⟨by simpa using q1, q2.symm⟩
      obtain ⟨l2, g1, g2⟩ := turns_get O hk' hlt
      rw [ekv]
      have cc : N.cc p ≤ 31 := by
        have := row_len O p
        unfold Net.cc
        split <;> omega
      have cl : (N.corsTo p).length ≤ 34 := by
        refine Nat.le_trans ((corsTo_nd p).length_le_of_subset fun c hc => ?_) (cors_len O)
        obtain ⟨q1, q2⟩ := mem_corsTo.mp hc
        exact mem_corsTo.mpr ⟨by omega, q2⟩
      have xl : xs.length ≤ 34 := by
        rw [h4.len]
        exact cl
      refine ⟨_, rfl, .inl ⟨rfl, _, SqL.of h1⟩, ?_⟩
      refine ⟨_, rfl, a, _, _, _, rfl, rfl, SqT.of (x.s _ _ (sg _ _ ha')), at_of (j := 0) rfl rfl, _, rfl, _, rfl, N, pl, d, l2, [], p, rfl, O, hlt, SqL.of (x.s _ _ (sg _ _ hpl')), .inl ⟨kvs, Sum.inr (Net.pt N p), .inr ⟨od, h3⟩, rfl, g1.symm⟩, SqL.of (x.s _ _ (sg _ _ g2)), ?_⟩
      refine ⟨_, rfl, by omega, by omega, fun D hD => lc_range (lo := 0) (n := N.cc p) (fun j H2 => ∃ G2 acc, Ext (drop G d) (upd H d (.frz od (.dK kvs))) G2 H2 ∧ Same G' G2 ∧ H2 fa = some (.lst xs) ∧ G2 fa = none ∧ H2 d = some (.frz od (.dK kvs)) ∧
        H2 D = some (.lst acc) ∧ G2 D = none ∧ acc.length = j ∧ IsCs (byName N) G2 acc ((List.range j).map fun k => (p, k)))
        ⟨G', [], x.allocM hD, Same.refl _, up h1 hD, h2, up h3 hD, upd_same, x.newG hD, rfl, .nil⟩ ?_ ?_⟩
      · rintro j H2 hj ⟨G2, acc, y, sg2, y1, y2, y3, y4, y5, y6, y7⟩
        refine ⟨rfl, tyes (ifT rfl ?_)⟩
        refine ⟨_, rfl, _, rfl, (by show 2 ≤ sizeLine; decide), fun t ht => ⟨acc, up y4 ht, Nat.lt_of_le_of_lt (m := 31) (by omega) (by decide), ?_⟩⟩
        have y8 := (y.alloc (o := .tup [.str (Net.pt N p), .int (0 + (j : Int))]) ht).mut (d := D) (o := .lst (acc ++ [.ref t])) (x.new hD) (gp y4 ht y5)
        have nDf : fa ≠ D := ne_of_none h1 hD
        have nDd : d ≠ D := ne_of_none h3 hD
        refine ⟨_, _, y8, sg2.trans (same_new (y.newG ht)), ap nDf (up y1 ht), gp y1 ht y2, ap nDd (up y3 ht), upd_same, gp y4 ht y5, by rw [List.length_append, y6]; rfl, ?_⟩
        rw [List.range_succ, List.map_append]
        refine paired_snoc (y7.mono (same_new (y.newG ht))) ⟨t, rfl, ?_⟩
        rw [upd_same, Int.zero_add]
        rfl
      · rintro H2 ⟨G2, acc, y, sg2, y1, y2, y3, y4, y5, y6, y7⟩
        refine ⟨fa, D, _, _, rfl, rfl, y1, y4, ?_, ?_⟩
        · exact Nat.le_trans (m := 100) (by omega) (by decide)
        · have y8 := y.mut (d := fa) (o := .lst (xs ++ acc)) hf0 y2
          refine ⟨⟨_, _, rfl⟩, G2, _, y8, sg.trans sg2, upd_same, y2, ap ndf y3, ?_⟩
          rw [corsTo_succ]
          exact paired_app (h4.mono sg2) y7
    · rintro σ H' ⟨⟨v3, v4, rfl⟩, G', xs, x, sg, h1, h2, h3, h4⟩
      rw [klen] at h4
      refine ⟨h3, _, rfl, ?_⟩
      have y : Ext G H (upd G' d (.dK kvs)) (upd H' d (.dK kvs)) := x1.unlock hd x
      refine k _ _ _ (y.fin (d := fa) (x1.new hfa) (by rw [upd_ne ndf.symm]; exact h2) (by rw [upd_ne ndf.symm]; exact h1)) ⟨fa, xs, rfl, upd_same, ?_⟩
      refine Paired.mapP h4 fun v c ⟨t, e, q⟩ => ⟨t, e, ?_⟩
      rw [upd_ne (fun z => by rw [z, h2] at q; cases q), upd_ne (fun z => by
        have q := x.s _ _ q
        rw [z, h3] at q
        cases q)]
      exact q
theorem ok_corner_behind (T : Txt K mg) (D : Dfn K mg "corner_behind" s_corner_behind ["posts", "turns", "mates", "corner"]) : Cal P w K mg base 1 "corner_behind" spBehind [] := by
  refine cal_by D sc_corner_behind (fun vs H Q E h => ?_) (fun f cdv A outer s H vs Q E hr h => ?_)
  · obtain ⟨G, pl, tv, mv, cv, N, c, rfl, _⟩ := h
    rfl
  · obtain ⟨G, pl, _, _, _, N, c, rfl, O, s0, hpl, ⟨d, kvs, rfl, hd, hk⟩, ⟨md, mkvs, rfl, hmd, hmk⟩, ⟨t, rfl, ht⟩, hc, k⟩ := h
    have hu := hu_of hr
    refine ⟨_, (pss_cons (ps_asg (pv 3) (pg_tup (by rfl) (pgs_cons (pg_name (i := 4) sc_corner_behind.nd rfl (Or.inl rfl)) (pgs_cons (pg_name (i := 5) sc_corner_behind.nd rfl (Or.inl rfl)) pgs_nil))))
       (pss_cons (ps_if (pt_cmpR op_eq (pv 5) (pe_callB call_len_seq (by rfl) T.len PySem.boot_len (pa_cons (pe_dget hu (pv 1) (pv 4) (fun _ _ => rfl)) pa_nil)) (nomark _)) (pss_one (ps_ret (pe_tup (pa_cons (pe_ix ix_list (pv 0) (pe_op op_sub (pe_bm PySem.F.plainAttrs_list PySem.F.slot_list_index PySem.F.type_list_index mt_index (pv 0) (pa_cons (pv 4) pa_nil)) (pe_int)) (fun _ _ => rfl)) (pa_cons (pe_int) pa_nil))))) pss_nil)
       (pss_cons (ps_asg (pe_dget hu (pv 2) (pe_tup (pa_cons (pv 4) (pa_cons (pv 5) pa_nil))) (fun _ _ => rfl)) (pg_tup (by rfl) (pgs_cons (pg_name (i := 6) sc_corner_behind.nd rfl (Or.inl rfl)) (pgs_cons (pg_name (i := 7) sc_corner_behind.nd rfl (Or.inl rfl)) pgs_nil))))
       (pss_cons (ps_if (pt_cmpR op_in_seq (pv 6) (pv 0) (by rfl)) (pss_one (ps_ret (pe_tup (pa_cons (pv 6) (pa_cons (pe_op op_add (pv 7) (pe_int)) pa_nil))))) pss_nil)
       (pss_one (ps_ret (pe_tup (pa_cons (pv 6) (pa_cons (pe_op op_mod (pe_op op_add (pv 7) (pe_int)) (pe_callB call_len_seq (by rfl) T.len PySem.boot_len (pa_cons (pe_dget hu (pv 1) (pv 6) (fun _ _ => rfl)) pa_nil))) pa_nil))))))))), ?_⟩
    obtain ⟨l, g1, g2⟩ := turns_get O hk hc.1
    refine ⟨_, rfl, t, _, rfl, SqT.of (s0 _ _ ht), rfl, _, _, rfl, _, _, rfl, rfl, ?_⟩
    refine ⟨_, rfl, _, rfl, _, rfl, d, _, rfl, .inl ⟨kvs, Sum.inr (Net.pt N c.1), .inl (s0 _ _ hd), rfl, g1.symm⟩, l, _, rfl, .inl (SqL.of (s0 _ _ g2)), rfl, _, rfl, ?_⟩
    rw [wires_len]
    rcases Cor.cases hc with he | ⟨hp, he⟩
    · have ne : decide (V.int (c.2 : Nat) = V.int ((N.row c.1).length : Nat)) = false := decide_eq_false fun q => End.ne he (by have := V.int.inj q; omega)
      refine ifF ne ?_
      obtain ⟨t2, m1, m2⟩ := hmk c he
      have hm := mate_end O he
      have hml := End.lt hm
      obtain ⟨l2, g3, g4⟩ := turns_get O hk hml
      refine ⟨_, rfl, _, rfl, _, rfl, (by show 2 ≤ sizeLine; decide), fun t3 ht3 => ?_⟩
      have x1 := (Ext.refl s0).alloc (o := .tup [.str (Net.pt N c.1), .int (c.2 : Nat)]) ht3
      refine ⟨md, _, rfl, .inr ⟨mkvs, ckey (byName N) c, t3, .inl (x1.s _ _ (x1.g _ _ hmd)), rfl, upd_same, m1.symm⟩, ?_⟩
      refine ⟨t2, _, rfl, SqT.of (x1.s _ _ (x1.g _ _ m2)), rfl, _, _, rfl, _, _, rfl, rfl, ?_⟩
      refine ⟨_, rfl, _, rfl, pl, _, rfl, .inl (SqL.of (x1.s _ _ (x1.g _ _ hpl))), rfl, flat_posts, _, rfl, ?_⟩
      by_cases q : (N.mate c).1 < N.np
      · refine ifT ((in_posts O hml).trans (decide_eq_true q)) ?_
        refine ⟨_, rfl, _, rfl, _, _, rfl, rfl, (by show 2 ≤ sizeLine; decide), fun t4 ht4 => ?_⟩
        refine k _ _ _ (x1.alloc ht4) ⟨t4, rfl, ?_⟩
        rw [upd_same, nx_post (End.ne he) q]
        rfl
      · refine ifF ((in_posts O hml).trans (decide_eq_false q)) ?_
        have rl : 0 < (N.row (N.mate c).1).length := Nat.lt_of_le_of_lt (Nat.zero_le _) hm
        refine ⟨_, rfl, _, rfl, _, _, rfl, rfl, _, rfl, _, rfl, d, _, rfl, .inl ⟨kvs, Sum.inr (Net.pt N (N.mate c).1), .inl (x1.s _ _ (x1.g _ _ hd)), rfl, g3.symm⟩, l2, _, rfl, .inl (SqL.of (x1.s _ _ (x1.g _ _ g4))), _, _, rfl, rfl, ?_, (by show 2 ≤ sizeLine; decide), fun t4 ht4 => ?_⟩
        · show (0 : Int) < ((wiresV (N.row (N.mate c).1)).length : Nat)
          rw [wires_len]
          omega
        · refine k _ _ _ (x1.alloc ht4) ⟨t4, rfl, ?_⟩
          have e : (((N.mate c).2 : Nat) + 1 : Int) % ((wiresV (N.row (N.mate c).1)).length : Nat) = ((((N.mate c).2 + 1) % (N.row (N.mate c).1).length : Nat) : Int) := by
            rw [wires_len, Int.natCast_emod]
            rfl
          rw [upd_same, nx_in (End.ne he) q]
          exact congrArg (fun z : Int => some (HO.tup [V.str (Net.pt N (N.mate c).1), V.int z])) e
    · refine ifT (decide_eq_true (congrArg (fun n : Nat => V.int (n : Int)) he)) ?_
      have at0 := posts_prev O hp
      refine ⟨_, rfl, _, rfl, .inl ⟨rfl, _, SqL.of (s0 _ _ hpl)⟩, _, rfl, pl, _, _, c.1, .str (Net.pt N c.1), rfl, rfl, SqL.of (s0 _ _ hpl), rfl, flat_posts, posts_at hp, eqV_self _, posts_first O hp, ?_⟩
      refine ⟨_, _, rfl, rfl, pl, _, _, _, rfl, rfl, SqL.of (s0 _ _ hpl), at0, (by show 2 ≤ sizeLine; decide), fun t4 ht4 => ?_⟩
      refine k _ _ _ ((Ext.refl s0).alloc ht4) ⟨t4, rfl, ?_⟩
      rw [upd_same, nx_rim he]
      rfl
end
end RimW

/-! region_from, all_regions, regions_of. -/
namespace RimW
open PySem PySem.Spec PyProof.Rows L2 Rim
open C8 (Cal pe_c pss_cut tCut)

/-! ### == of corners -/
def kD : Key → PyData
  | .inl i => .int i
  | .inr z => .str z
theorem kD_eqv : ∀ a b : Key, PyData.eqv (kD a) (kD b) = decide (a = b)
  | .inl i, .inl j => by
    rw [Bool.eq_iff_iff]
    simp [kD, PyData.eqv]
  | .inr i, .inr j => by
    rw [Bool.eq_iff_iff]
    simp [kD, PyData.eqv]
  | .inl i, .inr j => by
    rw [Bool.eq_iff_iff]
    simp [kD, PyData.eqv]
  | .inr i, .inl j => by
    rw [Bool.eq_iff_iff]
    simp [kD, PyData.eqv]
theorem kD_dp {K : PySem.W.Frag} {H : Hp} : ∀ a : Key, Dp K H (kV a) (kD a)
  | .inl i => .int i
  | .inr z => .str z
def cD (kp : Kp) (c : At) : PyData := .tuple [kD (kp c.1), .int (c.2 : Int)]
theorem cD_eqv {N : Net} {kp : Kp} (ko : KpOk kp N) {c d : At} (hc : c.1 < N.R.length) (hd : d.1 < N.R.length) : PyData.eqv (cD kp c) (cD kp d) = decide (c = d) := by
  have e : PyData.eqv (cD kp c) (cD kp d) = (PyData.eqv (kD (kp c.1)) (kD (kp d.1)) && ((c.2 : Int) == (d.2 : Int))) := by
    unfold cD
    simp [PyData.eqv, PyData.eqvAll]
  rw [e, kD_eqv, Bool.eq_iff_iff]
  simp only [Bool.and_eq_true, decide_eq_true_eq, beq_iff_eq]
  constructor
  · rintro ⟨h1, h2⟩
    exact Prod.ext (ko _ _ hc hd h1) (by omega)
  · rintro rfl
    exact ⟨rfl, rfl⟩
theorem cD_dp {K : PySem.W.Frag} {kp : Kp} {G H : Hp} (s : Same G H) {x : V} {c : At} (h : IsC kp G x c) : Dp K H x (cD kp c) := by
  obtain ⟨t, rfl, q⟩ := h
  exact .tup (SqT.of (s _ _ q)) (.cons (kD_dp _) (.cons (.int _) .nil))
def KpLay (kp : Kp) (N : Net) : Prop := ∀ p, p < N.R.length → PyData.canLay0 (kD (kp p)) = true ∧ (kD (kp p)).depth = 0
theorem cD_shaped {N : Net} {kp : Kp} (kl : KpLay kp N) {c : At} (hc : c.1 < N.R.length) : SeqAt.shaped (cD kp c) = true := by
  obtain ⟨h1, h2⟩ := kl _ hc
  unfold SeqAt.shaped
  rw [Bool.and_eq_true_iff]
  refine ⟨?_, decide_eq_true ?_⟩
  · simp [cD, PyData.canLay0, PyData.canLayAll0, h1]
  · simp [cD, PyData.depth, PyData.depthAll, h2]
theorem byName_lay {N : Net} (O : N.Ok) : KpLay (byName N) N := fun p hp => ⟨by
  show PyData.canLay0 (.str (Net.pt N p)) = true
  rw [PyData.canLay0]
  exact (pt_good O hp).ok, by
  show PyData.depth (.str (Net.pt N p)) = 0
  rw [PyData.depth]⟩
theorem byNum_lay {N : Net} : KpLay byNum N := fun p hp => ⟨by
  show PyData.canLay0 (.int (p : Int)) = true
  rw [PyData.canLay0], by
  show PyData.depth (.int (p : Int)) = 0
  rw [PyData.depth]⟩

/-! ### what has been seen -/
def SeenRel (kp : Kp) (N : Net) (kvs : List (List Key × V)) (L : List At) : Prop := (∀ c, N.Cor c → (valV kvs (ckey kp c)).isSome = decide (c ∈ L)) ∧ kvs.length ≤ L.length
section
variable {kp : Kp} {N : Net} {kvs : List (List Key × V)} {L : List At}
theorem seen_start : SeenRel kp N [] [] := ⟨fun c _ => by rw [valV_nil]; simp, Nat.le_refl _⟩
theorem SeenRel.put (h : SeenRel kp N kvs L) (ko : KpOk kp N) {c : At} (hc : N.Cor c) (v : V) : SeenRel kp N (putK kvs (ckey kp c) v) (L ++ [c]) := by
  refine ⟨fun d hd => ?_, ?_⟩
  · rw [valV_put]
    by_cases e : d = c
    · subst e
      rw [if_pos rfl]
      simp
    · rw [if_neg fun q => e (ckey_inj ko hd.1 hc.1 q), h.1 d hd, decide_eq_decide, List.mem_append, List.mem_singleton]
      exact ⟨fun m => .inl m, fun m => m.resolve_right e⟩
  · have := length_putK kvs (ckey kp c) v
    have := h.2
    rw [List.length_append, List.length_singleton]
    omega
end
theorem take_snoc {α : Type} {l : List α} {i : Nat} {x : α} (h : l[i]? = some x) : l.take (i + 1) = l.take i ++ [x] := by
  rw [List.take_succ, h]
  rfl

abbrev spRegion : Sp := spCorner fun N G v c => CorsAt (byName N) G v (round N.nx c)
abbrev spRegions : Sp := spNet fun G v N => RegsAt (byName N) G v N.regs

abbrev s_region_from : Stmt := top 20
theorem sc_region_from : FnScope ["posts", "turns", "mates", "corner", "found", "here"] ["posts", "turns", "mates", "corner"] (defScope s_region_from) := ⟨rfl, rfl, rfl, by decide +kernel, rfl, by decide +kernel, by decide +kernel⟩
abbrev s_all_regions : Stmt := top 21
theorem sc_all_regions : FnScope ["net", "turns", "mates", "seen", "found", "corner", "region", "one"] ["net"] (defScope s_all_regions) := ⟨rfl, rfl, rfl, by decide +kernel, rfl, by decide +kernel, by decide +kernel⟩
abbrev s_regions_of : Stmt := top 27
theorem sc_regions_of : FnScope ["net"] ["net"] (defScope s_regions_of) := ⟨rfl, rfl, rfl, by decide +kernel, rfl, by decide +kernel, by decide +kernel⟩
section
variable {P : Program} {w : World} {K : PySem.W.Frag} {mg : Str → Option Value} {base : Heap}
theorem ok_region_from (T : Txt K mg) (D : Dfn K mg "region_from" s_region_from ["posts", "turns", "mates", "corner"]) (Ccorner_behind : Cal P w K mg base 1 "corner_behind" spBehind []) : Cal P w K mg base 2 "region_from" spRegion [] := by
  refine cal_by D sc_region_from (fun vs H Q E h => ?_) (fun f cdv A outer s H vs Q E hr h => ?_)
  · obtain ⟨G, pl, tv, mv, cv, N, c, rfl, _⟩ := h
    rfl
  · obtain ⟨G, pl, tv, mv, cv, N, c, rfl, O, s0, hpl, ht, hm, hcv, hc, k⟩ := h
    have hu := hu_of hr
    have ko := byName_ok O
    have kl := byName_lay O
    have pm := nx_perms O
    have hin : c ∈ N.cors := mem_cors.mpr hc
    obtain ⟨m, ml, cyc⟩ := pm.cyc hin
    have m34 : m ≤ 34 := Nat.le_trans ml (cors_len O)
    refine ⟨_, (pss_cons (ps_set (i := 4) sc_region_from.nd rfl (Or.inl rfl) (pe_lst (pa_cons (pv 3) pa_nil)))
       (pss_cons (ps_set (i := 5) sc_region_from.nd rfl (Or.inl rfl) (pe_c Ccorner_behind hr (by decide) rfl (pa_cons (pv 0) (pa_cons (pv 1) (pa_cons (pv 2) (pa_cons (pv 3) pa_nil))))))
       (pss_cons (ps_while PassesOwn.never (pt_cmpR (op_neD hr.units) (pv 5) (pv 3) (nomark _)) (pss_cons (ps_expr (pe_bm PySem.F.plainAttrs_list PySem.F.slot_list_append PySem.F.type_list_append mt_append (pv 4) (pa_cons (pv 5) pa_nil)))
       (pss_one (ps_set (i := 5) sc_region_from.nd rfl (Or.inl rfl) (pe_c Ccorner_behind hr (by decide) rfl (pa_cons (pv 0) (pa_cons (pv 1) (pa_cons (pv 2) (pa_cons (pv 5) pa_nil)))))))))
       (pss_one (ps_ret (pv 4)))))), ?_⟩
    -- found = [corner]
    refine ⟨_, rfl, (by show 1 ≤ sizeLine; decide), fun fa hfa => ?_⟩
    have x0 := (Ext.refl s0).allocM (o := .lst [cv]) hfa
    -- here = corner_behind(..)
    refine ⟨_, rfl, _, rfl, _, rfl, _, rfl, G, pl, tv, mv, cv, N, c, rfl, O, x0.s, hpl, ht, hm, hcv, hc, fun G1 H1 hv x1 q1 => ?_⟩
    have own := x1.own upd_same (s0.free hfa)
    refine ⟨fun j σ H' => ∃ i G' xs here, σ = [some (.ref pl), some tv, some mv, some cv, some (.ref fa), some here] ∧ Ext G H G' H' ∧ H' fa = some (.lst xs) ∧ G' fa = none ∧ IsCs (byName N) G' xs (trip N.nx c i) ∧ IsC (byName N) G' here (it N.nx i c) ∧ 0 < i ∧ i ≤ m ∧ j = m - i,
      ⟨_, 1, G1, [cv], hv, rfl, x0.trans x1, own.1, own.2, .cons (hcv.mono x1.g) .nil, q1, by decide, cyc.pos, rfl⟩, ?_⟩
    rintro j σ H' ⟨i, G', xs, here, rfl, x, h1, h2, h3, h4, i0, im, rfl⟩
    have hici := pm.it_in hin i
    have hic := mem_cors.mp hici
    refine ⟨_, rfl, _, rfl, cD (byName N) (it N.nx i c), cD (byName N) c, cD_dp x.s h4, cD_dp x.s (hcv.mono x.g), cD_shaped kl hic.1, cD_shaped kl hc.1, _, rfl, ?_⟩
    rw [cD_eqv ko hic.1 hc.1]
    by_cases e : it N.nx i c = c
    · have eim : i = m := by
        rcases Nat.lt_or_ge i m with z | z
        · exact absurd e (cyc.least i i0 z)
        · omega
      subst eim
      refine ifF (by rw [decide_eq_true e]; rfl) ?_
      refine ⟨_, rfl, ?_⟩
      refine k _ _ _ (x.fin hfa h2 h1) ⟨fa, xs, rfl, upd_same, ?_⟩
      rw [round_eq cyc]
      exact h3.mono (same_new h2)
    · have lt : i < m := by
        rcases Nat.lt_or_ge i m with z | z
        · exact z
        · have z : i = m := by omega
          subst z
          exact absurd cyc.ret e
      refine ifT (by rw [decide_eq_false e]; rfl) ?_
      refine ⟨fun σ2 H2 => ∃ G' xs here, σ2 = [some (.ref pl), some tv, some mv, some cv, some (.ref fa), some here] ∧ Ext G H G' H2 ∧ H2 fa = some (.lst xs) ∧ G' fa = none ∧ IsCs (byName N) G' xs (trip N.nx c (i + 1)) ∧ IsC (byName N) G' here (it N.nx (i + 1) c),
        fun σ2 H2 ⟨G', xs, here, e1, e2, e3, e4, e5, e6⟩ => ⟨m - (i + 1), by omega, i + 1, G', xs, here, e1, e2, e3, e4, e5, e6, by omega, lt, rfl⟩, ?_⟩
      have xl : xs.length < sizeLine := by
        rw [h3.len, trip_len]
        exact Nat.lt_of_le_of_lt (m := 34) (by omega) (by decide)
      refine ⟨_, rfl, .inl ⟨rfl, _, SqL.of h1⟩, _, rfl, fa, _, _, rfl, rfl, h1, xl, ?_⟩
      have y0 := x.mut (d := fa) (o := .lst (xs ++ [here])) hfa h2
      refine ⟨_, rfl, _, rfl, _, rfl, _, rfl, G', pl, tv, mv, here, N, it N.nx i c, rfl, O, y0.s, x.g _ _ hpl, ht.mono x.g, hm.mono x.g, h4, hic, fun G2 H2 hv2 y1 q2 => ?_⟩
      have own2 := y1.own upd_same h2
      refine ⟨G2, _, hv2, rfl, y0.trans y1, own2.1, own2.2, ?_, q2⟩
      rw [trip_more]
      exact paired_snoc (h3.mono y1.g) (h4.mono y1.g)
theorem ok_all_regions (T : Txt K mg) (D : Dfn K mg "all_regions" s_all_regions ["net"]) (Cturns_of : Cal P w K mg base 1 "turns_of" spTurns []) (Cmates_of : Cal P w K mg base 1 "mates_of" spMates []) (Ccorners_of : Cal P w K mg base 2 "corners_of" spCorners [])
    (Cregion_from : Cal P w K mg base 2 "region_from" spRegion []) : Cal P w K mg base 3 "all_regions" spRegions [] := by
  refine cal_by D sc_all_regions (fun vs H Q E h => ?_) (fun f cdv A outer s H vs Q E hr h => ?_)
  · obtain ⟨G, v, N, rfl, _⟩ := h
    rfl
  · obtain ⟨G, v, N, rfl, O, s0, hn, k⟩ := h
    obtain ⟨a, pl, rl, wl, rs, ws, rfl, ha, hpl, hrl, hwl, hrs, hws⟩ := id hn.ex
    have hu := hu_of hr
    have ko := byName_ok O
    have pm := nx_perms O
    refine ⟨_, (pss_cons (ps_set (i := 1) sc_all_regions.nd rfl (Or.inl rfl) (pe_c Cturns_of hr (by decide) rfl (pa_cons (pv 0) pa_nil)))
       (pss_cons (ps_set (i := 2) sc_all_regions.nd rfl (Or.inl rfl) (pe_c Cmates_of hr (by decide) rfl (pa_cons (pv 1) pa_nil)))
       (pss_cons (ps_set (i := 3) sc_all_regions.nd rfl (Or.inl rfl) pe_dnewT)
       (pss_cons (ps_set (i := 4) sc_all_regions.nd rfl (Or.inl rfl) (pe_lst pa_nil))
       (pss_cons (ps_for PassesOwn.never rfl (pi_list (pe_c Ccorners_of hr (by decide) rfl (pa_cons (pv 0) pa_nil))) (pg_name (i := 5) sc_all_regions.nd rfl (Or.inl rfl)) (pss_one (ps_if (pt_cmp (pc_dnotin hu (pv 5) (pv 3)) rfl) (pss_cons (ps_set (i := 6) sc_all_regions.nd rfl (Or.inl rfl) (pe_c Cregion_from hr (by decide) rfl (pa_cons (pe_ix ix_tup (pv 0) (pe_int) (fun _ _ => rfl)) (pa_cons (pv 1) (pa_cons (pv 2) (pa_cons (pv 5) pa_nil))))))
       (pss_cons (ps_expr (pe_bm PySem.F.plainAttrs_list PySem.F.slot_list_append PySem.F.type_list_append mt_append (pv 4) (pa_cons (pv 6) pa_nil)))
       (pss_one (ps_for PassesOwn.never rfl (pi_list (pv 6)) (pg_name (i := 7) sc_all_regions.nd rfl (Or.inl rfl)) (pss_one (ps_dput hu (pv 3) (pv 7) (pe_bl) rfl)))))) pss_nil)))
       (pss_one (ps_ret (pv 4)))))))), ?_⟩
    refine ⟨_, rfl, G, _, N, rfl, O, s0, hn, fun G1 H1 tv x1 ht => ?_⟩
    refine ⟨_, rfl, G1, _, N, rfl, O, x1.s, ht, fun G2 H2 mv x2 hm => ?_⟩
    intro sa hsa
    refine ⟨Nat.zero_le _, fun fa hfa => ?_⟩
    have x3 := ((x1.trans x2).allocM (o := .dT []) hsa).allocM (o := .lst []) hfa
    have nsf : sa ≠ fa := fun z => by
      rw [← z, upd_same] at hfa
      cases hfa
    have hfa2 : H2 fa = none := by
      rw [upd_ne nsf.symm] at hfa
      exact hfa
    have sa0 : H sa = none := (x1.trans x2).new hsa
    have fa0 : H fa = none := (x1.trans x2).new hfa2
    refine ⟨_, rfl, G2, _, N, rfl, O, x3.s, hn.mono x3.g, ?_⟩
    rintro G3 H3 _ x4 ⟨ca, cs, rfl, hca, hcs⟩
    have osa := x4.own (up upd_same hfa) ((x1.trans x2).newG hsa)
    have ofa := x4.own upd_same ((x1.trans x2).newG hfa2)
    have x5 := x3.trans x4
    have ht3 := ht.mono (x2.g.trans x4.g)
    have hm3 := hm.mono x4.g
    refine ⟨ca, rfl, ⟨_, SqL.of (x5.s _ _ hca)⟩, for_list (K := K) (a := ca) (xs := cs) (fun i σ H' => (∃ v5 v6 v7, σ = [some (.ref a), some tv, some mv, some (.ref sa), some (.ref fa), v5, v6, v7]) ∧ ∃ G' skv ys, Ext G H G' H' ∧ Same G3 G' ∧
        H' sa = some (.dT skv) ∧ G' sa = none ∧ H' fa = some (.lst ys) ∧ G' fa = none ∧ SeenRel (byName N) N skv (rounds N.nx (N.cors.take i)).flatten ∧ Paired (CorsAt (byName N) G') ys (rounds N.nx (N.cors.take i)) ∧ ys.length ≤ i)
      ⟨⟨none, none, none, rfl⟩, G3, [], [], x5, Same.refl _, osa.1, osa.2, ofa.1, ofa.2, seen_start, .nil, Nat.le_refl _⟩ (fun i σ H' _ ⟨_, _, _, _, x, sg, _⟩ => SqL.of (x.s _ _ (sg _ _ hca))) ?_ ?_⟩
    · rintro i y σ H' hi ⟨⟨v5, v6, v7, rfl⟩, G', skv, ys, x, sg, h1, h2, h3, h4, h5, h6, h7⟩
      obtain ⟨c, ec, hcc⟩ := paired_at hcs hi
      have hcin : c ∈ N.cors := List.mem_of_getElem? ec
      have hc := mem_cors.mp hcin
      have sub : ∀ d, d ∈ N.cors.take i → d ∈ N.cors := fun d hd => List.mem_of_mem_take hd
      have i34 : i ≤ 34 := by
        have := (List.getElem?_eq_some_iff.mp ec).1
        have := cors_len O
        omega
      obtain ⟨t, rfl, htt⟩ := hcc.mono sg
      refine ⟨_, rfl, _, rfl, sa, _, rfl, .inr ⟨skv, ckey (byName N) c, t, .inl h1, rfl, x.s _ _ htt, rfl⟩, _, rfl, ?_⟩
      rw [h5.1 c hc]
      by_cases hs : c ∈ (rounds N.nx (N.cors.take i)).flatten
      · refine ifF (by rw [decide_eq_true hs]; rfl) ?_
        refine ⟨⟨_, _, _, rfl⟩, G', skv, ys, x, sg, h1, h2, h3, h4, ?_, ?_, by omega⟩
        · rw [take_snoc ec, rounds_snoc, goOn_in hs]
          exact h5
        · rw [take_snoc ec, rounds_snoc, goOn_in hs]
          exact h6
      · refine ifT (by rw [decide_eq_false hs]; rfl) ?_
        obtain ⟨m, ml, cyc⟩ := pm.cyc hcin
        have er : rounds N.nx (N.cors.take (i + 1)) = rounds N.nx (N.cors.take i) ++ [round N.nx c] := by
          rw [take_snoc ec, rounds_snoc, goOn_out hs]
        have ha' := x.g _ _ ha
        have hpl' := x.g _ _ hpl
        refine ⟨_, rfl, a, _, _, _, rfl, rfl, SqT.of (x.s _ _ ha'), at_of (j := 0) rfl rfl, _, rfl, _, rfl, _, rfl, G', pl, tv, mv, .ref t, N, c, rfl, O, x.s, hpl', ht3.mono sg, hm3.mono sg, ⟨t, rfl, htt⟩, hc, ?_⟩
        rintro G4 H4 _ y1 ⟨ra, rx, rfl, hra, hrx⟩
        have os := y1.own h1 h2
        have of := y1.own h3 h4
        have yl : ys.length < sizeLine := Nat.lt_of_le_of_lt (m := 34) (by omega) (by decide)
        refine ⟨_, rfl, .inl ⟨rfl, _, SqL.of of.1⟩, _, rfl, fa, _, _, rfl, rfl, of.1, yl, ?_⟩
        have y2 := (x.trans y1).mut (d := fa) (o := .lst (ys ++ [.ref ra])) fa0 of.2
        refine ⟨_, rfl, ra, rfl, ⟨_, SqL.of (y2.s _ _ hra)⟩, for_list (K := K) (a := ra) (xs := rx) (fun j σ H' => (∃ v7, σ = [some (.ref a), some tv, some mv, some (.ref sa), some (.ref fa), some (.ref t), some (.ref ra), v7]) ∧ ∃ skv, Ext G H G4 H' ∧
            H' sa = some (.dT skv) ∧ H' fa = some (.lst (ys ++ [.ref ra])) ∧ SeenRel (byName N) N skv ((rounds N.nx (N.cors.take i)).flatten ++ (round N.nx c).take j))
          ⟨⟨_, rfl⟩, skv, y2, ap nsf os.1, upd_same, by rw [List.take_zero, List.append_nil]; exact h5⟩ (fun j σ H' _ ⟨_, _, z, _⟩ => SqL.of (z.s _ _ hra)) ?_ ?_⟩
        · rintro j o σ H' hj ⟨⟨v7, rfl⟩, skv, z1, z2, z3, z4⟩
          obtain ⟨e, ee, to, rfl, hto⟩ := paired_at hrx hj
          have hec : N.Cor e := by
            have q : e ∈ trip N.nx c m := by
              rw [← round_eq cyc]
              exact List.mem_of_getElem? ee
            obtain ⟨n, _, rfl⟩ := mem_trip.mp q
            exact mem_cors.mp (pm.it_in hcin n)
          have few : ((rounds N.nx (N.cors.take i)).flatten ++ (round N.nx c).take j).length ≤ 100 := by
            rw [List.length_append, List.length_take]
            have q1 := (rounds_nd pm sub).length_le_of_subset (l₂ := N.cors) fun d hd => rounds_sub pm sub d hd
            have q2 : (round N.nx c).length ≤ N.cors.length := by
              rw [round_eq cyc, trip_len]
              exact ml
            have := cors_len O
            omega
          have sl : skv.length < sizeLine := Nat.lt_of_le_of_lt (m := 100) (Nat.le_trans z4.2 few) (by decide)
          refine ⟨_, rfl, _, rfl, sa, _, rfl, DPut.t (k := ckey (byName N) e) z2 (z1.s _ _ hto) sl, ?_⟩
          refine ⟨⟨_, rfl⟩, _, z1.mut sa0 os.2, upd_same, ap nsf.symm z3, ?_⟩
          rw [take_snoc ee, ← List.append_assoc]
          exact z4.put ko hec _
        · rintro σ H' ⟨⟨v7, rfl⟩, skv, z1, z2, z3, z4⟩
          refine ⟨⟨_, _, _, rfl⟩, G4, skv, _, z1, sg.trans y1.g, z2, os.2, z3, of.2, ?_, ?_, ?_⟩
          · rw [er, flat_snoc]
            rw [Paired.length hrx, List.take_length] at z4
            exact z4
          · rw [er]
            exact paired_snoc (Paired.mapP h6 fun _ _ q => q.mono y1.g) ⟨ra, rx, rfl, hra, hrx⟩
          · rw [List.length_append, List.length_singleton]
            omega
    · rintro σ H' ⟨⟨v5, v6, v7, rfl⟩, G', skv, ys, x, sg, h1, h2, h3, h4, h5, h6, h7⟩
      rw [hcs.len, List.take_length] at h6
      refine ⟨_, rfl, k _ _ _ (x.fin fa0 h4 h3) ⟨fa, ys, rfl, upd_same, Paired.mapP h6 fun _ _ q => q.mono (same_new h4)⟩⟩
theorem ok_regions_of (T : Txt K mg) (D : Dfn K mg "regions_of" s_regions_of ["net"]) (Call_regions : Cal P w K mg base 3 "all_regions" spRegions []) : Cal P w K mg base 4 "regions_of" spRegions [] := by
  refine cal_by D sc_regions_of (fun vs H Q E h => ?_) (fun f cdv A outer s H vs Q E hr h => ?_)
  · obtain ⟨G, v, N, rfl, _⟩ := h
    rfl
  · obtain ⟨G, v, N, rfl, O, s0, hn, k⟩ := h
    refine ⟨_, (pss_one (ps_ret (pe_c Call_regions hr (by decide) rfl (pa_cons (pv 0) pa_nil)))), ?_⟩
    exact ⟨_, rfl, G, _, N, rfl, O, s0, hn, k⟩
end
end RimW

/-! hanging_points. -/
namespace RimW
open PySem PySem.Spec PyProof.Rows L2 Rim
open C8 (Cal pe_c pss_cut tCut)

/-! ### lists of texts as data -/
def strD (zs : List Str) : PyData := .list (zs.map .str)
theorem str_dps {K : PySem.W.Frag} {H : Hp} : ∀ zs : List Str, DpAll K H (zs.map V.str) (zs.map .str)
  | [] => .nil
  | z :: zs => .cons (.str z) (str_dps zs)
theorem strD_dp {K : PySem.W.Frag} {H : Hp} {a : Addr} {zs : List Str} (h : SqL K H a (zs.map V.str)) : Dp K H (.ref a) (strD zs) := .lst h (str_dps zs)
theorem strD_shaped {zs : List Str} (h : ∀ z, z ∈ zs → Good z) : SeqAt.shaped (strD zs) = true := by
  have l : ∀ {zs : List Str}, (∀ z, z ∈ zs → Good z) → PyData.canLayAll0 (zs.map .str) = true ∧ PyData.depthAll (zs.map .str) = 0 := by
    intro zs
    induction zs with
    | nil => exact fun _ => ⟨by simp [PyData.canLayAll0], by simp [PyData.depthAll]⟩
    | cons z zs ih =>
      intro h
      obtain ⟨i1, i2⟩ := ih fun y hy => h y (List.mem_cons_of_mem _ hy)
      rw [List.map_cons, PyData.canLayAll0, PyData.depthAll, i1, i2, PyData.canLay0, PyData.depth, (h z List.mem_cons_self).ok]
      exact ⟨rfl, rfl⟩
  obtain ⟨l1, l2⟩ := l h
  unfold SeqAt.shaped strD
  rw [Bool.and_eq_true_iff, PyData.canLay0, PyData.depth, l2]
  exact ⟨l1, by decide⟩
theorem strD_eqv_nil : ∀ zs : List Str, PyData.eqv (strD zs) (strD []) = zs.isEmpty
  | [] => by simp [strD, PyData.eqv, PyData.eqvAll]
  | z :: zs => by simp [strD, PyData.eqv, PyData.eqvAll]
theorem strD_eqv_self {zs : List Str} (h : ∀ z, z ∈ zs → Good z) : PyData.eqv (strD zs) (strD zs) = true := by
  have l : ∀ zs : List Str, PyData.eqvAll (zs.map .str) (zs.map .str) = true := by
    intro zs
    induction zs with
    | nil => simp [PyData.eqvAll]
    | cons z zs ih => simp [PyData.eqvAll, PyData.eqv, ih]
  unfold strD
  rw [PyData.eqv]
  exact l zs
def ptsS (N : Net) (qs : List Nat) : List Str := qs.map fun p => Net.pt N p
theorem posts_pts {N : Net} : postsV N = (ptsS N (List.range N.np)).map V.str := by
  unfold postsV ptsS
  rw [List.map_map]
  rfl
theorem pts_good {N : Net} (O : N.Ok) {qs : List Nat} (h : ∀ p, p ∈ qs → p < N.R.length) : ∀ z, z ∈ ptsS N qs → Good z := fun z hz => by
  obtain ⟨p, hp, rfl⟩ := List.mem_map.mp hz
  exact pt_good O (h p hp)

/-! ### the dict of found points -/
def FoundRel (N : Net) (kvs : List (Key × V)) (L : List Nat) : Prop := (∀ p, p < N.R.length → (valV kvs (Sum.inr (Net.pt N p))).isSome = decide (p ∈ L)) ∧ kvs.length = L.length
theorem FoundRel.put {N : Net} (O : N.Ok) {kvs : List (Key × V)} {L : List Nat} (h : FoundRel N kvs L) {p : Nat} (hp : p < N.R.length) (no : ¬ p ∈ L) (v : V) : FoundRel N (putK kvs (Sum.inr (Net.pt N p)) v) (L ++ [p]) := by
  have e : valV kvs (Sum.inr (Net.pt N p)) = none := by
    have q := h.1 p hp
    rw [decide_eq_false no] at q
    cases z : valV kvs (Sum.inr (Net.pt N p)) with
    | none => rfl
    | some u =>
      rw [z] at q
      cases q
  refine ⟨fun q hq => ?_, ?_⟩
  · rw [valV_put]
    by_cases z : q = p
    · subst z
      rw [if_pos rfl]
      simp
    · rw [if_neg fun w => z (pt_inj O hq hp (Sum.inr.inj w)), h.1 q hq, decide_eq_decide, List.mem_append, List.mem_singleton]
      exact ⟨.inl, fun m => m.resolve_right z⟩
  · rw [putK_new v e, List.length_append, List.length_append, h.2]
    rfl
def HangAt (G : Hp) (v : V) (N : Net) : Prop := ∃ d kvs, v = .ref d ∧ G d = some (.dK kvs) ∧ kvs.length = N.hung
abbrev spHang : Sp := spNet HangAt

abbrev s_hanging_points : Stmt := top 22
theorem sc_hanging_points : FnScope ["net", "turns", "mates", "found", "rest", "point", "place"] ["net"] (defScope s_hanging_points) := ⟨rfl, rfl, rfl, by decide +kernel, rfl, by decide +kernel, by decide +kernel⟩
section
variable {P : Program} {w : World} {K : PySem.W.Frag} {mg : Str → Option Value} {base : Heap}
theorem ok_hanging_points (T : Txt K mg) (D : Dfn K mg "hanging_points" s_hanging_points ["net"]) (Cturns_of : Cal P w K mg base 1 "turns_of" spTurns []) (Cmates_of : Cal P w K mg base 1 "mates_of" spMates []) : Cal P w K mg base 2 "hanging_points" spHang [] := by
  refine cal_by D sc_hanging_points (fun vs H Q E h => ?_) (fun f cdv A outer s H vs Q E hr h => ?_)
  · obtain ⟨G, v, N, rfl, _⟩ := h
    rfl
  · obtain ⟨G, v, N, rfl, O, s0, hn, k⟩ := h
    obtain ⟨a, pl, rl, wl, rs, ws, rfl, ha, hpl, hrl, hwl, hrs, hws⟩ := id hn.ex
    have hu := hu_of hr
    refine ⟨_, (pss_cons (ps_set (i := 1) sc_hanging_points.nd rfl (Or.inl rfl) (pe_c Cturns_of hr (by decide) rfl (pa_cons (pv 0) pa_nil)))
       (pss_cons (ps_set (i := 2) sc_hanging_points.nd rfl (Or.inr rfl) (pe_c Cmates_of hr (by decide) rfl (pa_cons (pv 1) pa_nil)))
       (pss_cons (ps_set (i := 3) sc_hanging_points.nd rfl (Or.inl rfl) pe_dnewK)
       (pss_cons (ps_set (i := 4) sc_hanging_points.nd rfl (Or.inl rfl) (pe_callTy (call_list_of) (by rfl) T.list (by decide +kernel) (pa_cons (pe_ix ix_tup (pv 0) (pe_int) (fun _ _ => rfl)) pa_nil)))
       (pss_cons (ps_while PassesOwn.never (pt_cmpR (op_neD hr.units) (pv 4) (pe_lst pa_nil) (nomark _)) (pss_cons (ps_set (i := 5) sc_hanging_points.nd rfl (Or.inr rfl) (pe_bm0 PySem.F.plainAttrs_list PySem.F.slot_list_pop PySem.F.type_list_pop mt_pop (pv 4)))
       (pss_one (ps_if (pt_cmp (pc_dnotin hu (pv 5) (pv 3)) rfl) (pss_cons (ps_dput hu (pv 3) (pv 5) (pe_bl) rfl)
       (pss_one (ps_expr (pe_bm PySem.F.plainAttrs_list PySem.F.slot_list_extend PySem.F.type_list_extend mt_extend (pv 4) (pa_cons (pe_lc (own := [("place", 6)]) (g := gName 6) (by rfl) sc_hanging_points.nd (pi_range1 (by rfl) T.range (pa_cons (pe_callB call_len_seq (by rfl) T.len PySem.boot_len (pa_cons (pe_dget hu (pv 1) (pv 5) (fun _ _ => rfl)) pa_nil)) pa_nil)) (blkOk_by (N := ["net", "turns", "mates", "found", "rest", "point", "place"]) (sc := defScope s_hanging_points) (by decide +kernel)) (fun _ _ _ _ _ => pg_name (i := 6) sc_hanging_points.nd rfl (Or.inl rfl)) (fun _ _ _ _ _ => pts_nil) (fun _ _ _ _ _ => (pe_ix (ix_tupK (K := K) rfl) (pe_dget hu (pv 2) (pe_tup (pa_cons (pv 5) (pa_cons (pv 6) pa_nil))) (fun _ _ => rfl)) (pe_int) (fun _ _ => rfl)))) pa_nil))))) pss_nil))))
       (pss_one (ps_ret (pv 3)))))))), ?_⟩
    refine ⟨_, rfl, G, _, N, rfl, O, s0, hn, ?_⟩
    rintro G1 H1 _ x1 ⟨d, tk, rfl, hd, hk⟩
    refine ⟨_, rfl, G1, _, N, rfl, O, x1.s, ⟨d, tk, rfl, hd, hk⟩, ?_⟩
    rintro G2 H2 _ x2 ⟨md, mk, rfl, hmd, hmk⟩
    have x12 := x1.trans x2
    have hd2 := x2.g _ _ hd
    have hk2 : Paired (TurnAt G2 N) tk (List.range N.R.length) := Paired.mapP hk fun _ _ q => q.mono x2.g
    intro fa hfa
    have x3 := x12.allocM (o := .dK []) hfa
    refine ⟨_, rfl, a, _, _, _, rfl, rfl, SqT.of (x3.s _ _ (x3.g _ _ ha)), at_of (j := 0) rfl rfl, pl, _, rfl, .inl (SqL.of (x3.s _ _ (x3.g _ _ hpl))), fun ra hra => ?_⟩
    have x4 := x3.allocM (o := .lst (postsV N)) hra
    have nfr : fa ≠ ra := fun z => by
      rw [← z, upd_same] at hra
      cases hra
    have ra2 : H2 ra = none := by
      rw [upd_ne nfr.symm] at hra
      exact hra
    have fa0 : H fa = none := x12.new hfa
    have ra0 : H ra = none := x12.new ra2
    refine ⟨fun m σ H' => ∃ G' kvs L qs v5 v6, σ = [some (.ref a), some (.ref d), some (.ref md), some (.ref fa), some (.ref ra), v5, v6] ∧ Ext G H G' H' ∧ Same G2 G' ∧ H' fa = some (.dK kvs) ∧ G' fa = none ∧
        H' ra = some (.lst ((ptsS N qs).map V.str)) ∧ G' ra = none ∧ FoundRel N kvs L ∧ Search N L qs ∧ m = qs.length + N.left L ∧ m ≤ 424,
      ⟨_, G2, [], [], List.range N.np, none, none, rfl, x4, Same.refl _, ap nfr upd_same, x12.newG hfa, by rw [← posts_pts]; exact upd_same, x12.newG ra2, ⟨fun p _ => by rw [valV_nil]; simp, rfl⟩, search_start, rfl, ?_⟩, ?_⟩
    · have := left_le O []
      have := O.p4
      rw [List.length_range]
      omega
    · rintro m σ H' ⟨G', kvs, L, qs, v5, v6, rfl, x, sg, h1, h2, h3, h4, h5, h6, rfl, m424⟩
      have inn : ∀ p, p ∈ qs → p < N.R.length := fun p hp => Hang.lt O (h6.wait p hp)
      -- rest != []
      refine ⟨_, rfl, Nat.zero_le _, fun e1 he1 => ?_⟩
      have y0 := x.allocM (o := .lst []) he1
      have f3 := up (o := .lst []) h3 he1
      refine ⟨strD (ptsS N qs), strD [], strD_dp (SqL.of f3), .lst (SqL.of upd_same) .nil, strD_shaped (pts_good O inn), strD_shaped (fun z hz => absurd hz (by simp)), _, rfl, ?_⟩
      rw [strD_eqv_nil]
      rcases List.eq_nil_or_concat qs with rfl | ⟨q0, p, rfl⟩
      · refine ifF rfl ⟨_, rfl, ?_⟩
        have f1 := up (o := .lst []) h1 he1
        exact k _ _ _ (y0.fin (d := fa) fa0 h2 f1) ⟨fa, kvs, rfl, upd_same, by rw [h5.2]; exact hung_of O h6.done⟩
      · rw [List.concat_eq_append] at h3 f3 h6 inn m424 ⊢
        have f1 := up (o := .lst []) h1 he1
        have hp : p < N.R.length := inn p (by simp)
        have e0 : ptsS N (q0 ++ [p]) = ptsS N q0 ++ [Net.pt N p] := by
          unfold ptsS
          rw [List.map_append]
          rfl
        rw [e0, List.map_append] at f3
        refine ifT (by rw [e0]; simp) ?_
        refine ⟨fun σ2 H2 => ∃ m', m' < (q0 ++ [p]).length + N.left L ∧ ∃ G' kvs L qs v5 v6, σ2 = [some (.ref a), some (.ref d), some (.ref md), some (.ref fa), some (.ref ra), v5, v6] ∧ Ext G H G' H2 ∧ Same G2 G' ∧ H2 fa = some (.dK kvs) ∧ G' fa = none ∧
          H2 ra = some (.lst ((ptsS N qs).map V.str)) ∧ G' ra = none ∧ FoundRel N kvs L ∧ Search N L qs ∧ m' = qs.length + N.left L ∧ m' ≤ 424, fun σ2 H2 q => q, ?_⟩
        -- point = rest.pop()
        refine ⟨_, rfl, .inl ⟨rfl, _, SqL.of f3⟩, ra, _, .str (Net.pt N p), rfl, rfl, f3, by simp, ?_⟩
        have dl : ((ptsS N q0).map V.str ++ [V.str (Net.pt N p)]).dropLast = (ptsS N q0).map V.str := List.dropLast_concat
        rw [show (List.map V.str (ptsS N q0) ++ List.map V.str [Net.pt N p]).dropLast = (ptsS N q0).map V.str from dl]
        have y1 := y0.mut (d := ra) (o := .lst ((ptsS N q0).map V.str)) ra0 h4
        have g1 := ap (d := ra) (o := .lst ((ptsS N q0).map V.str)) nfr f1
        refine ⟨_, rfl, _, rfl, fa, _, rfl, DGet.k (k := Sum.inr (Net.pt N p)) g1, _, rfl, ?_⟩
        rw [h5.1 p hp]
        by_cases hs : p ∈ L
        · refine ifF (by rw [decide_eq_true hs]; rfl) ?_
          refine ⟨q0.length + N.left L, by rw [List.length_append]; simp, G', kvs, L, q0, _, _, rfl, y1, sg, g1, h2, upd_same, h4, h5, h6.seen hs, rfl, ?_⟩
          rw [List.length_append] at m424
          omega
        · refine ifT (by rw [decide_eq_false hs]; rfl) ?_
          have kl : kvs.length < sizeLine := by
            have q := h6.nd.length_le_of_subset (l₂ := List.range N.R.length) fun z hz => List.mem_range.mpr (Hang.lt O (h6.to z hz))
            rw [List.length_range] at q
            have := O.n14
            rw [h5.2]
            exact Nat.lt_of_le_of_lt (m := 14) (by omega) (by decide)
          -- found[point] = True
          refine ⟨_, rfl, _, rfl, fa, _, rfl, DPut.k (k := Sum.inr (Net.pt N p)) g1 kl, ?_⟩
          have y2 := y1.mut (d := fa) (o := .dK (putK kvs (Sum.inr (Net.pt N p)) (.bl true))) fa0 h2
          have r2 := ap (d := fa) (o := .dK (putK kvs (Sum.inr (Net.pt N p)) (.bl true))) nfr.symm (upd_same (H := upd H' e1 (.lst [])) (a := ra) (o := .lst ((ptsS N q0).map V.str)))
          -- rest.extend(..)
          obtain ⟨l2, g3, g4⟩ := turns_get O hk2 hp
          have rl := row_len O p
          refine ⟨_, rfl, .inl ⟨rfl, _, SqL.of r2⟩, ?_⟩
          refine ⟨_, rfl, _, rfl, d, _, rfl, .inl ⟨tk, Sum.inr (Net.pt N p), .inl (y2.s _ _ (sg _ _ hd2)), rfl, g3.symm⟩, l2, _, rfl, .inl (SqL.of (y2.s _ _ (sg _ _ g4))), ?_⟩
          rw [wires_len]
          refine ⟨_, rfl, by omega, by omega, fun D hD => lc_range (lo := 0) (n := (N.row p).length) (fun j H3 => ∃ G3 acc, Ext G H G3 H3 ∧ Same G' G3 ∧ H3 fa = some (.dK (putK kvs (Sum.inr (Net.pt N p)) (.bl true))) ∧ G3 fa = none ∧
            H3 ra = some (.lst ((ptsS N q0).map V.str)) ∧ G3 ra = none ∧ H3 D = some (.lst acc) ∧ G3 D = none ∧ acc.length = j ∧ acc = (ptsS N (N.over p j)).map V.str)
            ⟨G', [], y2.allocM hD, Same.refl _, up upd_same hD, h2, up r2 hD, h4, upd_same, y2.newG hD, rfl, rfl⟩ ?_ ?_⟩
          · rintro j H3 hj ⟨G3, acc, z, sz, z1, z2, z3, z4, z5, z6, z7, z8⟩
            have he : N.End (p, j) := hj
            obtain ⟨t2, m1, m2⟩ := hmk _ he
            refine ⟨rfl, tyes (ifT rfl ?_)⟩
            refine ⟨_, rfl, _, rfl, _, rfl, (by show 2 ≤ sizeLine; decide), fun t ht => ?_⟩
            have z9 := z.alloc (o := .tup [.str (Net.pt N p), .int (0 + (j : Int))]) ht
            have et : (upd H3 t (.tup [.str (Net.pt N p), .int (0 + (j : Int))])) t = some (.tup ((ckey (byName N) (p, j)).map kV)) := by
              rw [upd_same, Int.zero_add]
              rfl
            have m2' : G3 t2 = some (.tup ((ckey (byName N) (N.mate (p, j))).map kV)) := sz _ _ (sg _ _ m2)
            refine ⟨md, _, rfl, .inr ⟨mk, ckey (byName N) (p, j), t, .inl (z9.s _ _ ((same_new (z.newG ht)) _ _ (sz _ _ (sg _ _ hmd)))), rfl, et, m1.symm⟩, ?_⟩
            refine ⟨t2, _, _, _, rfl, rfl, SqT.of (z9.s _ _ ((same_new (z.newG ht)) _ _ m2')), at_of (j := 0) rfl rfl, acc, up z5 ht, Nat.lt_of_le_of_lt (m := 30) (by omega) (by decide), ?_⟩
            have z10 := z9.mut (d := D) (o := .lst (acc ++ [.str (Net.pt N (N.mate (p, j)).1)])) (y2.new hD) (gp z5 ht z6)
            have nfD : fa ≠ D := ne_of_none upd_same hD
            have nrD : ra ≠ D := ne_of_none r2 hD
            refine ⟨_, _, z10, sz.trans (same_new (z.newG ht)), ap nfD (up z1 ht), gp z1 ht z2, ap nrD (up z3 ht), gp z3 ht z4, upd_same, gp z5 ht z6, by rw [List.length_append, z7]; rfl, ?_⟩
            rw [z8]
            unfold Net.over ptsS
            rw [List.range_succ, List.map_append, List.map_append, List.map_append]
            rfl
          · rintro H3 ⟨G3, acc, z, sz, z1, z2, z3, z4, z5, z6, z7, z8⟩
            have ql : q0.length ≤ 424 := by
              rw [List.length_append] at m424
              omega
            refine ⟨ra, D, _, _, rfl, rfl, z3, z5, ?_, ?_⟩
            · rw [List.length_map]
              unfold ptsS
              rw [List.length_map]
              exact Nat.le_trans (m := 1000) (by omega) (by decide)
            · have z9 := z.mut (d := ra) (o := .lst ((ptsS N q0).map V.str ++ acc)) ra0 z4
              have lm := left_more hp hs
              have ol : (N.over p (N.row p).length).length = (N.row p).length := by
                unfold Net.over
                rw [List.length_map, List.length_range]
              refine ⟨(q0 ++ N.over p (N.row p).length).length + N.left (L ++ [p]), ?_, G3, _, L ++ [p], q0 ++ N.over p (N.row p).length, _, _, rfl, z9, sg.trans sz, ap nfr z1, z2, ?_, z4, h5.put O hp hs _, h6.new hs, rfl, ?_⟩
              · rw [List.length_append, List.length_append, ol]
                simp
                omega
              · rw [upd_same, z8]
                unfold ptsS
                rw [List.map_append, List.map_append]
              · rw [List.length_append] at m424
                rw [List.length_append, ol]
                simp at m424
                omega
end
end RimW

/-! are_rows. -/
namespace RimW
open PySem PySem.Spec PyProof.Rows L2 Rim
open C8 (Cal pe_c pss_cut tCut)

/-- a def that says True of a net -/
def spTrue : Sp := fun vs H Q _ => ∃ (G : Hp) (v : V) (N : Net), vs = [v] ∧ N.Ok ∧ Same G H ∧ NetAt G v N ∧ ∀ G' H', Ext G H G' H' → Q (.bl true) H'
theorem pts_nd {N : Net} (O : N.Ok) {n : Nat} (h : n ≤ N.R.length) : (ptsS N (List.range n)).Nodup := by
  unfold ptsS List.Nodup
  rw [List.pairwise_map]
  refine List.Pairwise.imp_of_mem (fun {a b} ha hb lt e => ?_) List.pairwise_lt_range
  have h1 := List.mem_range.mp ha
  have h2 := List.mem_range.mp hb
  have := pt_inj O (by omega) (by omega) e
  omega
theorem pts_good_to {N : Net} (O : N.Ok) {n : Nat} (h : n ≤ N.R.length) : ∀ z, z ∈ ptsS N (List.range n) → Good z :=
  pts_good O fun p hp => by
    have := List.mem_range.mp hp
    omega
theorem pts_snoc {N : Net} {i : Nat} : (ptsS N (List.range (i + 1))).map V.str = (ptsS N (List.range i)).map V.str ++ [V.str (Net.pt N i)] := by
  unfold ptsS
  rw [List.range_succ, List.map_append, List.map_append]
  rfl
theorem pts_len {N : Net} {n : Nat} : (ptsS N (List.range n)).length = n := by unfold ptsS; rw [List.length_map, List.length_range]

abbrev s_are_rows : Stmt := top 23
theorem sc_are_rows : FnScope ["net", "posts", "rows", "points", "point", "wires", "post"] ["net"] (defScope s_are_rows) := ⟨rfl, rfl, rfl, by decide +kernel, rfl, by decide +kernel, by decide +kernel⟩
section
variable {P : Program} {w : World} {K : PySem.W.Frag} {mg : Str → Option Value} {base : Heap}
theorem ok_are_rows (T : Txt K mg) (D : Dfn K mg "are_rows" s_are_rows ["net"]) (Care_names : Cal P w K mg base 2 "are_names" (spAreNames K) []) : Cal P w K mg base 3 "are_rows" spTrue [] := by
  refine cal_by D sc_are_rows (fun vs H Q E h => ?_) (fun f cdv A outer s H vs Q E hr h => ?_)
  · obtain ⟨G, v, N, rfl, _⟩ := h
    rfl
  · obtain ⟨G, v, N, rfl, O, s0, hn, k⟩ := h
    obtain ⟨a, pl, rl, wl, rs, ws, rfl, ha, hpl, hrl, hwl, hrs, hws⟩ := id hn.ex
    have hu := hu_of hr
    have pn := O.pn
    have n14 := O.n14
    have len : (List.range N.R.length).length = rs.length := (Paired.length hrs).symm
    rw [List.length_range] at len
    refine ⟨_, (pss_cons (ps_par (i := 1) (j := 2) (by rfl) sc_are_rows.nd rfl rfl (by decide) rfl rfl (pa_cons (pe_ix ix_tup (pv 0) (pe_int) (fun _ _ => rfl)) (pa_cons (pe_ix ix_tup (pv 0) (pe_int) (fun _ _ => rfl)) pa_nil)) (by rfl))
       (pss_cons (ps_set (i := 3) sc_are_rows.nd rfl (Or.inr rfl) (pe_lc (own := [("point", 4), ("wires", 5)]) (g := gTup K 2 (gCons (gName 4) (gCons (gName 5) (gNil)))) (by rfl) sc_are_rows.nd (pi_list (pv 2)) (blkOk_by (N := ["net", "posts", "rows", "points", "point", "wires", "post"]) (sc := defScope s_are_rows) (by decide +kernel)) (fun _ _ _ _ _ => pg_tup (by rfl) (pgs_cons (pg_name (i := 4) sc_are_rows.nd rfl (Or.inl rfl)) (pgs_cons (pg_name (i := 5) sc_are_rows.nd rfl (Or.inl rfl)) pgs_nil))) (fun _ _ _ _ _ => pts_nil) (fun _ _ _ _ _ => (pv 4))))
       (pss_cons (ps_if (PW.pt (pw_or (pt_not (pt_val (pe_c Care_names hr (by decide) rfl (pa_cons (pv 1) pa_nil)))) (pw_or (pt_not (pt_val (pe_c Care_names hr (by decide) rfl (pa_cons (pv 3) pa_nil)))) (pw_or1 (pt_cmpR op_ne (pe_lenTexts (by rfl) T.len (by rfl) T.set (pv 3)) (pe_callB call_len_seq (by rfl) T.len PySem.boot_len (pa_cons (pv 3) pa_nil)) (nomark _)))))) (pss_one (ps_ret (pe_bl))) pss_nil)
       (pss_cons (ps_if (pt_cmpR op_ne (pe_lenTexts (by rfl) T.len (by rfl) T.set (pv 1)) (pe_callB call_len_seq (by rfl) T.len PySem.boot_len (pa_cons (pv 1) pa_nil)) (nomark _)) (pss_one (ps_ret (pe_bl))) pss_nil)
       (pss_one (ps_ret (pe_cmpR (op_eqD hr.units) (pe_lc (own := [("post", 6)]) (g := gName 6) (by rfl) sc_are_rows.nd (pi_list (pv 1)) (blkOk_by (N := ["net", "posts", "rows", "points", "point", "wires", "post"]) (sc := defScope s_are_rows) (by decide +kernel)) (fun _ _ _ _ _ => pg_name (i := 6) sc_are_rows.nd rfl (Or.inl rfl)) (fun _ _ _ _ _ => pts_one (pt_cmpR (op_notIn_seqK (K := K) rfl) (pv 6) (pv 3) (by rfl))) (fun _ _ _ _ _ => (pv 6))) (pe_lst pa_nil) (nomark _)))))))), ?_⟩
    refine ⟨_, rfl, a, _, _, _, rfl, rfl, SqT.of (s0 _ _ ha), at_of (j := 0) rfl rfl, _, rfl, a, _, _, _, rfl, rfl, SqT.of (s0 _ _ ha), at_of (j := 1) rfl rfl, _, _, rfl, ?_⟩
    -- points = [point for point, wires in rows]
    refine ⟨_, rfl, rl, rfl, ⟨_, SqL.of (s0 _ _ hrl)⟩, fun D hD => lc_list (K := K) (a := rl) (xs := rs) (fun i H' => Ext G H G H' ∧ H' D = some (.lst ((ptsS N (List.range i)).map V.str)))
      ⟨(Ext.refl s0).allocM hD, upd_same⟩ (fun i H' _ q => SqL.of (q.1.s _ _ hrl)) ?_ ?_⟩
    · rintro i y H' hi ⟨x, h1⟩
      obtain ⟨p, ep, t, lw, rfl, ht, hlw⟩ := paired_at hrs hi
      obtain ⟨hlt, rfl⟩ : i < N.R.length ∧ p = i := by
        obtain ⟨q1, q2⟩ := List.getElem?_eq_some_iff.mp ep
        rw [List.getElem_range] at q2
        exact ⟨by simpa using q1, q2.symm⟩
      refine ⟨t, _, rfl, SqT.of (x.s _ _ ht), rfl, _, _, rfl, _, _, rfl, rfl, rfl, tyes (ifT rfl ?_)⟩
      refine ⟨_, rfl, _, h1, Nat.lt_of_le_of_lt (m := 14) (by rw [List.length_map, pts_len]; omega) (by decide), x.mut hD (s0.free hD), ?_⟩
      rw [upd_same, pts_snoc]
    · rintro H1 ⟨x, h1⟩
      rw [← len] at h1
      have hp1 : SqL K H1 pl ((ptsS N (List.range N.np)).map V.str) := by
        rw [← posts_pts]
        exact SqL.of (x.s _ _ hpl)
      -- are_names(posts), are_names(points), len(set(points))
      refine ⟨_, rfl, pl, _, rfl, hp1, pts_good_to O pn, true, rfl, ifF rfl ?_⟩
      refine ⟨_, rfl, D, _, rfl, SqL.of h1, pts_good_to O (Nat.le_refl _), true, rfl, ifF rfl ?_⟩
      refine ⟨_, rfl, D, _, rfl, SqL.of h1, pts_nd O (Nat.le_refl _), by rw [pts_len]; omega, _, rfl, D, _, rfl, .inl (SqL.of h1), rfl, _, rfl, ifF ?_ ?_⟩
      · rw [List.length_map]
        simp
      refine ⟨_, rfl, pl, _, rfl, hp1, pts_nd O pn, by rw [pts_len]; omega, _, rfl, pl, _, rfl, .inl hp1, rfl, _, rfl, ifF ?_ ?_⟩
      · rw [List.length_map]
        simp
      -- [post for post in posts if post not in points] == []
      refine ⟨_, rfl, pl, rfl, ⟨_, hp1⟩, fun B hB => lc_list (K := K) (a := pl) (xs := (ptsS N (List.range N.np)).map V.str) (fun i H' => Ext G H G H' ∧ H' B = some (.lst []) ∧ H' D = some (.lst ((ptsS N (List.range N.R.length)).map V.str)))
        ⟨x.allocM hB, upd_same, up h1 hB⟩ (fun i H' _ q => by rw [← posts_pts]; exact SqL.of (q.1.s _ _ hpl)) ?_ ?_⟩
      · rintro i y H' hi ⟨x', h2, h3⟩
        rw [← posts_pts] at hi
        have hlt : i < N.np := by
          have := (List.getElem?_eq_some_iff.mp hi).1
          rw [posts_len] at this
          exact this
        rw [posts_at hlt] at hi
        cases hi
        refine ⟨rfl, ?_⟩
        refine ⟨_, rfl, _, rfl, D, _, rfl, .inl (SqL.of h3), rfl, flat_texts _, _, rfl, ?_⟩
        refine ifF ?_ ⟨x', h2, h3⟩
        have m : Net.pt N i ∈ ptsS N (List.range N.R.length) := List.mem_map.mpr ⟨i, List.mem_range.mpr (by omega), rfl⟩
        rw [in_texts, decide_eq_true m]
        rfl
      · rintro H2 ⟨x', h2, h3⟩
        refine ⟨Nat.zero_le _, fun e1 he1 => ?_⟩
        refine ⟨strD [], strD [], strD_dp (zs := []) (SqL.of (up h2 he1)), strD_dp (zs := []) (SqL.of upd_same), strD_shaped (fun z hz => absurd hz (by simp)), strD_shaped (fun z hz => absurd hz (by simp)), ?_⟩
        rw [strD_eqv_nil]
        exact k _ _ (x'.allocM he1)
end
end RimW

/-! are_wires. -/
namespace RimW
open PySem PySem.Spec PyProof.Rows L2 Rim
open C8 (Cal pe_c pss_cut tCut)

/-! ### how often each wire stands -/
def cnt (l : List Nat) (w : Nat) : Key × V := (Sum.inr (wn w), V.int ((l.count w : Nat) : Int))
def CountAt (kvs : List (Key × V)) (l : List Nat) : Prop := ∃ ws : List Nat, ws.Nodup ∧ (∀ w, w ∈ ws ↔ w ∈ l) ∧ kvs = ws.map (cnt l)
theorem cnt_find (l : List Nat) : ∀ {ws : List Nat}, (∀ w, w ∈ ws → w < 15) → ∀ w, w < 15 → valV (ws.map (cnt l)) (Sum.inr (wn w)) = if w ∈ ws then some (V.int ((l.count w : Nat) : Int)) else none
  | [], _, w, _ => by rw [List.map_nil, valV_nil, if_neg (by simp)]
  | v :: ws, h, w, hw => by
    have ih := cnt_find l (fun z hz => h z (List.mem_cons_of_mem _ hz)) w hw
    rw [List.map_cons]
    by_cases e : v = w
    · subst e
      have q : valV (cnt l v :: ws.map (cnt l)) (Sum.inr (wn v)) = some (cnt l v).2 := valV_pos (p := cnt l v) rfl
      rw [q, if_pos List.mem_cons_self]
      rfl
    · rw [valV_neg (p := cnt l v) (fun q => e (wn_inj (h v List.mem_cons_self) hw (Sum.inr.inj q))), ih]
      have q : w ∈ v :: ws ↔ w ∈ ws := by
        rw [List.mem_cons]
        exact ⟨fun z => z.resolve_left fun y => e y.symm, .inr⟩
      by_cases m : w ∈ ws
      · rw [if_pos m, if_pos (q.mpr m)]
      · rw [if_neg m, if_neg fun z => m (q.mp z)]
theorem CountAt.get {kvs : List (Key × V)} {l : List Nat} (h : CountAt kvs l) (h15 : ∀ w, w ∈ l → w < 15) {w : Nat} (hw : w < 15) : (valV kvs (Sum.inr (wn w))).getD (.int 0) = .int ((l.count w : Nat) : Int) := by
  obtain ⟨ws, nd, mem, rfl⟩ := h
  rw [cnt_find l (fun z hz => h15 z ((mem z).mp hz)) w hw]
  by_cases m : w ∈ ws
  · rw [if_pos m]
    rfl
  · rw [if_neg m, List.count_eq_zero.mpr fun z => m ((mem w).mpr z)]
    rfl
theorem CountAt.len {kvs : List (Key × V)} {l : List Nat} (h : CountAt kvs l) (h15 : ∀ w, w ∈ l → w < 15) : kvs.length ≤ 15 := by
  obtain ⟨ws, nd, mem, rfl⟩ := h
  rw [List.length_map]
  have q := nd.length_le_of_subset (l₂ := List.range 15) fun w hw => List.mem_range.mpr (h15 w ((mem w).mp hw))
  rw [List.length_range] at q
  exact q
theorem CountAt.put {kvs : List (Key × V)} {l : List Nat} (h : CountAt kvs l) (h15 : ∀ w, w ∈ l → w < 15) {w : Nat} (hw : w < 15) : CountAt (putK kvs (Sum.inr (wn w)) (.int (((l.count w : Nat) : Int) + 1))) (l ++ [w]) := by
  have len := h.len h15
  obtain ⟨ws, nd, mem, rfl⟩ := h
  have ws15 : ∀ z, z ∈ ws → z < 15 := fun z hz => h15 z ((mem z).mp hz)
  have find := cnt_find l ws15 w hw
  have same : ∀ v, v ≠ w → cnt (l ++ [w]) v = cnt l v := fun v ne => by
    unfold cnt
    rw [List.count_append, List.count_eq_zero.mpr (fun z => ne (List.mem_singleton.mp z)), Nat.add_zero]
  have here : cnt (l ++ [w]) w = (Sum.inr (wn w), V.int (((l.count w : Nat) : Int) + 1)) := by
    unfold cnt
    rw [List.count_append, List.count_singleton_self]
    rfl
  by_cases m : w ∈ ws
  · rw [if_pos m] at find
    refine ⟨ws, nd, fun v => ?_, ?_⟩
    · rw [List.mem_append, List.mem_singleton, mem v]
      exact ⟨.inl, fun z => z.elim id fun e => by rw [e]; exact (mem w).mp m⟩
    · have any : ((ws.map (cnt l)).any fun kv => decide (kv.1 = Sum.inr (wn w))) = true := by
        rw [valV_any, find]
        rfl
      unfold putK
      rw [if_pos any, List.map_map]
      refine List.map_congr_left fun v hv => ?_
      by_cases e : v = w
      · subst e
        rw [here]
        exact if_pos rfl
      · rw [same v e]
        exact if_neg fun q => e (wn_inj (ws15 v hv) hw (Sum.inr.inj q))
  · rw [if_neg m] at find
    refine ⟨ws ++ [w], ?_, fun v => ?_, ?_⟩
    · refine List.nodup_append.mpr ⟨nd, by simp, ?_⟩
      rintro a ha b hb rfl
      rw [List.mem_singleton.mp hb] at ha
      exact m ha
    · rw [List.mem_append, List.mem_append, mem v]
    · rw [putK_new _ find, List.map_append, List.map_cons, List.map_nil, here]
      congr 1
      refine List.map_congr_left fun v hv => (same v fun e => m (e ▸ hv)).symm
/-- all wires are counted -/
theorem CountAt.all {N : Net} (O : N.Ok) {kvs : List (Key × V)} (h : CountAt kvs N.R.flatten) : ∃ ws : List Nat, ws.Perm (List.range N.M) ∧ kvs = ws.map fun w => (Sum.inr (wn w), V.int 2) := by
  obtain ⟨ws, nd, mem, rfl⟩ := h
  refine ⟨ws, (List.perm_ext_iff_of_nodup nd List.nodup_range).mpr fun w => ?_, ?_⟩
  · rw [mem w, List.mem_range]
    constructor
    · exact O.lt w
    · intro h
      have := O.two w h
      exact List.count_pos_iff.mp (by omega)
  · refine List.map_congr_left fun w hw => ?_
    unfold cnt
    rw [O.two w (O.lt w ((mem w).mp hw))]
    rfl

/-! ### sorted texts -/
theorem rising_all : ∀ {r : List Str} {p : Str}, risingS p r = true → (∀ x, x ∈ r → p.cps.toList ≤ x.cps.toList) ∧ r.Pairwise fun a b => a.cps.toList ≤ b.cps.toList
  | [], _, _ => ⟨fun _ h => absurd h (by simp), .nil⟩
  | x :: r, p, h => by
    rw [risingS, Bool.and_eq_true] at h
    obtain ⟨h1, h2⟩ := h
    rw [ltCps_eq] at h1
    have px : p.cps.toList ≤ x.cps.toList := List.not_lt.mp (by simpa using h1)
    obtain ⟨i1, i2⟩ := rising_all h2
    refine ⟨fun y hy => ?_, .cons i1 i2⟩
    rcases List.mem_cons.mp hy with rfl | z
    · exact px
    · exact List.le_trans px (i1 y z)
theorem sorted_pair {l : List Str} (h : sortedS l = true) : l.Pairwise fun a b => a.cps.toList ≤ b.cps.toList := by
  cases l with
  | nil => exact .nil
  | cons x r =>
    obtain ⟨i1, i2⟩ := rising_all h
    exact .cons i1 i2
theorem sorted_wires {M : Nat} (hM : M ≤ 15) {ys : List Str} {ws : List Nat} (hp : ys.Perm (ws.map wn)) (hw : ws.Perm (List.range M)) (hs : sortedS ys = true) : ys = (List.range M).map wn :=
  List.Perm.eq_of_pairwise (le := fun a b : Str => a.cps.toList ≤ b.cps.toList) (fun a b _ _ h1 h2 => PySem.W.str_of_cps (List.le_antisymm h1 h2)) (sorted_pair hs) ((wn_up hM).imp fun h => List.le_of_lt h) (hp.trans (hw.map wn))

def wnS (M : Nat) : List Str := (List.range M).map wn
theorem wnS_good {M : Nat} (h : M ≤ 15) : ∀ z, z ∈ wnS M → Good z := fun z hz => by
  obtain ⟨w, hw, rfl⟩ := List.mem_map.mp hz
  have := List.mem_range.mp hw
  exact wn_good (by omega)
theorem wnS_snoc {i : Nat} : (wnS (i + 1)).map V.str = (wnS i).map V.str ++ [V.str (wn i)] := by
  unfold wnS
  rw [List.range_succ, List.map_append, List.map_append]
  rfl
theorem wnS_len {i : Nat} : (wnS i).length = i := by unfold wnS; rw [List.length_map, List.length_range]
theorem range_at {n i p : Nat} (h : (List.range n)[i]? = some p) : i < n ∧ p = i := by
  obtain ⟨q1, q2⟩ := List.getElem?_eq_some_iff.mp h
  rw [List.getElem_range] at q2
  exact ⟨by simpa using q1, q2.symm⟩
theorem flat_take {N : Net} {i : Nat} (h : i < N.R.length) : (N.R.take (i + 1)).flatten = (N.R.take i).flatten ++ N.row i := by
  have e1 : N.R[i]? = some (N.row i) := by
    unfold Net.row
    rw [List.getD_eq_getElem?_getD, List.getElem?_eq_getElem h]
    rfl
  rw [take_snoc e1, flat_snoc]

abbrev s_are_wires : Stmt := top 24
theorem sc_are_wires : FnScope ["net", "count", "point", "wires", "wire", "worth"] ["net"] (defScope s_are_wires) := ⟨rfl, rfl, rfl, by decide +kernel, rfl, by decide +kernel, by decide +kernel⟩
section
variable {P : Program} {w : World} {K : PySem.W.Frag} {mg : Str → Option Value} {base : Heap}
theorem ok_are_wires (T : Txt K mg) (D : Dfn K mg "are_wires" s_are_wires ["net"]) (Care_names : Cal P w K mg base 2 "are_names" (spAreNames K) []) (Cis_worth : Cal P w K mg base 2 "is_worth" spWorth []) : Cal P w K mg base 3 "are_wires" spTrue [] := by
  refine cal_by D sc_are_wires (fun vs H Q E h => ?_) (fun f cdv A outer s H vs Q E hr h => ?_)
  · obtain ⟨G, v, N, rfl, _⟩ := h
    rfl
  · obtain ⟨G, v, N, rfl, O, s0, hn, k⟩ := h
    obtain ⟨a, pl, rl, wl, rs, ws, rfl, ha, hpl, hrl, hwl, hrs, hws⟩ := id hn.ex
    have hu := hu_of hr
    have m15 := O.m15
    have len : rs.length = N.R.length := by rw [Paired.length hrs, List.length_range]
    have wlen : ws.length = N.M := by rw [Paired.length hws, List.length_range]
    refine ⟨_, (pss_cons (ps_set (i := 1) sc_are_wires.nd rfl (Or.inr rfl) pe_dnewK)
       (pss_cons (ps_for PassesOwn.never rfl (pi_list (pe_ix ix_tup (pv 0) (pe_int) (fun _ _ => rfl))) (pg_tup (by rfl) (pgs_cons (pg_name (i := 2) sc_are_wires.nd rfl (Or.inl rfl)) (pgs_cons (pg_name (i := 3) sc_are_wires.nd rfl (Or.inl rfl)) pgs_nil))) (pss_one (ps_for PassesOwn.never rfl (pi_list (pv 3)) (pg_name (i := 4) sc_are_wires.nd rfl (Or.inl rfl)) (pss_one (ps_dput hu (pv 1) (pv 4) (pe_op op_add (pe_dget2 hu (pv 1) (pv 4) (pe_int) ⟨rfl, rfl, rfl, rfl⟩) (pe_int)) rfl)))))
       (pss_cons (ps_if (PW.pt (pw_or (pt_not (pt_val (pe_c Care_names hr (by decide) rfl (pa_cons (pe_callTy (call_list_dK rfl) (by rfl) T.list (by decide +kernel) (pa_cons (pv 1) pa_nil)) pa_nil)))) (pw_or1 (pt_cmpR (op_neD hr.units) (pe_lock (pe_lc (own := [("wire", 4)]) (g := gName 4) (by rfl) sc_are_wires.nd (pi_keys (pv 1)) (blkOk_by (N := ["net", "count", "point", "wires", "wire", "worth"]) (sc := defScope s_are_wires) (by decide +kernel)) (fun _ _ _ _ _ => pg_name (i := 4) sc_are_wires.nd rfl (Or.inl rfl)) (fun _ _ _ _ _ => pts_one (pt_cmpR op_ne (pe_dget hu (pv 1) (pv 4) (fun _ _ => rfl)) (pe_int) (nomark _))) (fun _ _ _ _ _ => (pv 4)))) (pe_lst pa_nil) (nomark _))))) (pss_one (ps_ret (pe_bl))) pss_nil)
       (pss_cons (ps_if (pt_cmpR (op_neD hr.units) (pe_lc (own := [("wire", 4), ("worth", 5)]) (g := gTup K 2 (gCons (gName 4) (gCons (gName 5) (gNil)))) (by rfl) sc_are_wires.nd (pi_list (pe_ix ix_tup (pv 0) (pe_int) (fun _ _ => rfl))) (blkOk_by (N := ["net", "count", "point", "wires", "wire", "worth"]) (sc := defScope s_are_wires) (by decide +kernel)) (fun _ _ _ _ _ => pg_tup (by rfl) (pgs_cons (pg_name (i := 4) sc_are_wires.nd rfl (Or.inl rfl)) (pgs_cons (pg_name (i := 5) sc_are_wires.nd rfl (Or.inl rfl)) pgs_nil))) (fun _ _ _ _ _ => pts_nil) (fun _ _ _ _ _ => (pv 4))) (pe_callB (call_sortedD rfl) (by rfl) T.sorted (by decide +kernel) (pa_cons (pv 1) pa_nil)) (nomark _)) (pss_one (ps_ret (pe_bl))) pss_nil)
       (pss_one (ps_ret (pe_cmpR (op_eqD hr.units) (pe_lc (own := [("wire", 4), ("worth", 5)]) (g := gTup K 2 (gCons (gName 4) (gCons (gName 5) (gNil)))) (by rfl) sc_are_wires.nd (pi_list (pe_ix ix_tup (pv 0) (pe_int) (fun _ _ => rfl))) (blkOk_by (N := ["net", "count", "point", "wires", "wire", "worth"]) (sc := defScope s_are_wires) (by decide +kernel)) (fun _ _ _ _ _ => pg_tup (by rfl) (pgs_cons (pg_name (i := 4) sc_are_wires.nd rfl (Or.inl rfl)) (pgs_cons (pg_name (i := 5) sc_are_wires.nd rfl (Or.inl rfl)) pgs_nil))) (fun _ _ _ _ _ => pts_one (pt_not (pt_val (pe_c Cis_worth hr (by decide) rfl (pa_cons (pv 5) pa_nil))))) (fun _ _ _ _ _ => (pv 4))) (pe_lst pa_nil) (nomark _)))))))), ?_⟩
    intro ca hca
    have x0 := (Ext.refl s0).allocM (o := .dK []) hca
    have f15 : ∀ i j w, w ∈ (N.R.take i).flatten ++ (N.row i).take j → w < 15 := fun i j w hw => by
      refine Nat.lt_of_lt_of_le (O.lt w ?_) m15
      rcases List.mem_append.mp hw with z | z
      · obtain ⟨r, hr, hw⟩ := List.mem_flatten.mp z
        exact List.mem_flatten.mpr ⟨r, List.mem_of_mem_take hr, hw⟩
      · obtain ⟨k, hk⟩ := List.mem_iff_getElem?.mp (List.mem_of_mem_take z)
        exact mem_flat.mpr ⟨(i, k), hk⟩
    -- count[wire] = count.get(wire, 0) + 1
    refine ⟨_, rfl, a, _, _, _, rfl, rfl, SqT.of (x0.s _ _ ha), at_of (j := 1) rfl rfl, rl, rfl, ⟨_, SqL.of (x0.s _ _ hrl)⟩, for_list (K := K) (a := rl) (xs := rs)
      (fun i σ H' => (∃ v2 v3 v4 v5, σ = [some (.ref a), some (.ref ca), v2, v3, v4, v5]) ∧ ∃ kvs, Ext G H G H' ∧ H' ca = some (.dK kvs) ∧ CountAt kvs (N.R.take i).flatten)
      ⟨⟨none, none, none, none, rfl⟩, [], x0, upd_same, [], List.nodup_nil, fun w => by simp, rfl⟩ (fun i σ H' _ q => let ⟨_, _, q, _⟩ := q; SqL.of (q.s _ _ hrl)) ?_ ?_⟩
    · rintro i y σ H' hi ⟨⟨v2, v3, v4, v5, rfl⟩, kvs, x, h1, h2⟩
      obtain ⟨p, ep, t, lw, rfl, ht, hlw⟩ := paired_at hrs hi
      obtain ⟨hlt, rfl⟩ := range_at ep
      refine ⟨t, _, rfl, SqT.of (x.s _ _ ht), rfl, _, _, rfl, _, _, rfl, rfl, ?_⟩
      refine ⟨_, rfl, lw, rfl, ⟨_, SqL.of (x.s _ _ hlw)⟩, for_list (K := K) (a := lw) (xs := wiresV (N.row p))
        (fun j σ H' => (∃ v4 v5, σ = [some (.ref a), some (.ref ca), some (.str (Net.pt N p)), some (.ref lw), v4, v5]) ∧ ∃ kvs, Ext G H G H' ∧ H' ca = some (.dK kvs) ∧ CountAt kvs ((N.R.take p).flatten ++ (N.row p).take j))
        ⟨⟨_, _, rfl⟩, kvs, x, h1, by rw [List.take_zero, List.append_nil]; exact h2⟩ (fun j σ H' _ q => let ⟨_, _, q, _⟩ := q; SqL.of (q.s _ _ hlw)) ?_ ?_⟩
      · rintro j y σ H' hj ⟨⟨v4, v5, rfl⟩, kvs, x, h1, h2⟩
        obtain ⟨wi, hw, rfl⟩ := wire_at hj
        have hw15 : wi < 15 := Nat.lt_of_lt_of_le (wire_lt O hw) m15
        have kl : kvs.length < sizeLine := Nat.lt_of_le_of_lt (h2.len (f15 p j)) (by decide)
        refine ⟨_, rfl, ca, rfl, .inl ⟨kvs, .inl h1⟩, _, rfl, _, DGet.k (k := Sum.inr (wn wi)) h1, ?_⟩
        rw [h2.get (f15 p j) hw15]
        refine ⟨_, _, rfl, rfl, _, rfl, _, rfl, ca, _, rfl, DPut.k (k := Sum.inr (wn wi)) h1 kl, ?_⟩
        refine ⟨⟨_, _, rfl⟩, _, x.mut hca (s0.free hca), upd_same, ?_⟩
        have ew : (N.row p)[j]? = some wi := hw
        rw [take_snoc ew, ← List.append_assoc]
        exact h2.put (f15 p j) hw15
      · rintro σ H' ⟨⟨v4, v5, rfl⟩, kvs, x, h1, h2⟩
        rw [wires_len, List.take_length, ← flat_take hlt] at h2
        exact ⟨⟨_, _, _, _, rfl⟩, kvs, x, h1, h2⟩
    · rintro σ H1 ⟨⟨v2, v3, v4, v5, rfl⟩, kvs, x, h1, h2⟩
      rw [len, List.take_length] at h2
      obtain ⟨us, hus, rfl⟩ := h2.all O
      have us15 : ∀ w, w ∈ us → w < 15 := fun w hw => by
        have := List.mem_range.mp (hus.mem_iff.mp hw)
        omega
      have ek : (us.map fun w => ((Sum.inr (wn w), V.int 2) : Key × V)).map (fun kv => kV kv.1) = (us.map wn).map V.str := by
        rw [List.map_map, List.map_map]
        rfl
      have x1 := x.fin hca (s0.free hca) h1
      -- are_names(list(count))
      refine ⟨_, rfl, ca, _, rfl, h1, fun D1 hD1 => ?_⟩
      have x2 := x1.allocM (o := .lst ((us.map fun w => ((Sum.inr (wn w), V.int 2) : Key × V)).map (fun kv => kV kv.1))) hD1
      refine ⟨D1, us.map wn, rfl, SqL.of (by rw [← ek]; exact upd_same), fun z hz => ?_, true, rfl, ifF rfl ?_⟩
      · obtain ⟨w, hw, rfl⟩ := List.mem_map.mp hz
        exact wn_good (us15 w hw)
      -- [wire for wire in count if count[wire] != 2] != []
      have gca : (upd G ca (.dK (us.map fun w => ((Sum.inr (wn w), V.int 2) : Key × V)))) ca = some (.dK (us.map fun w => ((Sum.inr (wn w), V.int 2) : Key × V))) := upd_same
      refine ⟨ca, .dK (us.map fun w => ((Sum.inr (wn w), V.int 2) : Key × V)), x2.s _ _ gca, trivial, fun od => ?_⟩
      have x3 := x2.lock (d := ca) (o := .frz od (.dK (us.map fun w => ((Sum.inr (wn w), V.int 2) : Key × V))))
      refine ⟨_, rfl, ca, od, rfl, .inl ⟨_, upd_same, fun D2 hD2 => lc_keys (fun i H' => Ext (drop G ca) (upd H ca (.frz od (.dK (us.map fun w => ((Sum.inr (wn w), V.int 2) : Key × V))))) (drop (upd G ca (.dK (us.map fun w => ((Sum.inr (wn w), V.int 2) : Key × V)))) ca) H' ∧
          H' D2 = some (.lst []) ∧ H' ca = some (.frz od (.dK (us.map fun w => ((Sum.inr (wn w), V.int 2) : Key × V)))))
        ⟨x3.allocM hD2, upd_same, up upd_same hD2⟩ (fun i H' q => q.2.2) ?_ ?_⟩⟩
      · rintro i kv H' hi ⟨y, y1, y2⟩
        rw [List.getElem?_map] at hi
        cases e : us[i]? with
        | none =>
          rw [e] at hi
          cases hi
        | some u =>
          rw [e] at hi
          cases hi
          have hu15 := us15 u (List.mem_of_getElem? e)
          have fnd : valV (us.map fun w => ((Sum.inr (wn w), V.int 2) : Key × V)) (Sum.inr (wn u)) = some (.int 2) := by
            have q := (h2.get (fun w hw => Nat.lt_of_lt_of_le (O.lt w hw) m15) hu15)
            rw [O.two u (List.mem_range.mp (hus.mem_iff.mp (List.mem_of_getElem? e)))] at q
            cases z : valV (us.map fun w => ((Sum.inr (wn w), V.int 2) : Key × V)) (Sum.inr (wn u)) with
            | none =>
              rw [z] at q
              exact absurd q (by decide)
            | some r =>
              rw [z] at q
              exact congrArg some q
          refine ⟨rfl, ?_⟩
          refine ⟨_, rfl, _, rfl, ca, _, rfl, .inl ⟨_, Sum.inr (wn u), .inr ⟨od, y2⟩, rfl, fnd.symm⟩, rfl, _, rfl, ifF rfl ⟨y, y1, y2⟩⟩
      · rintro H2 ⟨y, y1, y2⟩
        have z0 := x2.unlock gca y
        have nD : D2 ≠ ca := ne_of y1 y2 (by intro q; cases q)
        refine ⟨y2, Nat.zero_le _, fun e1 he1 => ?_⟩
        have z1 := z0.allocM (o := .lst []) he1
        refine ⟨strD [], strD [], strD_dp (zs := []) (SqL.of (up (ap nD y1) he1)), strD_dp (zs := []) (SqL.of upd_same), strD_shaped (fun z hz => absurd hz (by simp)), strD_shaped (fun z hz => absurd hz (by simp)), _, rfl, ?_⟩
        rw [strD_eqv_nil]
        refine ifF rfl ?_
        -- [wire for wire, worth in net[2]] != sorted(count)
        have cz := up (o := .lst []) (upd_same (H := H2) (a := ca) (o := .dK (us.map fun w => ((Sum.inr (wn w), V.int 2) : Key × V)))) he1
        revert z1 cz
        generalize upd (upd H2 ca (HO.dK (us.map fun w => ((Sum.inr (wn w), V.int 2) : Key × V)))) e1 (HO.lst []) = H3
        generalize upd (drop (upd G ca (HO.dK (us.map fun w => ((Sum.inr (wn w), V.int 2) : Key × V)))) ca) ca (HO.dK (us.map fun w => ((Sum.inr (wn w), V.int 2) : Key × V))) = G3
        intro z1 cz
        refine ⟨_, rfl, a, _, _, _, rfl, rfl, SqT.of (z1.s _ _ (z1.g _ _ ha)), at_of (j := 2) rfl rfl, wl, rfl, ⟨_, SqL.of (z1.s _ _ (z1.g _ _ hwl))⟩, fun D3 hD3 => lc_list (K := K) (a := wl) (xs := ws) (fun i H' => Ext G H G3 H' ∧ H' D3 = some (.lst ((wnS i).map V.str)) ∧
            H' ca = some (.dK (us.map fun w => ((Sum.inr (wn w), V.int 2) : Key × V))))
          ⟨z1.allocM hD3, upd_same, up cz hD3⟩ (fun i H' _ q => SqL.of (q.1.s _ _ (z1.g _ _ hwl))) ?_ ?_⟩
        · rintro i y H' hi ⟨u1, u2, u3⟩
          obtain ⟨p, ep, t, lf, rfl, ht, hlf⟩ := paired_at hws hi
          obtain ⟨hlt, rfl⟩ := range_at ep
          refine ⟨t, _, rfl, SqT.of (u1.s _ _ (z1.g _ _ ht)), rfl, _, _, rfl, _, _, rfl, rfl, rfl, tyes (ifT rfl ?_)⟩
          refine ⟨_, rfl, _, u2, Nat.lt_of_le_of_lt (m := 15) (by rw [List.length_map, wnS_len]; omega) (by decide), u1.mut (z1.new hD3) (z1.newG hD3), ?_, ap (ne_of_none cz hD3) u3⟩
          rw [upd_same, wnS_snoc]
        · rintro H4 ⟨u1, u2, u3⟩
          rw [wlen] at u2
          refine ⟨_, rfl, ca, _, us.map wn, rfl, .inl u3, by rw [List.map_map, List.map_map]; rfl, by
            rw [List.length_map, hus.length_eq, List.length_range]
            omega, fun ys D4 hp hs hD4 => ?_⟩
          rw [sorted_wires m15 hp hus hs]
          have u4 := u1.allocM (o := .lst ((wnS N.M).map V.str)) hD4
          refine ⟨strD (wnS N.M), strD (wnS N.M), strD_dp (SqL.of (up u2 hD4)), strD_dp (SqL.of upd_same), strD_shaped (wnS_good m15), strD_shaped (wnS_good m15), _, rfl, ?_⟩
          rw [strD_eqv_self (wnS_good m15)]
          refine ifF rfl ?_
          -- [wire for wire, worth in net[2] if not is_worth(worth)] == []
          have g3 : Same G G3 := z1.g
          refine ⟨_, rfl, a, _, _, _, rfl, rfl, SqT.of (u4.s _ _ (g3 _ _ ha)), at_of (j := 2) rfl rfl, wl, rfl, ⟨_, SqL.of (u4.s _ _ (g3 _ _ hwl))⟩, fun D5 hD5 => lc_list (K := K) (a := wl) (xs := ws) (fun i H' => Ext G H G3 H' ∧ H' D5 = some (.lst []))
            ⟨u4.allocM hD5, upd_same⟩ (fun i H' _ q => SqL.of (q.1.s _ _ (g3 _ _ hwl))) ?_ ?_⟩
          · rintro i y H' hi ⟨t1, t2⟩
            obtain ⟨p, ep, t, lf, rfl, ht, hlf⟩ := paired_at hws hi
            obtain ⟨hlt, rfl⟩ := range_at ep
            refine ⟨t, _, rfl, SqT.of (t1.s _ _ (g3 _ _ ht)), rfl, _, _, rfl, _, _, rfl, rfl, rfl, ?_⟩
            exact ⟨_, rfl, lf, 1 + (p : Int), rfl, t1.s _ _ (g3 _ _ hlf), by omega, true, rfl, ifF rfl ⟨t1, t2⟩⟩
          · rintro H5 ⟨t1, t2⟩
            refine ⟨Nat.zero_le _, fun e2 he2 => ?_⟩
            refine ⟨strD [], strD [], strD_dp (zs := []) (SqL.of (up t2 he2)), strD_dp (zs := []) (SqL.of upd_same), strD_shaped (fun z hz => absurd hz (by simp)), strD_shaped (fun z hz => absurd hz (by simp)), ?_⟩
            rw [strD_eqv_nil]
            exact k _ _ (t1.allocM he2)
end
end RimW

/-! vet. -/
namespace RimW
open PySem PySem.Spec PyProof.Rows L2 Rim
open C8 (Cal pe_c pss_cut tCut)

/-- what the top has written of the three errors -/
structure TxtX (K : PySem.W.Frag) (mg : Str → Option Value) (cNoNet cLoose cNoPlane : Addr) : Prop where
  gNoNet : mg "NoNet" = some (.ref cNoNet)
  gLoose : mg "Loose" = some (.ref cLoose)
  gNoPlane : mg "NoPlane" = some (.ref cNoPlane)
  xNoNet : PySem.W.excIn K cNoNet [.type "ValueError", .type "Exception", .type "BaseException", .type "object"] "ValueError.__new__" = true
  xLoose : PySem.W.excIn K cLoose [.type "ValueError", .type "Exception", .type "BaseException", .type "object"] "ValueError.__new__" = true
  xNoPlane : PySem.W.excIn K cNoPlane [.type "ValueError", .type "Exception", .type "BaseException", .type "object"] "ValueError.__new__" = true
  kNoNet : PySem.W.keepIn K (.ref cNoNet) = true
  kLoose : PySem.W.keepIn K (.ref cLoose) = true
  kNoPlane : PySem.W.keepIn K (.ref cNoPlane) = true
  bNoNet : PySem.W.subIn K (.ref cNoNet) (.type "BaseException") = some true
  bLoose : PySem.W.subIn K (.ref cLoose) (.type "BaseException") = some true
  bNoPlane : PySem.W.subIn K (.ref cNoPlane) (.type "BaseException") = some true
  tNoNet : PySem.W.typeIn K (.ref cNoNet) = some (.type "type")
  tLoose : PySem.W.typeIn K (.ref cLoose) = some (.type "type")
  tNoPlane : PySem.W.typeIn K (.ref cNoPlane) = some (.type "type")
  eLL : PySem.W.exmOne K (.ref cLoose) (.ref cLoose) = some true
  ePL : PySem.W.exmOne K (.ref cNoPlane) (.ref cLoose) = some false
  ePP : PySem.W.exmOne K (.ref cNoPlane) (.ref cNoPlane) = some true
  iL : ExcC K cLoose
  iP : ExcC K cNoPlane
  sLN : PySem.W.kitOne K (.ref cLoose) (.ref cNoNet) = some false
  sLP : PySem.W.kitOne K (.ref cLoose) (.ref cNoPlane) = some false
  sPN : PySem.W.kitOne K (.ref cNoPlane) (.ref cNoNet) = some false
  sPL : PySem.W.kitOne K (.ref cNoPlane) (.ref cLoose) = some false

def spVet (cLoose cNoPlane : Addr) : Sp := fun vs H Q E => ∃ (G : Hp) (v : V) (N : Net), vs = [v] ∧ N.Ok ∧ Same G H ∧ NetAt G v N ∧
  (¬ N.Tied → ∀ G' H', Ext G H G' H' → E (.ref cLoose) none H') ∧ (N.Tied → ¬ N.Flat → ∀ G' H', Ext G H G' H' → E (.ref cNoPlane) none H') ∧ (N.Tied → N.Flat → ∀ G' H', Ext G H G' H' → Q (.bl true) H')
/-- a def that may raise, under its name -/
structure CalX (P : Program) (w : World) (K : PySem.W.Frag) (mg : Str → Option Value) (base : Heap) (k : Nat) (x : Str) (sp : Sp) : Prop where
  ex : ∃ f fd ps, FnOk P w K mg base (L2.CX P w) k f fd ps sp ∧ mg x = some (.ref f) ∧ PySem.W.keepIn K (.ref f) = true ∧ Binds K fd ps []

abbrev s_vet : Stmt := top 25
theorem sc_vet : FnScope ["net"] ["net"] (defScope s_vet) := ⟨rfl, rfl, rfl, by decide +kernel, rfl, by decide +kernel, by decide +kernel⟩
section
variable {P : Program} {w : World} {K : PySem.W.Frag} {mg : Str → Option Value} {base : Heap} {cNoNet cLoose cNoPlane : Addr}
theorem ok_vet (T : Txt K mg) (TX : TxtX K mg cNoNet cLoose cNoPlane) (D : Dfn K mg "vet" s_vet ["net"]) (Care_rows : Cal P w K mg base 3 "are_rows" spTrue []) (Care_wires : Cal P w K mg base 3 "are_wires" spTrue [])
    (Changing_points : Cal P w K mg base 2 "hanging_points" spHang []) (Call_regions : Cal P w K mg base 3 "all_regions" spRegions []) : CalX P w K mg base 4 "vet" (spVet cLoose cNoPlane) := by
  obtain ⟨f, fd, F, m, b⟩ := D.ex
  refine ⟨f, fd, ["net"], F.okX sc_vet (fun vs H Q E h => ?_) (fun cdv A outer s H vs Q E hr h => ?_), m, F.kp, b⟩
  · obtain ⟨G, v, N, rfl, _⟩ := h
    rfl
  · obtain ⟨G, v, N, rfl, O, s0, hn, kL, kP, kT⟩ := h
    obtain ⟨a, pl, rl, wl, rs, ws, rfl, ha, hpl, hrl, hwl, hrs, hws⟩ := id hn.ex
    have len : rs.length = N.R.length := by rw [Paired.length hrs, List.length_range]
    have wlen : ws.length = N.M := by rw [Paired.length hws, List.length_range]
    refine ⟨_, (pss_cons (ps_if (PW.pt (pw_or (pt_not (pt_val (pe_c Care_rows hr (by decide) rfl (pa_cons (pv 0) pa_nil)))) (pw_or1 (pt_not (pt_val (pe_c Care_wires hr (by decide) rfl (pa_cons (pv 0) pa_nil))))))) (pss_one (ps_raise rfl (takes_of rfl rfl rfl rfl) (pmk_own PySem.F.excBase_ValueError TX.xNoNet TX.gNoNet TX.kNoNet (raises_own TX.bNoNet TX.tNoNet) (by exact rfl)))) pss_nil)
       (pss_cons (ps_if (pt_cmpR op_ne (pe_callB call_lenD (by rfl) T.len PySem.boot_len (pa_cons (pe_c Changing_points hr (by decide) rfl (pa_cons (pv 0) pa_nil)) pa_nil)) (pe_callB call_len_seq (by rfl) T.len PySem.boot_len (pa_cons (pe_ix ix_tup (pv 0) (pe_int) (fun _ _ => rfl)) pa_nil)) (nomark _)) (pss_one (ps_raise rfl (takes_of rfl rfl rfl rfl) (pmk_own PySem.F.excBase_ValueError TX.xLoose TX.gLoose TX.kLoose (raises_own TX.bLoose TX.tLoose) (by exact rfl)))) pss_nil)
       (pss_cons (ps_if (pt_cmpR op_ne (pe_op op_add (pe_op op_sub (pe_op op_sub (pe_callB call_len_seq (by rfl) T.len PySem.boot_len (pa_cons (pe_ix ix_tup (pv 0) (pe_int) (fun _ _ => rfl)) pa_nil)) (pe_callB call_len_seq (by rfl) T.len PySem.boot_len (pa_cons (pe_ix ix_tup (pv 0) (pe_int) (fun _ _ => rfl)) pa_nil))) (pe_callB call_len_seq (by rfl) T.len PySem.boot_len (pa_cons (pe_ix ix_tup (pv 0) (pe_int) (fun _ _ => rfl)) pa_nil))) (pe_callB call_len_seq (by rfl) T.len PySem.boot_len (pa_cons (pe_c Call_regions hr (by decide) rfl (pa_cons (pv 0) pa_nil)) pa_nil))) (pe_int) (nomark _)) (pss_one (ps_raise rfl (takes_of rfl rfl rfl rfl) (pmk_own PySem.F.excBase_ValueError TX.xNoPlane TX.gNoPlane TX.kNoPlane (raises_own TX.bNoPlane TX.tNoPlane) (by exact rfl)))) pss_nil)
       (pss_one (ps_ret (pe_bl)))))), ?_⟩
    refine ⟨_, rfl, G, _, N, rfl, O, s0, hn, fun G1 H1 x1 => ⟨true, rfl, ifF rfl ?_⟩⟩
    refine ⟨_, rfl, G1, _, N, rfl, O, x1.s, hn.mono x1.g, fun G2 H2 x2 => ⟨true, rfl, ifF rfl ?_⟩⟩
    have x3 := x1.trans x2
    refine ⟨_, rfl, G2, _, N, rfl, O, x3.s, hn.mono x3.g, ?_⟩
    rintro G3 H3 _ x4 ⟨d, kvs, rfl, hd, hl⟩
    have x5 := x3.trans x4
    refine ⟨d, kvs, rfl, x5.s _ _ hd, ?_⟩
    refine ⟨_, rfl, a, _, _, _, rfl, rfl, SqT.of (x5.s _ _ (x5.g _ _ ha)), at_of (j := 1) rfl rfl, rl, _, rfl, .inl (SqL.of (x5.s _ _ (x5.g _ _ hrl))), rfl, _, rfl, ?_⟩
    rw [hl, len]
    by_cases tied : N.Tied
    · refine ifF (by rw [decide_eq_true (congrArg (fun n : Nat => V.int (n : Int)) tied)]; rfl) ?_
      refine ⟨_, rfl, a, _, _, _, rfl, rfl, SqT.of (x5.s _ _ (x5.g _ _ ha)), at_of (j := 1) rfl rfl, rl, _, rfl, .inl (SqL.of (x5.s _ _ (x5.g _ _ hrl))), ?_⟩
      refine ⟨_, rfl, a, _, _, _, rfl, rfl, SqT.of (x5.s _ _ (x5.g _ _ ha)), at_of (j := 2) rfl rfl, wl, _, rfl, .inl (SqL.of (x5.s _ _ (x5.g _ _ hwl))), _, _, rfl, rfl, ?_⟩
      refine ⟨_, rfl, a, _, _, _, rfl, rfl, SqT.of (x5.s _ _ (x5.g _ _ ha)), at_of (j := 0) rfl rfl, pl, _, rfl, .inl (SqL.of (x5.s _ _ (x5.g _ _ hpl))), _, _, rfl, rfl, ?_⟩
      refine ⟨_, rfl, G3, _, N, rfl, O, x5.s, hn.mono x5.g, ?_⟩
      rintro G4 H4 _ x6 ⟨ga, gs, rfl, hga, hgs⟩
      have x7 := x5.trans x6
      refine ⟨ga, _, rfl, .inl (SqL.of (x7.s _ _ hga)), _, _, rfl, rfl, rfl, _, rfl, ?_⟩
      rw [len, wlen, posts_len, Paired.length hgs]
      by_cases flat : N.Flat
      · refine ifF (by rw [decide_eq_true (congrArg V.int flat)]; rfl) ?_
        exact kT tied flat _ _ x7
      · refine ifT (by rw [decide_eq_false (fun q => flat (V.int.inj q))]; rfl) ?_
        exact kP tied flat _ _ x7
    · refine ifT (by rw [decide_eq_false (fun q => tied (by have := V.int.inj q; unfold Net.Tied; omega))]; rfl) ?_
      exact kL tied _ _ x5
end
end RimW

/-! The law's own defs: _law_cell_at, _law_big, _law_mates. -/
namespace RimW
open PySem PySem.Spec PyProof.Rows L2 Rim
open C8 (Cal pe_c pss_cut tCut)

def spCell (K : PySem.W.Frag) : Sp := fun vs H Q _ => ∃ (a : Addr) (ns : List Int) (k : Int), vs = [.ref a, .int k] ∧ 0 ≤ k ∧ SqL K H a (ns.map V.int) ∧ ∀ z, Q (.int z) H
def spBig (K : PySem.W.Frag) : Sp := fun vs H Q _ => ∃ (G : Hp) (a : Addr) (ns : List Int), vs = [.ref a, .int 0] ∧ Same G H ∧ SqL K H a (ns.map V.int) ∧ ∀ z G' H', Ext G H G' H' → Q (.int z) H'
def spLMates : Sp := fun vs H Q _ => ∃ (G : Hp) (v : V) (N : Net), vs = [v] ∧ N.Ok ∧ Same G H ∧ LTurnsAt G v N ∧ ∀ G' H' x, Ext G H G' H' → MatesAt byNum G' x N → Q x H'

/-- a table of eight numbers, by any number's rest -/
theorem eight (l : List Int) (hl : l.length = 8) (pos : ∀ x, x ∈ l → 0 < x ∧ x < 2 ^ 64) (i : Nat) : ∃ b, atI (l.map V.int) ((0 + (i : Int)) % 8) = some (.int b) ∧ 0 < b ∧ b < 2 ^ 64 := by
  have hj : i % 8 < l.length := by omega
  have e : l[i % 8]? = some (l[i % 8]) := List.getElem?_eq_getElem hj
  refine ⟨l[i % 8], at_of (j := i % 8) (by omega) ?_, pos _ (List.getElem_mem hj)⟩
  rw [List.getElem?_map, e]
  rfl
theorem rows_at {G : Hp} {N : Net} {xs : List V} (h : Paired (fun x p => ∃ l, x = .ref l ∧ G l = some (.lst (wiresV (N.row p)))) xs (List.range N.R.length)) {p : Nat} (hp : p < N.R.length) :
    ∃ l, xs[p]? = some (.ref l) ∧ G l = some (.lst (wiresV (N.row p))) := by
  have hl : p < xs.length := by
    rw [Paired.length h, List.length_range]
    exact hp
  obtain ⟨q, eq, l, el, hl2⟩ := paired_at h (List.getElem?_eq_getElem hl)
  rw [List.getElem?_range hp] at eq
  cases eq
  exact ⟨l, by rw [List.getElem?_eq_getElem hl, el], hl2⟩

abbrev s_L_cell_at : Stmt := top 29
theorem sc_L_cell_at : FnScope ["_law_script", "_law_k"] ["_law_script", "_law_k"] (defScope s_L_cell_at) := ⟨rfl, rfl, rfl, by decide +kernel, rfl, by decide +kernel, by decide +kernel⟩
abbrev s_L_big : Stmt := top 30
theorem sc_L_big : FnScope ["_law_script", "_law_at", "_law_by", "_law_prime", "_law_cell", "_law_big_here", "_law_k", "_law_one"] ["_law_script", "_law_at"] (defScope s_L_big) := ⟨rfl, rfl, rfl, by decide +kernel, rfl, by decide +kernel, by decide +kernel⟩
abbrev s_L_mates : Stmt := top 31
theorem sc_L_mates : FnScope ["_law_turns_here", "_law_first", "_law_mates_here", "_law_p", "_law_k", "_law_wire"] ["_law_turns_here"] (defScope s_L_mates) := ⟨rfl, rfl, rfl, by decide +kernel, rfl, by decide +kernel, by decide +kernel⟩
section
variable {P : Program} {w : World} {K : PySem.W.Frag} {mg : Str → Option Value} {base : Heap}
theorem ok_L_cell_at (T : Txt K mg) (D : Dfn K mg "_law_cell_at" s_L_cell_at ["_law_script", "_law_k"]) : Cal P w K mg base 1 "_law_cell_at" (spCell K) [] := by
  refine cal_by D sc_L_cell_at (fun vs H Q E h => ?_) (fun f cdv A outer s H vs Q E hr h => ?_)
  · obtain ⟨a, ns, k, rfl, _⟩ := h
    rfl
  · obtain ⟨a, ns, z, rfl, h0, hq, k⟩ := h
    refine ⟨_, (pss_cons (ps_if (pt_cmpR op_lt (pv 1) (pe_callB call_len_seq (by rfl) T.len PySem.boot_len (pa_cons (pv 0) pa_nil)) (nomark _)) (pss_one (ps_ret (pe_ix ix_list (pv 0) (pv 1) (fun _ _ => rfl)))) pss_nil)
       (pss_one (ps_ret (pe_int)))), ?_⟩
    refine ⟨_, rfl, _, rfl, a, _, rfl, .inl hq, _, _, rfl, rfl, _, rfl, ifC (fun c => ?_) (fun c => k 0)⟩
    have lt : z < ((ns.map V.int).length : Nat) := of_decide_eq_true c
    rw [List.length_map] at lt
    have hj : z.toNat < ns.length := by omega
    have e : (ns.map V.int)[z.toNat]? = some (.int ns[z.toNat]) := by
      rw [List.getElem?_map, List.getElem?_eq_getElem hj]
      rfl
    exact ⟨_, rfl, _, rfl, a, _, _, _, rfl, rfl, hq, at_of (j := z.toNat) (by omega) e, k _⟩
theorem ok_L_big (T : Txt K mg) (D : Dfn K mg "_law_big" s_L_big ["_law_script", "_law_at"]) (C_law_cell_at : Cal P w K mg base 1 "_law_cell_at" (spCell K) []) : Cal P w K mg base 2 "_law_big" (spBig K) [] := by
  refine cal_by D sc_L_big (fun vs H Q E h => ?_) (fun f cdv A outer s H vs Q E hr h => ?_)
  · obtain ⟨G, a, ns, rfl, _⟩ := h
    rfl
  · obtain ⟨G, a, ns, rfl, s0, hq, k⟩ := h
    refine ⟨_, (pss_cons (ps_set (i := 2) sc_L_big.nd rfl (Or.inl rfl) (pe_tup (pa_cons (pe_int) (pa_cons (pe_int) (pa_cons (pe_int) (pa_cons (pe_int) (pa_cons (pe_int) (pa_cons (pe_int) (pa_cons (pe_int) (pa_cons (pe_int) pa_nil))))))))))
       (pss_cons (ps_set (i := 3) sc_L_big.nd rfl (Or.inl rfl) (pe_tup (pa_cons (pe_int) (pa_cons (pe_int) (pa_cons (pe_int) (pa_cons (pe_int) (pa_cons (pe_int) (pa_cons (pe_int) (pa_cons (pe_int) (pa_cons (pe_int) pa_nil))))))))))
       (pss_cons (ps_set (i := 4) sc_L_big.nd rfl (Or.inl rfl) (pe_c C_law_cell_at hr (by decide) rfl (pa_cons (pv 0) (pa_cons (pv 1) pa_nil))))
       (pss_cons (ps_if (pt_cmpR op_ge (pv 4) (pe_op op_pow (pe_int) (pe_int)) (nomark _)) (pss_one (ps_ret (pv 4))) pss_nil)
       (pss_cons (ps_set (i := 5) sc_L_big.nd rfl (Or.inl rfl) (pe_int))
       (pss_cons (ps_for PassesOwn.never rfl (pi_range1 (by rfl) T.range (pa_cons (pe_int) pa_nil)) (pg_name (i := 6) sc_L_big.nd rfl (Or.inl rfl)) (pss_cons (ps_set (i := 7) sc_L_big.nd rfl (Or.inl rfl) (pe_op op_add (pe_op op_add (pe_op op_mod (pe_c C_law_cell_at hr (by decide) rfl (pa_cons (pv 0) (pa_cons (pe_op op_add (pv 1) (pe_op op_mod (pv 6) (pe_int))) pa_nil))) (pe_op op_pow (pe_int) (pe_int))) (pe_int)) (pe_op op_mul (pv 6) (pv 6))))
       (pss_one (ps_set (i := 5) sc_L_big.nd rfl (Or.inl rfl) (pe_op op_add (pe_op op_mul (pv 5) (pe_int)) (pe_op op_mod (pe_op op_mod (pe_op op_mul (pv 7) (pe_ix ix_tup (pv 2) (pe_op op_mod (pv 6) (pe_int)) (fun _ _ => rfl))) (pe_ix ix_tup (pv 3) (pe_op op_mod (pv 6) (pe_int)) (fun _ _ => rfl))) (pe_int)))))))
       (pss_one (ps_ret (pv 5))))))))), ?_⟩
    refine ⟨(by show 8 ≤ sizeLine; decide), fun t1 h1 => ?_⟩
    refine ⟨(by show 8 ≤ sizeLine; decide), fun t2 h2 => ?_⟩
    have x1 := (Ext.refl s0).alloc (o := .tup ([48271, 69621, 16807, 39373, 21401, 60493, 87721, 31337].map V.int)) h1
    have x2 := x1.alloc (o := .tup ([99991, 99989, 99971, 99961, 99929, 99923, 99907, 99901].map V.int)) h2
    have q2 := x2.h.seq hq
    refine ⟨_, rfl, _, rfl, a, ns, 0, rfl, by decide, q2, fun cell => ?_⟩
    refine ⟨_, rfl, _, _, rfl, rfl, ⟨by decide, by decide, by decide⟩, _, _, rfl, rfl, _, rfl, ifC (fun _ => ⟨_, rfl, k _ _ _ x2⟩) (fun _ => ?_)⟩
    have g1 : (upd (upd G t1 (.tup ([48271, 69621, 16807, 39373, 21401, 60493, 87721, 31337].map V.int))) t2 (.tup ([99991, 99989, 99971, 99961, 99929, 99923, 99907, 99901].map V.int))) t1 = some (.tup ([48271, 69621, 16807, 39373, 21401, 60493, 87721, 31337].map V.int)) :=
      up upd_same (x1.newG h2)
    have g2 : (upd (upd G t1 (.tup ([48271, 69621, 16807, 39373, 21401, 60493, 87721, 31337].map V.int))) t2 (.tup ([99991, 99989, 99971, 99961, 99929, 99923, 99907, 99901].map V.int))) t2 = some (.tup ([99991, 99989, 99971, 99961, 99929, 99923, 99907, 99901].map V.int)) := upd_same
    revert x2 g1 g2
    generalize upd (upd G t1 (.tup ([48271, 69621, 16807, 39373, 21401, 60493, 87721, 31337].map V.int))) t2 (.tup ([99991, 99989, 99971, 99961, 99929, 99923, 99907, 99901].map V.int)) = G2
    intro x2 g1 g2
    refine ⟨60, rfl, by decide, by decide, for_range (lo := 0) (n := 60) (fun i σ H' => Ext G H G2 H' ∧ ∃ v5 v6 v7, σ = [some (.ref a), some (.int 0), some (.ref t1), some (.ref t2), some (.int cell), some (.int v5), v6, v7]) ⟨x2, 0, none, none, rfl⟩ ?_ ?_⟩
    · rintro i σ H' hi ⟨x2, v5, v6, v7, rfl⟩
      have q2 := x2.h.seq hq
      obtain ⟨b1, e1, p1, p2⟩ := eight [48271, 69621, 16807, 39373, 21401, 60493, 87721, 31337] rfl (by decide) i
      obtain ⟨b2, e2, p3, p4⟩ := eight [99991, 99989, 99971, 99961, 99929, 99923, 99907, 99901] rfl (by decide) i
      refine ⟨_, rfl, _, rfl, _, rfl, _, _, rfl, rfl, (by show (0 : Int) < 9; decide), _, _, rfl, rfl, a, ns, _, rfl, by omega, q2, fun z => ?_⟩
      refine ⟨_, _, rfl, rfl, ⟨by decide, by decide, by decide⟩, _, _, rfl, rfl, (by show (0 : Int) < 10 ^ 18; decide), _, _, rfl, rfl, ?_⟩
      refine ⟨_, rfl, _, rfl, _, _, rfl, rfl, .inl ⟨by omega, by omega⟩, _, _, rfl, rfl, ?_⟩
      refine ⟨_, rfl, _, _, rfl, rfl, .inr ⟨by decide, by decide⟩, ?_⟩
      refine ⟨_, rfl, _, rfl, _, rfl, _, _, rfl, rfl, (by show (0 : Int) < 8; decide), t1, _, _, _, rfl, rfl, SqT.of (x2.s _ _ g1), e1, _, _, rfl, rfl, .inr ⟨by omega, p2⟩, ?_⟩
      refine ⟨_, rfl, _, rfl, _, _, rfl, rfl, (by show (0 : Int) < 8; decide), t2, _, _, _, rfl, rfl, SqT.of (x2.s _ _ g2), e2, _, _, rfl, rfl, p3, _, _, rfl, rfl, (by show (0 : Int) < 7919; decide), _, _, rfl, rfl, ?_⟩
      exact ⟨x2, _, _, _, rfl⟩
    · rintro σ H' ⟨x2, v5, v6, v7, rfl⟩
      exact ⟨_, rfl, k _ _ _ x2⟩
theorem ok_L_mates (T : Txt K mg) (D : Dfn K mg "_law_mates" s_L_mates ["_law_turns_here"]) : Cal P w K mg base 1 "_law_mates" spLMates [] := by
  refine cal_by D sc_L_mates (fun vs H Q E h => ?_) (fun f cdv A outer s H vs Q E hr h => ?_)
  · obtain ⟨G, v, N, rfl, _⟩ := h
    rfl
  · obtain ⟨G, v, N, rfl, O, s0, ⟨a, xs, rfl, ha, hxs⟩, k⟩ := h
    have hu := hu_of hr
    have ko : KpOk byNum N := byNum_ok
    have n14 := O.n14
    have xl : xs.length = N.R.length := by rw [Paired.length hxs, List.length_range]
    refine ⟨_, (pss_cons (ps_set (i := 1) sc_L_mates.nd rfl (Or.inl rfl) pe_dnewK)
       (pss_cons (ps_set (i := 2) sc_L_mates.nd rfl (Or.inl rfl) pe_dnewT)
       (pss_cons (ps_for PassesOwn.never rfl (pi_range1 (by rfl) T.range (pa_cons (pe_callB call_len_seq (by rfl) T.len PySem.boot_len (pa_cons (pv 0) pa_nil)) pa_nil)) (pg_name (i := 3) sc_L_mates.nd rfl (Or.inl rfl)) (pss_one (ps_for PassesOwn.never rfl (pi_range1 (by rfl) T.range (pa_cons (pe_callB call_len_seq (by rfl) T.len PySem.boot_len (pa_cons (pe_ix ix_list (pv 0) (pv 3) (fun _ _ => rfl)) pa_nil)) pa_nil)) (pg_name (i := 4) sc_L_mates.nd rfl (Or.inl rfl)) (pss_cons (ps_set (i := 5) sc_L_mates.nd rfl (Or.inl rfl) (pe_ix ix_list (pe_ix ix_list (pv 0) (pv 3) (fun _ _ => rfl)) (pv 4) (fun _ _ => rfl)))
       (pss_one (ps_if (pt_cmp (pc_din hu (pv 5) (pv 1)) rfl) (pss_cons (ps_dput hu (pv 2) (pe_tup (pa_cons (pv 3) (pa_cons (pv 4) pa_nil))) (pe_dget hu (pv 1) (pv 5) (fun _ _ => rfl)) rfl)
       (pss_one (ps_dput hu (pv 2) (pe_dget hu (pv 1) (pv 5) (fun _ _ => rfl)) (pe_tup (pa_cons (pv 3) (pa_cons (pv 4) pa_nil))) rfl))) (pss_one (ps_dput hu (pv 1) (pv 5) (pe_tup (pa_cons (pv 3) (pa_cons (pv 4) pa_nil))) rfl))))))))
       (pss_one (ps_ret (pv 2)))))), ?_⟩
    intro fa hfa
    intro ma hma
    have x0 := ((Ext.refl s0).allocM (o := .dK []) hfa).allocM (o := .dT []) hma
    have nfm : fa ≠ ma := fun z => by
      rw [← z, upd_same] at hma
      cases hma
    have nm0 : H ma = none := by
      rw [upd_ne nfm.symm] at hma
      exact hma
    let Pv : Nat → Nat → Hp → Prop := fun i j H' => ∃ G' fk mk, Ext G H G' H' ∧ H' fa = some (.dK fk) ∧ G' fa = none ∧ H' ma = some (.dT mk) ∧ G' ma = none ∧ Mated byNum N G' i j fk mk
    refine ⟨_, rfl, a, _, rfl, .inl (SqL.of (x0.s _ _ ha)), _, rfl, by omega, by omega, for_range (lo := 0) (n := xs.length) (fun i σ H' => (∃ v3 v4 v5, σ = [some (.ref a), some (.ref fa), some (.ref ma), v3, v4, v5]) ∧ Pv i 0 H')
      ⟨⟨none, none, none, rfl⟩, G, [], [], x0, ap nfm upd_same, s0.free hfa, upd_same, s0.free nm0, mated_start⟩ ?_ ?_⟩
    · rintro i σ H' hi ⟨⟨v3, v4, v5, rfl⟩, G', fk, mk, x, h1, h2, h3, h4, h6⟩
      rw [Int.zero_add]
      have hlt : i < N.R.length := by omega
      obtain ⟨l, el, hl⟩ := rows_at hxs hlt
      have rl := row_len O i
      refine ⟨_, rfl, _, rfl, a, _, _, _, rfl, rfl, SqL.of (x.s _ _ (x.g _ _ ha)), at_of (j := i) rfl el, l, _, rfl, .inl (SqL.of (x.s _ _ (x.g _ _ hl))), _, rfl, ?_⟩
      rw [wires_len]
      refine ⟨by omega, by omega, for_range (lo := 0) (n := (N.row i).length) (fun j σ H' => (∃ v4 v5, σ = [some (.ref a), some (.ref fa), some (.ref ma), some (.int (i : Nat)), v4, v5]) ∧ Pv i j H')
        ⟨⟨_, _, rfl⟩, G', fk, mk, x, h1, h2, h3, h4, h6⟩ ?_ ?_⟩
      · rintro j σ H' hj ⟨⟨v4, v5, rfl⟩, G', fk, mk, x, h1, h2, h3, h4, h6⟩
        rw [Int.zero_add]
        obtain ⟨sm1, sm2⟩ := h6.small (by omega) (by omega)
        obtain ⟨wi, ew⟩ : ∃ wi, N.wire (i, j) = some wi := end_iff.mp hj
        have ex : (wiresV (N.row i))[j]? = some (.str (wn wi)) := by
          unfold wiresV
          rw [List.getElem?_map, show (N.row i)[j]? = some wi from ew]
          rfl
        refine ⟨_, rfl, _, rfl, a, _, _, _, rfl, rfl, SqL.of (x.s _ _ (x.g _ _ ha)), at_of (j := i) rfl el, _, rfl, l, _, _, _, rfl, rfl, SqL.of (x.s _ _ (x.g _ _ hl)), at_of (j := j) rfl ex, ?_⟩
        refine ⟨_, rfl, _, rfl, fa, _, rfl, DGet.k (k := Sum.inr (wn wi)) h1, _, rfl, ?_⟩
        rcases h6.cases O ew with no | ⟨t1, e, yes, ht1⟩
        · rw [no]
          refine ifF rfl ?_
          refine ⟨_, rfl, _, rfl, (by show 2 ≤ sizeLine; decide), fun t2 ht2 => ⟨_, rfl, _, rfl, fa, _, rfl, DPut.k (k := Sum.inr (wn wi)) (up h1 ht2) sm1, ?_⟩⟩
          have x3 := (x.alloc (o := .tup [.int (i : Nat), .int (j : Nat)]) ht2).mut (o := .dK (putK fk (Sum.inr (wn wi)) (.ref t2))) hfa (gp h1 ht2 h2)
          exact ⟨⟨_, _, rfl⟩, _, _, _, x3, upd_same, gp h1 ht2 h2, ap nfm.symm (up h3 ht2), gp h3 ht2 h4, h6.lone O ew no (same_new (x.newG ht2)) upd_same⟩
        · rw [yes]
          refine ifT rfl ?_
          refine ⟨_, rfl, _, rfl, fa, _, rfl, .inl ⟨fk, Sum.inr (wn wi), .inl h1, rfl, yes.symm⟩, _, rfl, _, rfl, _, rfl, (by show 2 ≤ sizeLine; decide), fun t2 ht2 => ?_⟩
          refine ⟨ma, _, rfl, DPut.t (k := ckey byNum (i, j)) (up h3 ht2) upd_same (by omega), ?_⟩
          have x3 := (x.alloc (o := .tup [.int (i : Nat), .int (j : Nat)]) ht2).mut (d := ma) (o := .dT (putK mk (ckey byNum (i, j)) (.ref t1))) nm0 (gp h3 ht2 h4)
          refine ⟨_, rfl, _, rfl, (by show 2 ≤ sizeLine; decide), fun t3 ht3 => ?_⟩
          obtain ⟨e', ht1', m7⟩ := h6.pair O ko ew yes (G' := upd (upd G' t2 (.tup [.int (i : Nat), .int (j : Nat)])) t3 (.tup [.int (i : Nat), .int (j : Nat)])) ((same_new (x.newG ht2)).trans (same_new (x3.newG ht3))) (t' := t3) upd_same
          have x4 := x3.alloc (o := .tup [.int (i : Nat), .int (j : Nat)]) ht3
          have b1 := ap (d := ma) (o := .dT (putK mk (ckey byNum (i, j)) (.ref t1))) nfm (up (o := .tup [.int (i : Nat), .int (j : Nat)]) h1 ht2)
          have b4 := gp (G := upd G' t2 (.tup [.int (i : Nat), .int (j : Nat)])) (o := .tup [.int (i : Nat), .int (j : Nat)]) upd_same ht3 (gp h3 ht2 h4)
          refine ⟨_, rfl, _, rfl, _, rfl, fa, _, rfl, .inl ⟨fk, Sum.inr (wn wi), .inl (up b1 ht3), rfl, yes.symm⟩, ma, _, rfl, DPut.t (k := ckey byNum e') (up upd_same ht3) (x4.s _ _ ht1') ?_, ?_⟩
          · have := length_putK mk (ckey byNum (i, j)) (V.ref t1)
            omega
          have x5 := x4.mut (d := ma) (o := .dT (putK (putK mk (ckey byNum (i, j)) (.ref t1)) (ckey byNum e') (.ref t3))) nm0 b4
          exact ⟨⟨_, _, rfl⟩, _, _, _, x5, ap nfm (up b1 ht3), gp b1 ht3 (gp h1 ht2 h2), upd_same, b4, m7⟩
      · rintro σ H' ⟨⟨v4, v5, rfl⟩, G', fk, mk, x, h1, h2, h3, h4, h6⟩
        exact ⟨⟨_, _, _, rfl⟩, G', fk, mk, x, h1, h2, h3, h4, h6.next O⟩
    · rintro σ H' ⟨⟨v3, v4, v5, rfl⟩, G', fk, mk, x, h1, h2, h3, h4, h6⟩
      rw [xl] at h6
      refine ⟨_, rfl, ?_⟩
      refine k _ _ _ (x.fin (d := ma) nm0 h4 h3) ⟨ma, mk, rfl, upd_same, fun c hc => ?_⟩
      obtain ⟨t, r1, r2⟩ := h6.done O hc
      exact ⟨t, r1, (same_new h4) _ _ r2⟩
end
end RimW

/-! The law's own defs: _law_corner_behind, _law_region, _law_copy, _law_turns. -/
namespace RimW
open PySem PySem.Spec PyProof.Rows L2 Rim
open C8 (Cal pe_c pss_cut tCut)

def spLCorner (post : Net → Hp → V → At → Prop) : Sp := fun vs H Q _ => ∃ (G : Hp) (tv mv cv : V) (N : Net) (c : At), vs = [tv, .int (N.np : Nat), mv, cv] ∧ N.Ok ∧ Same G H ∧ LTurnsAt G tv N ∧ MatesAt byNum G mv N ∧
  IsC byNum G cv c ∧ N.Cor c ∧ ∀ G' H' x, Ext G H G' H' → post N G' x c → Q x H'
abbrev spLBehind : Sp := spLCorner fun N G v c => IsC byNum G v (N.nx c)
abbrev spLRegion : Sp := spLCorner fun N G v c => CorsAt byNum G v (round N.nx c)
abbrev spCopy : Sp := spNet NetAt
/-- the points' names, and the turns, in a tuple -/
def PairAt (G : Hp) (v : V) (N : Net) : Prop := ∃ t pa tv, v = .ref t ∧ G t = some (.tup [.ref pa, tv]) ∧ G pa = some (.lst ((ptsS N (List.range N.R.length)).map V.str)) ∧ LTurnsAt G tv N
abbrev spLTurns : Sp := spNet PairAt
theorem prev_mod {N : Net} (O : N.Ok) {p : Nat} (h : p < N.np) : ((p : Int) - 1) % ((N.np : Nat) : Int) = ((N.prev p : Nat) : Int) := by
  have h1 := O.p1
  unfold Net.prev
  by_cases z : p = 0
  · subst z
    rw [if_pos rfl]
    have e : ((0 : Nat) : Int) - 1 = ((N.np - 1 : Nat) : Int) + ((N.np : Nat) : Int) * (-1) := by omega
    rw [e, Int.add_mul_emod_self_left]
    exact Int.emod_eq_of_lt (by omega) (by omega)
  · rw [if_neg z, Int.emod_eq_of_lt (by omega) (by omega)]
    omega
/-- the names of points from np on -/
def lateS (N : Net) (m : Nat) : List Str := (List.range m).map fun k => Net.pt N (N.np + k)
theorem late_all {N : Net} (O : N.Ok) : ptsS N (List.range N.np) ++ lateS N (N.R.length - N.np) = ptsS N (List.range N.R.length) := by
  have e : N.R.length = N.np + (N.R.length - N.np) := by have := O.pn; omega
  rw [e, List.range_add, show N.np + (N.R.length - N.np) - N.np = N.R.length - N.np by omega]
  unfold ptsS lateS
  rw [List.map_append, List.map_map]
  rfl
theorem late_snoc {N : Net} {i : Nat} (h : N.np ≤ i) : (lateS N (i + 1 - N.np)).map V.str = (lateS N (i - N.np)).map V.str ++ [V.str (Net.pt N i)] := by
  rw [show i + 1 - N.np = (i - N.np) + 1 by omega]
  unfold lateS
  rw [List.range_succ, List.map_append, List.map_append]
  show _ ++ [V.str (Net.pt N (N.np + (i - N.np)))] = _
  rw [show N.np + (i - N.np) = i by omega]

abbrev s_L_corner_behind : Stmt := top 32
theorem sc_L_corner_behind : FnScope ["_law_turns_here", "_law_posts", "_law_mates_here", "_law_corner", "_law_p", "_law_k", "_law_q", "_law_j"] ["_law_turns_here", "_law_posts", "_law_mates_here", "_law_corner"] (defScope s_L_corner_behind) := ⟨rfl, rfl, rfl, by decide +kernel, rfl, by decide +kernel, by decide +kernel⟩
abbrev s_L_region : Stmt := top 33
theorem sc_L_region : FnScope ["_law_turns_here", "_law_posts", "_law_mates_here", "_law_corner", "_law_found", "_law_here"] ["_law_turns_here", "_law_posts", "_law_mates_here", "_law_corner"] (defScope s_L_region) := ⟨rfl, rfl, rfl, by decide +kernel, rfl, by decide +kernel, by decide +kernel⟩
abbrev s_L_copy : Stmt := top 34
theorem sc_L_copy : FnScope ["_law_net", "_law_point", "_law_wires"] ["_law_net"] (defScope s_L_copy) := ⟨rfl, rfl, rfl, by decide +kernel, rfl, by decide +kernel, by decide +kernel⟩
abbrev s_L_turns : Stmt := top 35
theorem sc_L_turns : FnScope ["_law_net", "_law_point", "_law_wires", "_law_points", "_law_by_name"] ["_law_net"] (defScope s_L_turns) := ⟨rfl, rfl, rfl, by decide +kernel, rfl, by decide +kernel, by decide +kernel⟩
section
variable {P : Program} {w : World} {K : PySem.W.Frag} {mg : Str → Option Value} {base : Heap}
theorem ok_L_corner_behind (T : Txt K mg) (D : Dfn K mg "_law_corner_behind" s_L_corner_behind ["_law_turns_here", "_law_posts", "_law_mates_here", "_law_corner"]) : Cal P w K mg base 1 "_law_corner_behind" spLBehind [] := by
  refine cal_by D sc_L_corner_behind (fun vs H Q E h => ?_) (fun f cdv A outer s H vs Q E hr h => ?_)
  · obtain ⟨G, tv, mv, cv, N, c, rfl, _⟩ := h
    rfl
  · obtain ⟨G, _, _, _, N, c, rfl, O, s0, ⟨a, xs, rfl, ha, hxs⟩, ⟨md, mkvs, rfl, hmd, hmk⟩, ⟨t, rfl, ht⟩, hc, k⟩ := h
    have hu := hu_of hr
    have p1 := O.p1
    refine ⟨_, (pss_cons (ps_asg (pv 3) (pg_tup (by rfl) (pgs_cons (pg_name (i := 4) sc_L_corner_behind.nd rfl (Or.inl rfl)) (pgs_cons (pg_name (i := 5) sc_L_corner_behind.nd rfl (Or.inl rfl)) pgs_nil))))
       (pss_cons (ps_if (pt_cmpR op_eq (pv 5) (pe_callB call_len_seq (by rfl) T.len PySem.boot_len (pa_cons (pe_ix ix_list (pv 0) (pv 4) (fun _ _ => rfl)) pa_nil)) (nomark _)) (pss_one (ps_ret (pe_tup (pa_cons (pe_op op_mod (pe_op op_sub (pv 4) (pe_int)) (pv 1)) (pa_cons (pe_int) pa_nil))))) pss_nil)
       (pss_cons (ps_asg (pe_dget hu (pv 2) (pe_tup (pa_cons (pv 4) (pa_cons (pv 5) pa_nil))) (fun _ _ => rfl)) (pg_tup (by rfl) (pgs_cons (pg_name (i := 6) sc_L_corner_behind.nd rfl (Or.inl rfl)) (pgs_cons (pg_name (i := 7) sc_L_corner_behind.nd rfl (Or.inl rfl)) pgs_nil))))
       (pss_cons (ps_if (pt_cmpR op_lt (pv 6) (pv 1) (nomark _)) (pss_one (ps_ret (pe_tup (pa_cons (pv 6) (pa_cons (pe_op op_add (pv 7) (pe_int)) pa_nil))))) pss_nil)
       (pss_one (ps_ret (pe_tup (pa_cons (pv 6) (pa_cons (pe_op op_mod (pe_op op_add (pv 7) (pe_int)) (pe_callB call_len_seq (by rfl) T.len PySem.boot_len (pa_cons (pe_ix ix_list (pv 0) (pv 6) (fun _ _ => rfl)) pa_nil))) pa_nil))))))))), ?_⟩
    obtain ⟨l, g1, g2⟩ := rows_at hxs hc.1
    refine ⟨_, rfl, t, _, rfl, SqT.of (s0 _ _ ht), rfl, _, _, rfl, _, _, rfl, rfl, ?_⟩
    refine ⟨_, rfl, _, rfl, _, rfl, a, _, _, _, rfl, rfl, SqL.of (s0 _ _ ha), at_of (j := c.1) rfl g1, l, _, rfl, .inl (SqL.of (s0 _ _ g2)), rfl, _, rfl, ?_⟩
    rw [wires_len]
    rcases Cor.cases hc with he | ⟨hp, he⟩
    · have ne : decide (V.int (c.2 : Nat) = V.int ((N.row c.1).length : Nat)) = false := decide_eq_false fun q => End.ne he (by have := V.int.inj q; omega)
      refine ifF ne ?_
      obtain ⟨t2, m1, m2⟩ := hmk c he
      have hm := mate_end O he
      have hml := End.lt hm
      obtain ⟨l2, g3, g4⟩ := rows_at hxs hml
      refine ⟨_, rfl, _, rfl, _, rfl, (by show 2 ≤ sizeLine; decide), fun t3 ht3 => ?_⟩
      have x1 := (Ext.refl s0).alloc (o := .tup [.int (c.1 : Nat), .int (c.2 : Nat)]) ht3
      refine ⟨md, _, rfl, .inr ⟨mkvs, ckey byNum c, t3, .inl (x1.s _ _ (x1.g _ _ hmd)), rfl, upd_same, m1.symm⟩, ?_⟩
      refine ⟨t2, _, rfl, SqT.of (x1.s _ _ (x1.g _ _ m2)), rfl, _, _, rfl, _, _, rfl, rfl, ?_⟩
      refine ⟨_, rfl, _, rfl, _, _, rfl, rfl, _, rfl, ?_⟩
      by_cases q : (N.mate c).1 < N.np
      · refine ifT (decide_eq_true (by omega)) ?_
        refine ⟨_, rfl, _, rfl, _, _, rfl, rfl, (by show 2 ≤ sizeLine; decide), fun t4 ht4 => ?_⟩
        refine k _ _ _ (x1.alloc ht4) ⟨t4, rfl, ?_⟩
        rw [upd_same, nx_post (End.ne he) q]
        rfl
      · refine ifF (decide_eq_false (by omega)) ?_
        have rl : 0 < (N.row (N.mate c).1).length := Nat.lt_of_le_of_lt (Nat.zero_le _) hm
        refine ⟨_, rfl, _, rfl, _, _, rfl, rfl, _, rfl, _, rfl, a, _, _, _, rfl, rfl, SqL.of (x1.s _ _ (x1.g _ _ ha)), at_of (j := (N.mate c).1) rfl g3, l2, _, rfl, .inl (SqL.of (x1.s _ _ (x1.g _ _ g4))), _, _, rfl, rfl, ?_, (by show 2 ≤ sizeLine; decide), fun t4 ht4 => ?_⟩
        · show (0 : Int) < ((wiresV (N.row (N.mate c).1)).length : Nat)
          rw [wires_len]
          omega
        · refine k _ _ _ (x1.alloc ht4) ⟨t4, rfl, ?_⟩
          have e : (((N.mate c).2 : Nat) + 1 : Int) % ((wiresV (N.row (N.mate c).1)).length : Nat) = ((((N.mate c).2 + 1) % (N.row (N.mate c).1).length : Nat) : Int) := by
            rw [wires_len, Int.natCast_emod]
            rfl
          rw [upd_same, nx_in (End.ne he) q]
          exact congrArg (fun z : Int => some (HO.tup [V.int ((N.mate c).1 : Nat), V.int z])) e
    · refine ifT (decide_eq_true (congrArg (fun n : Nat => V.int (n : Int)) he)) ?_
      refine ⟨_, rfl, _, _, rfl, rfl, _, rfl, _, _, rfl, rfl, (by show (0 : Int) < ((N.np : Nat) : Int); omega), (by show 2 ≤ sizeLine; decide), fun t4 ht4 => ?_⟩
      refine k _ _ _ ((Ext.refl s0).alloc ht4) ⟨t4, rfl, ?_⟩
      rw [upd_same, nx_rim he]
      exact congrArg (fun z : Int => some (HO.tup [V.int z, V.int 0])) (prev_mod O hp)
theorem ok_L_region (T : Txt K mg) (D : Dfn K mg "_law_region" s_L_region ["_law_turns_here", "_law_posts", "_law_mates_here", "_law_corner"]) (C_law_corner_behind : Cal P w K mg base 1 "_law_corner_behind" spLBehind []) : Cal P w K mg base 2 "_law_region" spLRegion [] := by
  refine cal_by D sc_L_region (fun vs H Q E h => ?_) (fun f cdv A outer s H vs Q E hr h => ?_)
  · obtain ⟨G, tv, mv, cv, N, c, rfl, _⟩ := h
    rfl
  · obtain ⟨G, tv, mv, cv, N, c, rfl, O, s0, ht, hm, hcv, hc, k⟩ := h
    have hu := hu_of hr
    have ko : KpOk byNum N := byNum_ok
    have kl : KpLay byNum N := byNum_lay
    have pm := nx_perms O
    have hin : c ∈ N.cors := mem_cors.mpr hc
    obtain ⟨m, ml, cyc⟩ := pm.cyc hin
    have m34 : m ≤ 34 := Nat.le_trans ml (cors_len O)
    refine ⟨_, (pss_cons (ps_set (i := 4) sc_L_region.nd rfl (Or.inl rfl) (pe_lst (pa_cons (pv 3) pa_nil)))
       (pss_cons (ps_set (i := 5) sc_L_region.nd rfl (Or.inl rfl) (pe_c C_law_corner_behind hr (by decide) rfl (pa_cons (pv 0) (pa_cons (pv 1) (pa_cons (pv 2) (pa_cons (pv 3) pa_nil))))))
       (pss_cons (ps_while PassesOwn.never (pt_cmpR (op_neD hr.units) (pv 5) (pv 3) (nomark _)) (pss_cons (ps_expr (pe_bm PySem.F.plainAttrs_list PySem.F.slot_list_append PySem.F.type_list_append mt_append (pv 4) (pa_cons (pv 5) pa_nil)))
       (pss_one (ps_set (i := 5) sc_L_region.nd rfl (Or.inl rfl) (pe_c C_law_corner_behind hr (by decide) rfl (pa_cons (pv 0) (pa_cons (pv 1) (pa_cons (pv 2) (pa_cons (pv 5) pa_nil)))))))))
       (pss_one (ps_ret (pv 4)))))), ?_⟩
    refine ⟨_, rfl, (by show 1 ≤ sizeLine; decide), fun fa hfa => ?_⟩
    have x0 := (Ext.refl s0).allocM (o := .lst [cv]) hfa
    refine ⟨_, rfl, _, rfl, _, rfl, _, rfl, G, tv, mv, cv, N, c, rfl, O, x0.s, ht, hm, hcv, hc, fun G1 H1 hv x1 q1 => ?_⟩
    have own := x1.own upd_same (s0.free hfa)
    refine ⟨fun j σ H' => ∃ i G' xs here, σ = [some tv, some (.int (N.np : Nat)), some mv, some cv, some (.ref fa), some here] ∧ Ext G H G' H' ∧ H' fa = some (.lst xs) ∧ G' fa = none ∧ IsCs byNum G' xs (trip N.nx c i) ∧ IsC byNum G' here (it N.nx i c) ∧ 0 < i ∧ i ≤ m ∧ j = m - i,
      ⟨_, 1, G1, [cv], hv, rfl, x0.trans x1, own.1, own.2, .cons (hcv.mono x1.g) .nil, q1, by decide, cyc.pos, rfl⟩, ?_⟩
    rintro j σ H' ⟨i, G', xs, here, rfl, x, h1, h2, h3, h4, i0, im, rfl⟩
    have hici := pm.it_in hin i
    have hic := mem_cors.mp hici
    refine ⟨_, rfl, _, rfl, cD byNum (it N.nx i c), cD byNum c, cD_dp x.s h4, cD_dp x.s (hcv.mono x.g), cD_shaped kl hic.1, cD_shaped kl hc.1, _, rfl, ?_⟩
    rw [cD_eqv ko hic.1 hc.1]
    by_cases e : it N.nx i c = c
    · have eim : i = m := by
        rcases Nat.lt_or_ge i m with z | z
        · exact absurd e (cyc.least i i0 z)
        · omega
      subst eim
      refine ifF (by rw [decide_eq_true e]; rfl) ?_
      refine ⟨_, rfl, ?_⟩
      refine k _ _ _ (x.fin hfa h2 h1) ⟨fa, xs, rfl, upd_same, ?_⟩
      rw [round_eq cyc]
      exact h3.mono (same_new h2)
    · have lt : i < m := by
        rcases Nat.lt_or_ge i m with z | z
        · exact z
        · have z : i = m := by omega
          subst z
          exact absurd cyc.ret e
      refine ifT (by rw [decide_eq_false e]; rfl) ?_
      refine ⟨fun σ2 H2 => ∃ G' xs here, σ2 = [some tv, some (.int (N.np : Nat)), some mv, some cv, some (.ref fa), some here] ∧ Ext G H G' H2 ∧ H2 fa = some (.lst xs) ∧ G' fa = none ∧ IsCs byNum G' xs (trip N.nx c (i + 1)) ∧ IsC byNum G' here (it N.nx (i + 1) c),
        fun σ2 H2 ⟨G', xs, here, e1, e2, e3, e4, e5, e6⟩ => ⟨m - (i + 1), by omega, i + 1, G', xs, here, e1, e2, e3, e4, e5, e6, by omega, lt, rfl⟩, ?_⟩
      have xl : xs.length < sizeLine := by
        rw [h3.len, trip_len]
        exact Nat.lt_of_le_of_lt (m := 34) (by omega) (by decide)
      refine ⟨_, rfl, .inl ⟨rfl, _, SqL.of h1⟩, _, rfl, fa, _, _, rfl, rfl, h1, xl, ?_⟩
      have y0 := x.mut (d := fa) (o := .lst (xs ++ [here])) hfa h2
      refine ⟨_, rfl, _, rfl, _, rfl, _, rfl, G', tv, mv, here, N, it N.nx i c, rfl, O, y0.s, ht.mono x.g, hm.mono x.g, h4, hic, fun G2 H2 hv2 y1 q2 => ?_⟩
      have own2 := y1.own upd_same h2
      refine ⟨G2, _, hv2, rfl, y0.trans y1, own2.1, own2.2, ?_, q2⟩
      rw [trip_more]
      exact paired_snoc (h3.mono y1.g) (h4.mono y1.g)
theorem ok_L_copy (T : Txt K mg) (D : Dfn K mg "_law_copy" s_L_copy ["_law_net"]) : Cal P w K mg base 1 "_law_copy" spCopy [] := by
  refine cal_by D sc_L_copy (fun vs H Q E h => ?_) (fun f cdv A outer s H vs Q E hr h => ?_)
  · obtain ⟨G, v, N, rfl, _⟩ := h
    rfl
  · obtain ⟨G, v, N, rfl, O, s0, hn, k⟩ := h
    obtain ⟨a, pl, rl, wl, rs, ws, rfl, ha, hpl, hrl, hwl, hrs, hws⟩ := id hn.ex
    have n14 := O.n14
    have rlen : rs.length = N.R.length := by rw [Paired.length hrs, List.length_range]
    refine ⟨_, (pss_one (ps_ret (pe_tup (pa_cons (pe_callTy (call_list_of) (by rfl) T.list (by decide +kernel) (pa_cons (pe_ix ix_tup (pv 0) (pe_int) (fun _ _ => rfl)) pa_nil)) (pa_cons (pe_lc (own := [("_law_point", 1), ("_law_wires", 2)]) (g := gTup K 2 (gCons (gName 1) (gCons (gName 2) (gNil)))) (by rfl) sc_L_copy.nd (pi_list (pe_ix ix_tup (pv 0) (pe_int) (fun _ _ => rfl))) (blkOk_by (N := ["_law_net", "_law_point", "_law_wires"]) (sc := defScope s_L_copy) (by decide +kernel)) (fun _ _ _ _ _ => pg_tup (by rfl) (pgs_cons (pg_name (i := 1) sc_L_copy.nd rfl (Or.inl rfl)) (pgs_cons (pg_name (i := 2) sc_L_copy.nd rfl (Or.inl rfl)) pgs_nil))) (fun _ _ _ _ _ => pts_nil) (fun _ _ _ _ _ => (pe_tup (pa_cons (pv 1) (pa_cons (pe_callTy (list_ofK (K := K) rfl) (by rfl) T.list (by decide +kernel) (pa_cons (pv 2) pa_nil)) pa_nil))))) (pa_cons (pe_callTy (call_list_of) (by rfl) T.list (by decide +kernel) (pa_cons (pe_ix ix_tup (pv 0) (pe_int) (fun _ _ => rfl)) pa_nil)) pa_nil)))))), ?_⟩
    refine ⟨_, rfl, a, _, _, _, rfl, rfl, SqT.of (s0 _ _ ha), at_of (j := 0) rfl rfl, pl, _, rfl, .inl (SqL.of (s0 _ _ hpl)), fun p2 hp2 => ?_⟩
    have x1 := (Ext.refl s0).alloc (o := .lst (postsV N)) hp2
    refine ⟨_, rfl, a, _, _, _, rfl, rfl, SqT.of (x1.s _ _ (x1.g _ _ ha)), at_of (j := 1) rfl rfl, rl, rfl, ⟨_, SqL.of (x1.s _ _ (x1.g _ _ hrl))⟩, fun D hD => lc_list (K := K) (a := rl) (xs := rs)
      (fun i H' => ∃ G' qs, Ext G H G' H' ∧ Same (upd G p2 (.lst (postsV N))) G' ∧ H' D = some (.lst qs) ∧ G' D = none ∧ qs.length = i ∧ Paired (RowAt G' N) qs (List.range i))
      ⟨_, [], x1.allocM hD, Same.refl _, upd_same, x1.newG hD, rfl, .nil⟩ (fun i H' _ ⟨_, _, x, _⟩ => SqL.of (x.s _ _ (x.g _ _ hrl))) ?_ ?_⟩
    · rintro i y H' hi ⟨G', qs, x, sg, h1, h2, h3, h4⟩
      obtain ⟨p, ep, t, lw, rfl, ht, hlw⟩ := paired_at hrs hi
      obtain ⟨hlt, rfl⟩ := range_at ep
      refine ⟨t, _, rfl, SqT.of (x.s _ _ (x.g _ _ ht)), rfl, _, _, rfl, _, _, rfl, rfl, rfl, tyes (ifT rfl ?_)⟩
      refine ⟨_, rfl, _, rfl, lw, _, rfl, .inl (SqL.of (x.s _ _ (x.g _ _ hlw))), fun l2 hl2 => ⟨(by show 2 ≤ sizeLine; decide), fun t2 ht2 => ?_⟩⟩
      have y1 := x.alloc (o := .lst (wiresV (N.row p))) hl2
      have y2 := y1.alloc (o := .tup [.str (Net.pt N p), .ref l2]) ht2
      have hD2 := up (o := .tup [.str (Net.pt N p), .ref l2]) (up (o := .lst (wiresV (N.row p))) h1 hl2) ht2
      have gD2 := gp (o := .tup [.str (Net.pt N p), .ref l2]) (up (o := .lst (wiresV (N.row p))) h1 hl2) ht2 (gp (o := .lst (wiresV (N.row p))) h1 hl2 h2)
      refine ⟨_, hD2, Nat.lt_of_le_of_lt (m := 14) (by omega) (by decide), _, _, y2.mut (x1.new hD) gD2, sg.trans ((same_new (x.newG hl2)).trans (same_new (y1.newG ht2))), upd_same, gD2, by rw [List.length_append, h3]; rfl, ?_⟩
      rw [List.range_succ]
      have mn : Same G' (upd (upd G' l2 (.lst (wiresV (N.row p)))) t2 (.tup [.str (Net.pt N p), .ref l2])) := (same_new (x.newG hl2)).trans (same_new (y1.newG ht2))
      refine paired_snoc (Paired.mapP h4 fun x p ⟨t, l, e, q1, q2⟩ => ⟨t, l, e, mn _ _ q1, mn _ _ q2⟩) ⟨t2, l2, rfl, upd_same, ?_⟩
      exact up upd_same (y1.newG ht2)
    · rintro H1 ⟨G1, qs, x, sg, h1, h2, h3, h4⟩
      rw [rlen] at h4
      have x2 := x.fin (x1.new hD) h2 h1
      have ng : Same G (upd G1 D (.lst qs)) := x2.g
      refine ⟨_, rfl, a, _, _, _, rfl, rfl, SqT.of (x2.s _ _ (ng _ _ ha)), at_of (j := 2) rfl rfl, wl, _, rfl, .inl (SqL.of (x2.s _ _ (ng _ _ hwl))), fun w2 hw2 => ⟨(by show 3 ≤ sizeLine; decide), fun t4 ht4 => ?_⟩⟩
      have x3 := x2.alloc (o := .lst ws) hw2
      have x4 := x3.alloc (o := .tup [.ref p2, .ref D, .ref w2]) ht4
      have m3 : Same (upd G1 D (.lst qs)) (upd (upd (upd G1 D (.lst qs)) w2 (.lst ws)) t4 (.tup [.ref p2, .ref D, .ref w2])) := (same_new (x2.newG hw2)).trans (same_new (x3.newG ht4))
      have m2 : Same G1 (upd G1 D (.lst qs)) := same_new h2
      have m4 := m2.trans m3
      refine k _ _ _ x4 ⟨t4, p2, D, w2, qs, ws, rfl, upd_same, m4 _ _ (sg _ _ upd_same), m3 _ _ upd_same, up upd_same (x3.newG ht4), Paired.mapP h4 fun x p ⟨t, l, e, q1, q2⟩ => ⟨t, l, e, m4 _ _ q1, m4 _ _ q2⟩,
        Paired.mapP hws fun x p ⟨t, l, e, q1, q2⟩ => ⟨t, l, e, x4.g _ _ q1, x4.g _ _ q2⟩⟩
theorem ok_L_turns (T : Txt K mg) (D : Dfn K mg "_law_turns" s_L_turns ["_law_net"]) : Cal P w K mg base 1 "_law_turns" spLTurns [] := by
  refine cal_by D sc_L_turns (fun vs H Q E h => ?_) (fun f cdv A outer s H vs Q E hr h => ?_)
  · obtain ⟨G, v, N, rfl, _⟩ := h
    rfl
  · obtain ⟨G, v, N, rfl, O, s0, hn, k⟩ := h
    obtain ⟨a, pl, rl, wl, rs, ws, rfl, ha, hpl, hrl, hwl, hrs, hws⟩ := id hn.ex
    have hu := hu_of hr
    have n14 := O.n14
    have pn := O.pn
    have rlen : rs.length = N.R.length := by rw [Paired.length hrs, List.length_range]
    refine ⟨_, (pss_cons (ps_set (i := 3) sc_L_turns.nd rfl (Or.inl rfl) (pe_op op_cat (pe_callTy (call_list_of) (by rfl) T.list (by decide +kernel) (pa_cons (pe_ix ix_tup (pv 0) (pe_int) (fun _ _ => rfl)) pa_nil)) (pe_lc (own := [("_law_point", 1), ("_law_wires", 2)]) (g := gTup K 2 (gCons (gName 1) (gCons (gName 2) (gNil)))) (by rfl) sc_L_turns.nd (pi_list (pe_ix ix_tup (pv 0) (pe_int) (fun _ _ => rfl))) (blkOk_by (N := ["_law_net", "_law_point", "_law_wires", "_law_points", "_law_by_name"]) (sc := defScope s_L_turns) (by decide +kernel)) (fun _ _ _ _ _ => pg_tup (by rfl) (pgs_cons (pg_name (i := 1) sc_L_turns.nd rfl (Or.inl rfl)) (pgs_cons (pg_name (i := 2) sc_L_turns.nd rfl (Or.inl rfl)) pgs_nil))) (fun _ _ _ _ _ => pts_one (pt_cmpR (op_notIn_seqK (K := K) rfl) (pv 1) (pe_ix (ix_tupK (K := K) rfl) (pv 0) (pe_int) (fun _ _ => rfl)) (by rfl))) (fun _ _ _ _ _ => (pv 1)))))
       (pss_cons (ps_set (i := 4) sc_L_turns.nd rfl (Or.inr rfl) pe_dnewK)
       (pss_cons (ps_for PassesOwn.never rfl (pi_list (pe_ix ix_tup (pv 0) (pe_int) (fun _ _ => rfl))) (pg_tup (by rfl) (pgs_cons (pg_name (i := 1) sc_L_turns.nd rfl (Or.inl rfl)) (pgs_cons (pg_name (i := 2) sc_L_turns.nd rfl (Or.inl rfl)) pgs_nil))) (pss_one (ps_dput hu (pv 4) (pv 1) (pe_callTy (call_list_of) (by rfl) T.list (by decide +kernel) (pa_cons (pv 2) pa_nil)) rfl)))
       (pss_one (ps_ret (pe_tup (pa_cons (pv 3) (pa_cons (pe_lc (own := [("_law_point", 1)]) (g := gName 1) (by rfl) sc_L_turns.nd (pi_list (pv 3)) (blkOk_by (N := ["_law_net", "_law_point", "_law_wires", "_law_points", "_law_by_name"]) (sc := defScope s_L_turns) (by decide +kernel)) (fun _ _ _ _ _ => pg_name (i := 1) sc_L_turns.nd rfl (Or.inl rfl)) (fun _ _ _ _ _ => pts_nil) (fun _ _ _ _ _ => (pe_dget hu (pv 4) (pv 1) (fun _ _ => rfl)))) pa_nil)))))))), ?_⟩
    refine ⟨_, rfl, a, _, _, _, rfl, rfl, SqT.of (s0 _ _ ha), at_of (j := 0) rfl rfl, pl, _, rfl, .inl (SqL.of (s0 _ _ hpl)), fun p2 hp2 => ?_⟩
    have x1 := (Ext.refl s0).alloc (o := .lst (postsV N)) hp2
    refine ⟨_, rfl, a, _, _, _, rfl, rfl, SqT.of (x1.s _ _ (x1.g _ _ ha)), at_of (j := 1) rfl rfl, rl, rfl, ⟨_, SqL.of (x1.s _ _ (x1.g _ _ hrl))⟩, fun D hD => lc_list (K := K) (a := rl) (xs := rs)
      (fun i H' => Ext G H (upd G p2 (.lst (postsV N))) H' ∧ H' D = some (.lst ((lateS N (i - N.np)).map V.str)))
      ⟨x1.allocM hD, by rw [Nat.zero_sub]; exact upd_same⟩ (fun i H' _ ⟨x, _⟩ => SqL.of (x.s _ _ (x1.g _ _ hrl))) ?_ ?_⟩
    · rintro i y H' hi ⟨x, h1⟩
      obtain ⟨p, ep, t, lw, rfl, ht, hlw⟩ := paired_at hrs hi
      obtain ⟨hlt, rfl⟩ := range_at ep
      refine ⟨t, _, rfl, SqT.of (x.s _ _ (x1.g _ _ ht)), rfl, _, _, rfl, _, _, rfl, rfl, rfl, ?_⟩
      refine ⟨_, rfl, _, rfl, a, _, _, _, rfl, rfl, SqT.of (x.s _ _ (x1.g _ _ ha)), at_of (j := 0) rfl rfl, pl, _, rfl, .inl (SqL.of (x.s _ _ (x1.g _ _ hpl))), rfl, flat_posts, _, rfl, ?_⟩
      show (if (!inV (V.str (Net.pt N p)) (postsV N)) = true then _ else _)
      rw [in_posts O hlt]
      by_cases q : p < N.np
      · refine ifF (by rw [decide_eq_true q]; rfl) ⟨x, ?_⟩
        rw [show p + 1 - N.np = p - N.np by omega]
        exact h1
      · refine ifT (by rw [decide_eq_false q]; rfl) ?_
        refine ⟨_, rfl, _, h1, Nat.lt_of_le_of_lt (m := 14) ?_ (by decide), x.mut (x1.new hD) (x1.newG hD), ?_⟩
        · unfold lateS
          rw [List.length_map, List.length_map, List.length_range]
          omega
        · rw [upd_same, late_snoc (by omega)]
    · rintro H1 ⟨x, h1⟩
      rw [rlen] at h1
      have hp2' := x.s _ _ (upd_same (H := G) (a := p2) (o := .lst (postsV N)))
      refine ⟨p2, D, _, _, rfl, rfl, hp2', h1, ?_, fun pa hpa => ?_⟩
      · unfold lateS
        rw [posts_len, List.length_map, List.length_map, List.length_range]
        exact Nat.le_trans (m := 14) (by omega) (by decide)
      have ep : postsV N ++ (lateS N (N.R.length - N.np)).map V.str = (ptsS N (List.range N.R.length)).map V.str := by
        rw [posts_pts, ← List.map_append, late_all O]
      rw [ep]
      have x2 := x.alloc (o := .lst ((ptsS N (List.range N.R.length)).map V.str)) hpa
      intro d hd
      have x3 := x2.allocM (o := .dK []) hd
      refine ⟨_, rfl, a, _, _, _, rfl, rfl, SqT.of (x3.s _ _ (x3.g _ _ ha)), at_of (j := 1) rfl rfl, rl, rfl, ⟨_, SqL.of (x3.s _ _ (x3.g _ _ hrl))⟩, for_list (K := K) (a := rl) (xs := rs)
        (fun i σ H' => (∃ v1 v2, σ = [some (.ref a), v1, v2, some (.ref pa), some (.ref d)]) ∧ ∃ G' kvs, Ext G H G' H' ∧ Same (upd (upd G p2 (.lst (postsV N))) pa (.lst ((ptsS N (List.range N.R.length)).map V.str))) G' ∧ H' d = some (.dK kvs) ∧ G' d = none ∧ kvs.length = i ∧ Paired (TurnAt G' N) kvs (List.range i))
        ⟨⟨none, none, rfl⟩, _, [], x3, Same.refl _, upd_same, x2.newG hd, rfl, .nil⟩ (fun i σ H' _ ⟨_, _, _, x, _⟩ => SqL.of (x.s _ _ (x.g _ _ hrl))) ?_ ?_⟩
      · rintro i y σ H' hi ⟨⟨v1, v2, rfl⟩, G', kvs, x, sg, h1, h2, hl, hp⟩
        obtain ⟨p, ep, t, lw, rfl, ht, hlw⟩ := paired_at hrs hi
        obtain ⟨hlt, rfl⟩ := range_at ep
        refine ⟨t, _, rfl, SqT.of (x.s _ _ (x.g _ _ ht)), rfl, _, _, rfl, _, _, rfl, rfl, ?_⟩
        refine ⟨_, rfl, lw, _, rfl, .inl (SqL.of (x.s _ _ (x.g _ _ hlw))), fun l hl' => ?_⟩
        have len : kvs.length < sizeLine := Nat.lt_of_le_of_lt (m := 14) (by omega) (by decide)
        refine ⟨_, rfl, _, rfl, d, _, rfl, DPut.k (k := Sum.inr (Net.pt N p)) (up h1 hl') len, ?_⟩
        refine ⟨⟨_, _, rfl⟩, upd G' l (.lst (wiresV (N.row p))), _, (x.alloc hl').mut (x2.new hd) (gp h1 hl' h2), sg.trans (same_new (x.newG hl')), upd_same, gp h1 hl' h2, ?_, ?_⟩
        · rw [putK_new _ (turns_not O hp hlt), List.length_append, hl]
          rfl
        · rw [putK_new _ (turns_not O hp hlt), List.range_succ]
          exact paired_snoc (Paired.mapP hp fun _ _ q => q.mono (same_new (x.newG hl'))) ⟨rfl, l, rfl, upd_same⟩
      · rintro σ H' ⟨⟨v1, v2, rfl⟩, G', kvs, x, sg, h1, h2, hl, hp⟩
        rw [rlen] at hp
        have gpa := sg _ _ (upd_same (a := pa))
        refine ⟨_, rfl, _, rfl, pa, rfl, ⟨_, SqL.of (x.s _ _ gpa)⟩, fun B hB => lc_list (K := K) (a := pa) (xs := (ptsS N (List.range N.R.length)).map V.str)
          (fun i H2 => ∃ qs, Ext G H G' H2 ∧ H2 d = some (.dK kvs) ∧ H2 B = some (.lst qs) ∧ qs.length = i ∧ Paired (fun x p => ∃ l, x = .ref l ∧ G' l = some (.lst (wiresV (N.row p)))) qs (List.range i))
          ⟨[], x.allocM hB, up h1 hB, upd_same, rfl, .nil⟩ (fun i H2 _ ⟨_, x, _⟩ => SqL.of (x.s _ _ gpa)) ?_ ?_⟩
        · rintro i y H2 hi ⟨qs, z, z1, z2, z3, z4⟩
          have hlt : i < N.R.length := by
            have q := (List.getElem?_eq_some_iff.mp hi).1
            rw [List.length_map, pts_len] at q
            exact q
          have ey : y = .str (Net.pt N i) := by
            unfold ptsS at hi
            rw [List.getElem?_map, List.getElem?_map, List.getElem?_range hlt] at hi
            exact (Option.some.inj hi).symm
          subst ey
          obtain ⟨l, g1, g2⟩ := turns_get O hp hlt
          refine ⟨rfl, tyes (ifT rfl ?_)⟩
          refine ⟨_, rfl, _, rfl, d, _, rfl, .inl ⟨kvs, Sum.inr (Net.pt N i), .inl z1, rfl, g1.symm⟩, qs, z2, Nat.lt_of_le_of_lt (m := 14) (by omega) (by decide), ?_⟩
          have nBd : d ≠ B := ne_of z1 z2 (by intro q; cases q)
          refine ⟨_, z.mut (x.new hB) (x.newG hB), ap nBd z1, upd_same, by rw [List.length_append, z3]; rfl, ?_⟩
          rw [List.range_succ]
          exact paired_snoc z4 ⟨l, rfl, g2⟩
        · rintro H2 ⟨qs, z, z1, z2, z3, z4⟩
          rw [List.length_map, pts_len] at z4
          have z5 := z.fin (x.new hB) (x.newG hB) z2
          refine ⟨(by show 2 ≤ sizeLine; decide), fun t4 ht4 => ?_⟩
          have z6 := z5.alloc (o := .tup [.ref pa, .ref B]) ht4
          have m1 : Same G' (upd (upd G' B (.lst qs)) t4 (.tup [.ref pa, .ref B])) := (same_new (x.newG hB)).trans (same_new (z5.newG ht4))
          refine k _ _ _ z6 ⟨t4, pa, .ref B, rfl, upd_same, m1 _ _ gpa, B, qs, rfl, up upd_same (z5.newG ht4), Paired.mapP z4 fun _ _ ⟨l, e, q⟩ => ⟨l, e, m1 _ _ q⟩⟩
end
end RimW

/-! The law's own defs: _law_regions. -/
namespace RimW
open PySem PySem.Spec PyProof.Rows L2 Rim
open C8 (Cal pe_c pss_cut tCut)

/-- as many lists as there are regions -/
def ManyAt (G : Hp) (v : V) (N : Net) : Prop := ∃ a ys, v = .ref a ∧ G a = some (.lst ys) ∧ ys.length = N.regs.length
abbrev spLRegions : Sp := spNet ManyAt
theorem goOn_len {α : Type} {f : α → α} (acc : List (List α)) (c : α) : (goOn f acc c).length ≤ acc.length + 1 := by
  by_cases h : c ∈ acc.flatten
  · rw [goOn_in h]
    omega
  · rw [goOn_out h, List.length_append, List.length_singleton]
    omega
theorem rounds_len {α : Type} {f : α → α} (l : List α) : (rounds f l).length ≤ l.length := by
  have key : ∀ (l : List α) (acc : List (List α)), (l.foldl (goOn f) acc).length ≤ acc.length + l.length := by
    intro l
    induction l with
    | nil => intro acc; simp
    | cons c l ih =>
      intro acc
      have h1 := ih (goOn f acc c)
      have h2 := goOn_len (f := f) acc c
      rw [List.foldl_cons, List.length_cons]
      omega
  have q := key l []
  simpa [rounds] using q
/-- the corners before corner j of row i -/
def dn (N : Net) (i j : Nat) : List At := N.corsTo i ++ (List.range j).map fun k => (i, k)
section
variable {N : Net}
theorem dn_snoc (i j : Nat) : dn N i (j + 1) = dn N i j ++ [(i, j)] := by
  unfold dn
  rw [List.range_succ, List.map_append, List.append_assoc]
  rfl
theorem dn_next (i : Nat) : dn N i (N.cc i) = dn N (i + 1) 0 := by
  unfold dn
  rw [corsTo_succ]
  simp
theorem dn_start (i : Nat) : dn N i 0 = N.corsTo i := by
  unfold dn
  simp
theorem dn_sub {i j : Nat} (hi : i < N.R.length) (hj : j ≤ N.cc i) : ∀ c, c ∈ dn N i j → c ∈ N.cors := fun c hc => by
  unfold dn at hc
  rcases List.mem_append.mp hc with z | z
  · obtain ⟨h1, h2⟩ := mem_corsTo.mp z
    exact mem_corsTo.mpr ⟨by omega, h2⟩
  · obtain ⟨k, hk, rfl⟩ := List.mem_map.mp z
    have := List.mem_range.mp hk
    exact mem_corsTo.mpr ⟨hi, by show k < N.cc i; omega⟩
theorem dn_len {i j : Nat} (hi : i < N.R.length) (hj : j ≤ N.cc i) : (dn N i j).length ≤ N.cors.length := by
  obtain ⟨d, e⟩ : ∃ d, N.cc i = j + d := ⟨N.cc i - j, by omega⟩
  have l1 : (dn N i j).length ≤ (N.corsTo (i + 1)).length := by
    unfold dn
    rw [corsTo_succ, List.length_append, List.length_append, List.length_map, List.length_map, List.length_range, List.length_range]
    omega
  have l2 : (N.corsTo (i + 1)).length ≤ N.cors.length := (corsTo_nd _).length_le_of_subset fun c hc => by
    obtain ⟨h1, h2⟩ := mem_corsTo.mp hc
    exact mem_corsTo.mpr ⟨by omega, h2⟩
  omega
theorem pts_at {p : Nat} (h : p < N.R.length) : ((ptsS N (List.range N.R.length)).map V.str)[p]? = some (.str (Net.pt N p)) := by
  unfold ptsS
  rw [List.getElem?_map, List.getElem?_map, List.getElem?_range h]
  rfl
theorem pts_first (O : N.Ok) {p : Nat} (h : p < N.R.length) : ∀ (m : Nat) (z : V), m < p → ((ptsS N (List.range N.R.length)).map V.str)[m]? = some z → eqV z (.str (Net.pt N p)) = false := by
  intro m z hm e
  rw [pts_at (by omega)] at e
  cases e
  have ne : Net.pt N m ≠ Net.pt N p := fun q => by
    have := pt_inj O (by omega) (by omega) q
    omega
  simpa [eqV] using ne
theorem cc_le (O : N.Ok) (p : Nat) : N.cc p ≤ 31 := by
  have := row_len O p
  unfold Net.cc
  split <;> omega
theorem cc_int (O : N.Ok) {p : Nat} (hp : p < N.R.length) : (((wiresV (N.row p)).length : Nat) : Int) + (if decide ((p : Int) < ((N.np : Nat) : Int)) = true then 1 else 0) = ((N.cc p : Nat) : Int) := by
  rw [wires_len]
  unfold Net.cc
  by_cases h : p < N.np
  · rw [decide_eq_true (by omega), if_pos rfl, if_pos h]
    rfl
  · rw [decide_eq_false (by omega), if_neg Bool.false_ne_true, if_neg h]
    rfl
end

abbrev s_L_regions : Stmt := top 36
theorem sc_L_regions : FnScope ["_law_net", "_law_points", "_law_turns_here", "_law_posts", "_law_mates_here", "_law_seen", "_law_found", "_law_point", "_law_wires", "_law_p", "_law_k", "_law_region_here", "_law_corner", "_law_q", "_law_j"] ["_law_net"] (defScope s_L_regions) := ⟨rfl, rfl, rfl, by decide +kernel, rfl, by decide +kernel, by decide +kernel⟩
section
variable {P : Program} {w : World} {K : PySem.W.Frag} {mg : Str → Option Value} {base : Heap}
theorem ok_L_regions (T : Txt K mg) (D : Dfn K mg "_law_regions" s_L_regions ["_law_net"]) (C_law_turns : Cal P w K mg base 1 "_law_turns" spLTurns []) (C_law_mates : Cal P w K mg base 1 "_law_mates" spLMates [])
    (C_law_region : Cal P w K mg base 2 "_law_region" spLRegion []) : Cal P w K mg base 3 "_law_regions" spLRegions [] := by
  refine cal_by D sc_L_regions (fun vs H Q E h => ?_) (fun f cdv A outer s H vs Q E hr h => ?_)
  · obtain ⟨G, v, N, rfl, _⟩ := h
    rfl
  · obtain ⟨G, v, N, rfl, O, s0, hn, k⟩ := h
    obtain ⟨a, pl, rl, wl, rs, ws, rfl, ha, hpl, hrl, hwl, hrs, hws⟩ := id hn.ex
    have hu := hu_of hr
    have ko : KpOk byNum N := byNum_ok
    have pm := nx_perms O
    have n34 := cors_len O
    have rlen : rs.length = N.R.length := by rw [Paired.length hrs, List.length_range]
    refine ⟨_, (pss_cons (ps_asg (pe_c C_law_turns hr (by decide) rfl (pa_cons (pv 0) pa_nil)) (pg_tup (by rfl) (pgs_cons (pg_name (i := 1) sc_L_regions.nd rfl (Or.inr rfl)) (pgs_cons (pg_name (i := 2) sc_L_regions.nd rfl (Or.inl rfl)) pgs_nil))))
       (pss_cons (ps_set (i := 3) sc_L_regions.nd rfl (Or.inl rfl) (pe_callB call_len_seq (by rfl) T.len PySem.boot_len (pa_cons (pe_ix ix_tup (pv 0) (pe_int) (fun _ _ => rfl)) pa_nil)))
       (pss_cons (ps_set (i := 4) sc_L_regions.nd rfl (Or.inl rfl) (pe_c C_law_mates hr (by decide) rfl (pa_cons (pv 2) pa_nil)))
       (pss_cons (ps_set (i := 5) sc_L_regions.nd rfl (Or.inl rfl) pe_dnewT)
       (pss_cons (ps_set (i := 6) sc_L_regions.nd rfl (Or.inl rfl) (pe_lst pa_nil))
       (pss_cons (ps_for PassesOwn.never rfl (pi_list (pe_ix ix_tup (pv 0) (pe_int) (fun _ _ => rfl))) (pg_tup (by rfl) (pgs_cons (pg_name (i := 7) sc_L_regions.nd rfl (Or.inl rfl)) (pgs_cons (pg_name (i := 8) sc_L_regions.nd rfl (Or.inl rfl)) pgs_nil))) (pss_cons (ps_set (i := 9) sc_L_regions.nd rfl (Or.inl rfl) (pe_bm PySem.F.plainAttrs_list PySem.F.slot_list_index PySem.F.type_list_index mt_index (pv 1) (pa_cons (pv 7) pa_nil)))
       (pss_one (ps_for PassesOwn.never rfl (pi_range1 (by rfl) T.range (pa_cons (pe_op op_add (pe_callB call_len_seq (by rfl) T.len PySem.boot_len (pa_cons (pv 8) pa_nil)) (pe_callTy call_int1 (by rfl) T.int (by decide +kernel) (pa_cons (pe_cmpR op_lt (pv 9) (pv 3) (nomark _)) pa_nil))) pa_nil)) (pg_name (i := 10) sc_L_regions.nd rfl (Or.inl rfl)) (pss_one (ps_if (pt_cmp (pc_dnotin hu (pe_tup (pa_cons (pv 9) (pa_cons (pv 10) pa_nil))) (pv 5)) rfl) (pss_cons (ps_set (i := 11) sc_L_regions.nd rfl (Or.inl rfl) (pe_c C_law_region hr (by decide) rfl (pa_cons (pv 2) (pa_cons (pv 3) (pa_cons (pv 4) (pa_cons (pe_tup (pa_cons (pv 9) (pa_cons (pv 10) pa_nil))) pa_nil))))))
       (pss_cons (ps_for PassesOwn.never rfl (pi_list (pv 11)) (pg_name (i := 12) sc_L_regions.nd rfl (Or.inl rfl)) (pss_one (ps_dput hu (pv 5) (pv 12) (pe_bl) rfl)))
       (pss_one (ps_expr (pe_bm PySem.F.plainAttrs_list PySem.F.slot_list_append PySem.F.type_list_append mt_append (pv 6) (pa_cons (pe_lc (own := [("_law_q", 13), ("_law_j", 14)]) (g := gTup K 2 (gCons (gName 13) (gCons (gName 14) (gNil)))) (by rfl) sc_L_regions.nd (pi_list (pv 11)) (blkOk_by (N := ["_law_net", "_law_points", "_law_turns_here", "_law_posts", "_law_mates_here", "_law_seen", "_law_found", "_law_point", "_law_wires", "_law_p", "_law_k", "_law_region_here", "_law_corner", "_law_q", "_law_j"]) (sc := defScope s_L_regions) (by decide +kernel)) (fun _ _ _ _ _ => pg_tup (by rfl) (pgs_cons (pg_name (i := 13) sc_L_regions.nd rfl (Or.inl rfl)) (pgs_cons (pg_name (i := 14) sc_L_regions.nd rfl (Or.inl rfl)) pgs_nil))) (fun _ _ _ _ _ => pts_nil) (fun _ _ _ _ _ => (pe_tup (pa_cons (pe_ix (ix_listK (K := K) rfl) (pv 1) (pv 13) (fun _ _ => rfl)) (pa_cons (pv 14) pa_nil))))) pa_nil)))))) pss_nil))))))
       (pss_one (ps_ret (pv 6))))))))), ?_⟩
    -- points, turns
    refine ⟨_, rfl, G, _, N, rfl, O, s0, hn, ?_⟩
    rintro G1 H1 _ x1 ⟨t, pa, tv, rfl, ht, hpa, htv⟩
    refine ⟨t, _, rfl, SqT.of (x1.s _ _ ht), rfl, _, _, rfl, _, _, rfl, rfl, ?_⟩
    -- how many posts
    refine ⟨_, rfl, a, _, _, _, rfl, rfl, SqT.of (x1.s _ _ (x1.g _ _ ha)), at_of (j := 0) rfl rfl, pl, _, rfl, .inl (SqL.of (x1.s _ _ (x1.g _ _ hpl))), ?_⟩
    rw [posts_len]
    -- mates
    refine ⟨_, rfl, G1, _, N, rfl, O, x1.s, htv, fun G2 H2 mv x2 hm => ?_⟩
    intro sa hsa
    refine ⟨Nat.zero_le _, fun fa hfa => ?_⟩
    have x12 := x1.trans x2
    have x3 := (x12.allocM (o := .dT []) hsa).allocM (o := .lst []) hfa
    have nsf : sa ≠ fa := fun z => by
      rw [← z, upd_same] at hfa
      cases hfa
    have hfa2 : H2 fa = none := by
      rw [upd_ne nsf.symm] at hfa
      exact hfa
    have sa0 : H sa = none := x12.new hsa
    have fa0 : H fa = none := x12.new hfa2
    have htv2 := htv.mono x2.g
    have hpa2 := x2.g _ _ hpa
    let St : Nat → Nat → Hp → Prop := fun i j H' => ∃ G' skv ys, Ext G H G' H' ∧ Same G2 G' ∧ H' sa = some (.dT skv) ∧ G' sa = none ∧ H' fa = some (.lst ys) ∧ G' fa = none ∧ SeenRel byNum N skv (rounds N.nx (dn N i j)).flatten ∧ ys.length = (rounds N.nx (dn N i j)).length
    refine ⟨_, rfl, a, _, _, _, rfl, rfl, SqT.of (x3.s _ _ (x12.g _ _ ha)), at_of (j := 1) rfl rfl, rl, rfl, ⟨_, SqL.of (x3.s _ _ (x12.g _ _ hrl))⟩, for_list (K := K) (a := rl) (xs := rs)
      (fun i σ H' => (∃ v7 v8 v9 v10 v11 v12 v13 v14, σ = [some (.ref a), some (.ref pa), some tv, some (.int (N.np : Nat)), some mv, some (.ref sa), some (.ref fa), v7, v8, v9, v10, v11, v12, v13, v14]) ∧ St i 0 H')
      ⟨⟨none, none, none, none, none, none, none, none, rfl⟩, G2, [], [], x3, Same.refl _, up upd_same hfa, x12.newG hsa, upd_same, x12.newG hfa2, by rw [dn_start]; exact seen_start, by rw [dn_start]; rfl⟩
      (fun i σ H' _ ⟨_, _, _, _, x, sg, _⟩ => SqL.of (x.s _ _ (sg _ _ (x12.g _ _ hrl)))) ?_ ?_⟩
    · rintro i y σ H' hi ⟨⟨v7, v8, v9, v10, v11, v12, v13, v14, rfl⟩, G', skv, ys, x, sg, h1, h2, h3, h4, h5, h6⟩
      obtain ⟨p, ep, t', lw, rfl, ht', hlw⟩ := paired_at hrs hi
      obtain ⟨hlt, rfl⟩ := range_at ep
      have ccl := cc_le O p
      refine ⟨t', _, rfl, SqT.of (x.s _ _ (sg _ _ (x12.g _ _ ht'))), rfl, _, _, rfl, _, _, rfl, rfl, ?_⟩
      refine ⟨_, rfl, .inl ⟨rfl, _, SqL.of (x.s _ _ (sg _ _ hpa2))⟩, _, rfl, pa, _, _, p, .str (Net.pt N p), rfl, rfl, SqL.of (x.s _ _ (sg _ _ hpa2)), rfl, flat_texts _, pts_at hlt, eqV_self _, pts_first O hlt, ?_⟩
      refine ⟨_, rfl, lw, _, rfl, .inl (SqL.of (x.s _ _ (sg _ _ (x12.g _ _ hlw)))), _, rfl, _, rfl, _, _, rfl, rfl, .inr ⟨_, rfl, ?_⟩⟩
      refine ⟨_, _, rfl, rfl, ?_⟩
      refine ⟨(N.cc p : Nat), congrArg (fun z => [V.int z]) (cc_int O hlt), by omega, by omega, for_range (lo := 0) (n := N.cc p)
        (fun j σ H' => (∃ v10 v11 v12 v13 v14, σ = [some (.ref a), some (.ref pa), some tv, some (.int (N.np : Nat)), some mv, some (.ref sa), some (.ref fa), some (.str (Net.pt N p)), some (.ref lw), some (.int (p : Nat)), v10, v11, v12, v13, v14]) ∧ St p j H')
        ⟨⟨_, _, _, _, _, rfl⟩, G', skv, ys, x, sg, h1, h2, h3, h4, h5, h6⟩ ?_ ?_⟩
      · rintro j σ H' hj ⟨⟨v10, v11, v12, v13, v14, rfl⟩, G', skv, ys, x, sg, h1, h2, h3, h4, h5, h6⟩
        rw [Int.zero_add]
        have hc : N.Cor (p, j) := ⟨hlt, hj⟩
        have hcin := mem_cors.mpr hc
        have sub : ∀ d, d ∈ dn N p j → d ∈ N.cors := dn_sub hlt (Nat.le_of_lt hj)
        have dl : (dn N p j).length ≤ 34 := Nat.le_trans (dn_len hlt (Nat.le_of_lt hj)) n34
        refine ⟨_, rfl, _, rfl, (by show 2 ≤ sizeLine; decide), fun t2 ht2 => ⟨_, rfl, sa, _, rfl, .inr ⟨skv, ckey byNum (p, j), t2, .inl (up h1 ht2), rfl, upd_same, rfl⟩, _, rfl, ?_⟩⟩
        rw [h5.1 _ hc]
        have y0 := x.alloc (o := .tup [.int (p : Nat), .int (j : Nat)]) ht2
        have m0 : Same G' (upd G' t2 (.tup [.int (p : Nat), .int (j : Nat)])) := same_new (x.newG ht2)
        by_cases hs : (p, j) ∈ (rounds N.nx (dn N p j)).flatten
        · refine ifF (by rw [decide_eq_true hs]; rfl) ?_
          refine ⟨⟨_, _, _, _, _, rfl⟩, _, skv, ys, y0, sg.trans m0, up h1 ht2, gp h1 ht2 h2, up h3 ht2, gp h3 ht2 h4, ?_, ?_⟩
          · rw [dn_snoc, rounds_snoc, goOn_in hs]
            exact h5
          · rw [dn_snoc, rounds_snoc, goOn_in hs]
            exact h6
        · refine ifT (by rw [decide_eq_false hs]; rfl) ?_
          obtain ⟨m, ml, cyc⟩ := pm.cyc hcin
          have er : rounds N.nx (dn N p (j + 1)) = rounds N.nx (dn N p j) ++ [round N.nx (p, j)] := by
            rw [dn_snoc, rounds_snoc, goOn_out hs]
          have sg1 := sg.trans m0
          refine ⟨_, rfl, _, rfl, _, rfl, _, rfl, _, rfl, (by show 2 ≤ sizeLine; decide), fun t3 ht3 => ?_⟩
          have y1 := y0.alloc (o := .tup [.int (p : Nat), .int (j : Nat)]) ht3
          have sg2 := sg1.trans (same_new (o := .tup [.int (p : Nat), .int (j : Nat)]) (y0.newG ht3))
          have a1 := up (o := .tup [.int (p : Nat), .int (j : Nat)]) (up (o := .tup [.int (p : Nat), .int (j : Nat)]) h1 ht2) ht3
          have a3 := up (o := .tup [.int (p : Nat), .int (j : Nat)]) (up (o := .tup [.int (p : Nat), .int (j : Nat)]) h3 ht2) ht3
          have a2 := gp (o := .tup [.int (p : Nat), .int (j : Nat)]) (up (o := .tup [.int (p : Nat), .int (j : Nat)]) h1 ht2) ht3 (gp (o := .tup [.int (p : Nat), .int (j : Nat)]) h1 ht2 h2)
          have a4 := gp (o := .tup [.int (p : Nat), .int (j : Nat)]) (up (o := .tup [.int (p : Nat), .int (j : Nat)]) h3 ht2) ht3 (gp (o := .tup [.int (p : Nat), .int (j : Nat)]) h3 ht2 h4)
          refine ⟨_, tv, mv, .ref t3, N, (p, j), rfl, O, y1.s, htv2.mono sg2, hm.mono sg2, ⟨t3, rfl, upd_same⟩, hc, ?_⟩
          rintro G4 H4 _ y2 ⟨ra, rx, rfl, hra, hrx⟩
          have os := y2.own a1 a2
          have of := y2.own a3 a4
          have y3 := y1.trans y2
          have sg4 := sg2.trans y2.g
          have rin : ∀ e, e ∈ round N.nx (p, j) → N.Cor e := fun e he => by
            rw [round_eq cyc] at he
            obtain ⟨n, _, rfl⟩ := mem_trip.mp he
            exact mem_cors.mp (pm.it_in hcin n)
          have rl34 : (round N.nx (p, j)).length ≤ 34 := by
            rw [round_eq cyc, trip_len]
            omega
          refine ⟨_, rfl, ra, rfl, ⟨_, SqL.of (y3.s _ _ hra)⟩, for_list (K := K) (a := ra) (xs := rx) (fun n σ H' => (∃ v12 v13 v14, σ = [some (.ref a), some (.ref pa), some tv, some (.int (N.np : Nat)), some mv, some (.ref sa), some (.ref fa), some (.str (Net.pt N p)), some (.ref lw), some (.int (p : Nat)), some (.int (j : Nat)), some (.ref ra), v12, v13, v14]) ∧ ∃ skv, Ext G H G4 H' ∧
              H' sa = some (.dT skv) ∧ H' fa = some (.lst ys) ∧ SeenRel byNum N skv ((rounds N.nx (dn N p j)).flatten ++ (round N.nx (p, j)).take n))
            ⟨⟨_, _, _, rfl⟩, skv, y3, os.1, of.1, by rw [List.take_zero, List.append_nil]; exact h5⟩ (fun j σ H' _ ⟨_, _, z, _⟩ => SqL.of (z.s _ _ hra)) ?_ ?_⟩
          · rintro n o σ H' hn' ⟨⟨v12, v13, v14, rfl⟩, skv, z1, z2, z3, z4⟩
            obtain ⟨e, ee, to, rfl, hto⟩ := paired_at hrx hn'
            have hec := rin e (List.mem_of_getElem? ee)
            have few : ((rounds N.nx (dn N p j)).flatten ++ (round N.nx (p, j)).take n).length ≤ 100 := by
              rw [List.length_append, List.length_take]
              have q1 := (rounds_nd pm sub).length_le_of_subset (l₂ := N.cors) fun d hd => rounds_sub pm sub d hd
              omega
            have sl : skv.length < sizeLine := Nat.lt_of_le_of_lt (m := 100) (Nat.le_trans z4.2 few) (by decide)
            refine ⟨_, rfl, _, rfl, sa, _, rfl, DPut.t (k := ckey byNum e) z2 (z1.s _ _ hto) sl, ?_⟩
            refine ⟨⟨_, _, _, rfl⟩, _, z1.mut sa0 os.2, upd_same, ap nsf.symm z3, ?_⟩
            rw [take_snoc ee, ← List.append_assoc]
            exact z4.put ko hec _
          · rintro σ H' ⟨⟨v12, v13, v14, rfl⟩, skv, z1, z2, z3, z4⟩
            rw [Paired.length hrx, List.take_length] at z4
            have yl : ys.length < sizeLine := by
              have := rounds_len (f := N.nx) (dn N p j)
              exact Nat.lt_of_le_of_lt (m := 34) (by omega) (by decide)
            refine ⟨_, rfl, .inl ⟨rfl, _, SqL.of z3⟩, ?_⟩
            refine ⟨_, rfl, ra, rfl, ⟨_, SqL.of (z1.s _ _ hra)⟩, fun D hD => lc_list (K := K) (a := ra) (xs := rx)
              (fun n H' => ∃ G5 acc, Ext G H G5 H' ∧ Same G4 G5 ∧ H' sa = some (.dT skv) ∧ G5 sa = none ∧ H' fa = some (.lst ys) ∧ G5 fa = none ∧ H' D = some (.lst acc) ∧ G5 D = none ∧ acc.length = n)
              ⟨G4, [], z1.allocM hD, Same.refl _, up z2 hD, os.2, up z3 hD, of.2, upd_same, z1.newG hD, rfl⟩ (fun n H' _ ⟨_, _, z, zs, _⟩ => SqL.of (z.s _ _ (zs _ _ hra))) ?_ ?_⟩
            · rintro n o H5 hn' ⟨G5, acc, b, bs, b1, b2, b3, b4, b5, b6, b7⟩
              obtain ⟨e, ee, to, rfl, hto⟩ := paired_at hrx hn'
              have hec := rin e (List.mem_of_getElem? ee)
              have nl : n < rx.length := (List.getElem?_eq_some_iff.mp hn').1
              have nl2 : rx.length = (round N.nx (p, j)).length := Paired.length hrx
              refine ⟨to, _, rfl, SqT.of (b.s _ _ (bs _ _ hto)), rfl, _, _, rfl, _, _, rfl, rfl, rfl, tyes (ifT rfl ?_)⟩
              refine ⟨_, rfl, _, rfl, pa, _, _, _, rfl, rfl, SqL.of (b.s _ _ (bs _ _ (sg4 _ _ hpa2))), at_of (j := e.1) rfl (pts_at hec.1), _, rfl, (by show 2 ≤ sizeLine; decide), fun t5 ht5 => ⟨acc, up b5 ht5, Nat.lt_of_le_of_lt (m := 34) (by omega) (by decide), ?_⟩⟩
              have nsD : sa ≠ D := ne_of_none z2 hD
              have nfD : fa ≠ D := ne_of_none z3 hD
              refine ⟨_, _, (b.alloc ht5).mut (z1.new hD) (gp b5 ht5 b6), bs.trans (same_new (b.newG ht5)), ap nsD (up b1 ht5), gp b1 ht5 b2, ap nfD (up b3 ht5), gp b3 ht5 b4, upd_same, gp b5 ht5 b6, ?_⟩
              rw [List.length_append, b7]
              rfl
            · rintro H5 ⟨G5, acc, b, bs, b1, b2, b3, b4, b5, b6, b7⟩
              refine ⟨fa, _, _, rfl, rfl, b3, yl, ?_⟩
              refine ⟨⟨_, _, _, _, _, rfl⟩, G5, skv, _, b.mut fa0 b4, sg4.trans bs, ap nsf b1, b2, upd_same, b4, ?_, ?_⟩
              · rw [er, flat_snoc]
                exact z4
              · rw [er, List.length_append, List.length_append, h6]
                rfl
      · rintro σ H' ⟨⟨v10, v11, v12, v13, v14, rfl⟩, q⟩
        refine ⟨⟨_, _, _, _, _, _, _, _, rfl⟩, ?_⟩
        show St (p + 1) 0 H'
        simp only [St] at q ⊢
        rw [← dn_next]
        exact q
    · rintro σ H' ⟨⟨v7, v8, v9, v10, v11, v12, v13, v14, rfl⟩, G', skv, ys, x, sg, h1, h2, h3, h4, h5, h6⟩
      rw [rlen, dn_start] at h6
      exact ⟨_, rfl, k _ _ _ (x.fin fa0 h4 h3) ⟨fa, ys, rfl, upd_same, h6⟩⟩
end
end RimW

/-! The law's own defs: _law_hang, _law_due. -/
namespace RimW
open PySem PySem.Spec PyProof.Rows L2 Rim
open C8 (Cal pe_c pss_cut tCut)

open Classical in
noncomputable def tiedB (N : Net) : Bool := decide N.Tied
open Classical in
noncomputable def flatB (N : Net) : Bool := decide N.Flat
open Classical in
theorem flat_yes {N : Net} (h : N.Flat) : flatB N = true := by
  unfold flatB
  exact decide_eq_true h
open Classical in
theorem flat_no {N : Net} (h : ¬ N.Flat) : flatB N = false := by
  unfold flatB
  exact decide_eq_false h
open Classical in
theorem tied_yes {N : Net} (h : N.Tied) : tiedB N = true := by
  unfold tiedB
  exact decide_eq_true h
open Classical in
theorem tied_no {N : Net} (h : ¬ N.Tied) : tiedB N = false := by
  unfold tiedB
  exact decide_eq_false h
/-- what the net is due -/
noncomputable def dueS (N : Net) : Str := if tiedB N = true then (if flatB N = true then "good" else "NoPlane") else "Loose"
abbrev spLHang : Sp := spNet fun _ v N => v = .bl (tiedB N)
abbrev spLDue : Sp := spNet fun _ v N => v = .str (dueS N)

/-- rows gone through, up to place i of those found; L those found -/
structure Hung (N : Net) (L : List Nat) (i : Nat) : Prop where
  nd : L.Nodup
  to : ∀ p, p ∈ L → Hang N p
  posts : ∀ p, p < N.np → p ∈ L
  clo : ∀ (m : Nat) (c : At), m < i → L[m]? = some c.1 → N.End c → (N.mate c).1 ∈ L
/-- .. and of row p those rows before q -/
structure HungAt (N : Net) (L : List Nat) (i p q : Nat) : Prop where
  base : Hung N L i
  at_ : L[i]? = some p
  seen : ∀ r, r < q → N.Share p r → r ∈ L
section
variable {N : Net} {L : List Nat} {i p q : Nat}
theorem hung_start : Hung N (List.range N.np) 0 :=
  ⟨List.nodup_range, fun p h => .post (List.mem_range.mp h), fun p h => List.mem_range.mpr h, fun m c h => absurd h (Nat.not_lt_zero _)⟩
theorem Hung.done (h : Hung N L L.length) : Hangs N L := hangs_of h.nd h.to h.posts fun c hc he => by
  obtain ⟨m, hm⟩ := List.mem_iff_getElem?.mp hc
  exact h.clo m c (List.getElem?_eq_some_iff.mp hm).1 hm he
theorem HungAt.next (O : N.Ok) (h : HungAt N L i p N.R.length) : Hung N L (i + 1) := by
  refine ⟨h.base.nd, h.base.to, h.base.posts, fun m c hm hc he => ?_⟩
  by_cases e : m < i
  · exact h.base.clo m c e hc he
  · obtain rfl : m = i := by omega
    have ep : p = c.1 := Option.some.inj (h.at_.symm.trans hc)
    refine h.seen _ (End.lt (mate_end O he)) ?_
    rw [ep]
    exact mate_share O he
theorem HungAt.skip (h : HungAt N L i p q) (no : q ∈ L ∨ ¬ N.Share p q) : HungAt N L i p (q + 1) := by
  refine ⟨h.base, h.at_, fun r hr hs => ?_⟩
  by_cases e : r = q
  · subst e
    exact no.resolve_right fun z => z hs
  · exact h.seen r (by omega) hs
theorem HungAt.more (O : N.Ok) (h : HungAt N L i p q) (no : ¬ q ∈ L) (hs : N.Share p q) : HungAt N (L ++ [q]) i p (q + 1) := by
  have il : i < L.length := (List.getElem?_eq_some_iff.mp h.at_).1
  have hp : p ∈ L := List.mem_of_getElem? h.at_
  refine ⟨⟨?_, fun r hr => ?_, fun r hr => List.mem_append_left _ (h.base.posts r hr), fun m c hm hc he => ?_⟩, ?_, fun r hr hs' => ?_⟩
  · refine List.nodup_append.mpr ⟨h.base.nd, by simp, ?_⟩
    rintro a ha b hb rfl
    rw [List.mem_singleton.mp hb] at ha
    exact no ha
  · rcases List.mem_append.mp hr with z | z
    · exact h.base.to r z
    · rw [List.mem_singleton.mp z]
      have ne : p ≠ q := fun e => no (e ▸ hp)
      obtain ⟨c, e1, e2, e3⟩ := share_mate O ne hs
      rw [← e3]
      exact .next (c := c) (by rw [e1]; exact h.base.to p hp) e2
  · rw [List.getElem?_append_left (by omega)] at hc
    exact List.mem_append_left _ (h.base.clo m c hm hc he)
  · rw [List.getElem?_append_left il]
    exact h.at_
  · by_cases e : r = q
    · rw [e]
      simp
    · exact List.mem_append_left _ (h.seen r (by omega) hs')
theorem Hung.len (O : N.Ok) (h : Hung N L i) : L.length ≤ N.R.length := by
  have q := h.nd.length_le_of_subset (l₂ := List.range N.R.length) fun z hz => List.mem_range.mpr (Hang.lt O (h.to z hz))
  rw [List.length_range] at q
  exact q
/-- the wires of row q, up to k, that row p has too -/
def shr (N : Net) (p q k : Nat) : List Nat := ((N.row q).take k).filter fun w => decide (w ∈ N.row p)
theorem shr_snoc {k w : Nat} (h : (N.row q)[k]? = some w) : shr N p q (k + 1) = if w ∈ N.row p then shr N p q k ++ [w] else shr N p q k := by
  unfold shr
  rw [take_snoc h, List.filter_append]
  by_cases z : w ∈ N.row p
  · rw [if_pos z]
    simp [z]
  · rw [if_neg z]
    simp [z]
theorem shr_len (k : Nat) : (shr N p q k).length ≤ (N.row q).length := by
  unfold shr
  refine Nat.le_trans (List.length_filter_le _ _) ?_
  rw [List.length_take]
  omega
theorem shr_all : (shr N p q (N.row q).length).isEmpty = false ↔ N.Share p q := by
  unfold shr Net.Share
  rw [List.take_length]
  constructor
  · intro h
    cases e : (N.row q).filter fun w => decide (w ∈ N.row p) with
    | nil =>
      rw [e] at h
      cases h
    | cons w l =>
      have m : w ∈ (N.row q).filter fun w => decide (w ∈ N.row p) := by rw [e]; exact List.mem_cons_self
      obtain ⟨m1, m2⟩ := List.mem_filter.mp m
      exact ⟨w, of_decide_eq_true m2, m1⟩
  · rintro ⟨w, h1, h2⟩
    have m : w ∈ (N.row q).filter fun w => decide (w ∈ N.row p) := List.mem_filter.mpr ⟨h2, decide_eq_true h1⟩
    cases e : (N.row q).filter fun w => decide (w ∈ N.row p) with
    | nil =>
      rw [e] at m
      exact absurd m (by simp)
    | cons w l => rfl
theorem row_wire_lt (O : N.Ok) {p w : Nat} (h : w ∈ N.row p) : w < 15 := by
  obtain ⟨k, hk⟩ := List.mem_iff_getElem?.mp h
  have := wire_lt O (c := (p, k)) hk
  have := O.m15
  omega
theorem wires_in (O : N.Ok) {p q w : Nat} (h : w ∈ N.row q) : inV (.str (wn w)) (wiresV (N.row p)) = decide (w ∈ N.row p) := by
  have e : wiresV (N.row p) = ((N.row p).map wn).map V.str := by
    unfold wiresV
    rw [List.map_map]
    rfl
  rw [e, in_texts, decide_eq_decide]
  constructor
  · intro m
    obtain ⟨v, hv, ev⟩ := List.mem_map.mp m
    rw [← wn_inj (row_wire_lt O hv) (row_wire_lt O h) ev]
    exact hv
  · exact fun m => List.mem_map.mpr ⟨w, m, rfl⟩
theorem flat_wires {r : List Nat} : (wiresV r).all flatV = true := by
  unfold wiresV
  rw [List.all_map]
  exact List.all_eq_true.mpr fun _ _ => rfl
theorem pts_in (O : N.Ok) {L : List Nat} (hL : ∀ p, p ∈ L → p < N.R.length) {q : Nat} (hq : q < N.R.length) : inV (.str (Net.pt N q)) ((ptsS N L).map V.str) = decide (q ∈ L) := by
  rw [in_texts, decide_eq_decide]
  unfold ptsS
  constructor
  · intro m
    obtain ⟨v, hv, ev⟩ := List.mem_map.mp m
    rw [← pt_inj O (hL v hv) hq ev]
    exact hv
  · exact fun m => List.mem_map.mpr ⟨q, m, rfl⟩
theorem tied_int (O : N.Ok) {L : List Nat} (h : Hangs N L) : decide (((L.length : Nat) : Int) = ((N.R.length : Nat) : Int)) = tiedB N := by
  unfold tiedB Net.Tied
  rw [decide_eq_decide, hung_of O h]
  omega
end

abbrev s_L_hang : Stmt := top 38
theorem sc_L_hang : FnScope ["_law_net", "_law_hanging", "_law_at", "_law_one", "_law_wires", "_law_mine", "_law_wire"] ["_law_net"] (defScope s_L_hang) := ⟨rfl, rfl, rfl, by decide +kernel, rfl, by decide +kernel, by decide +kernel⟩
abbrev s_L_due : Stmt := top 39
theorem sc_L_due : FnScope ["_law_net"] ["_law_net"] (defScope s_L_due) := ⟨rfl, rfl, rfl, by decide +kernel, rfl, by decide +kernel, by decide +kernel⟩
section
variable {P : Program} {w : World} {K : PySem.W.Frag} {mg : Str → Option Value} {base : Heap}
theorem ok_L_hang (T : Txt K mg) (D : Dfn K mg "_law_hang" s_L_hang ["_law_net"]) : Cal P w K mg base 1 "_law_hang" spLHang [] := by
  refine cal_by D sc_L_hang (fun vs H Q E h => ?_) (fun f cdv A outer s H vs Q E hr h => ?_)
  · obtain ⟨G, v, N, rfl, _⟩ := h
    rfl
  · obtain ⟨G, v, N, rfl, O, s0, hn, k⟩ := h
    obtain ⟨a, pl, rl, wl, rs, ws, rfl, ha, hpl, hrl, hwl, hrs, hws⟩ := id hn.ex
    have hu := hu_of hr
    have n14 := O.n14
    have rlen : rs.length = N.R.length := by rw [Paired.length hrs, List.length_range]
    refine ⟨_, (pss_cons (ps_set (i := 1) sc_L_hang.nd rfl (Or.inr rfl) (pe_callTy (call_list_of) (by rfl) T.list (by decide +kernel) (pa_cons (pe_ix ix_tup (pv 0) (pe_int) (fun _ _ => rfl)) pa_nil)))
       (pss_cons (ps_set (i := 2) sc_L_hang.nd rfl (Or.inr rfl) (pe_int))
       (pss_cons (ps_while PassesOwn.never (pt_cmpR op_lt (pv 2) (pe_callB call_len_seq (by rfl) T.len PySem.boot_len (pa_cons (pv 1) pa_nil)) (nomark _)) (pss_cons (ps_set (i := 5) sc_L_hang.nd rfl (Or.inr rfl) (pe_ix ix_list (pe_lc (own := [("_law_one", 3), ("_law_wires", 4)]) (g := gTup K 2 (gCons (gName 3) (gCons (gName 4) (gNil)))) (by rfl) sc_L_hang.nd (pi_list (pe_ix ix_tup (pv 0) (pe_int) (fun _ _ => rfl))) (blkOk_by (N := ["_law_net", "_law_hanging", "_law_at", "_law_one", "_law_wires", "_law_mine", "_law_wire"]) (sc := defScope s_L_hang) (by decide +kernel)) (fun _ _ _ _ _ => pg_tup (by rfl) (pgs_cons (pg_name (i := 3) sc_L_hang.nd rfl (Or.inl rfl)) (pgs_cons (pg_name (i := 4) sc_L_hang.nd rfl (Or.inl rfl)) pgs_nil))) (fun _ _ _ _ _ => pts_one (pt_cmpR op_eq (pv 3) (pe_ix (ix_listK (K := K) rfl) (pv 1) (pv 2) (fun _ _ => rfl)) (nomark _))) (fun _ _ _ _ _ => (pv 4))) (pe_int) (fun _ _ => rfl)))
       (pss_cons (ps_for PassesOwn.never rfl (pi_list (pe_ix ix_tup (pv 0) (pe_int) (fun _ _ => rfl))) (pg_tup (by rfl) (pgs_cons (pg_name (i := 3) sc_L_hang.nd rfl (Or.inl rfl)) (pgs_cons (pg_name (i := 4) sc_L_hang.nd rfl (Or.inl rfl)) pgs_nil))) (pss_one (ps_if (PW.pt (pw_and (pt_cmpR op_notIn_seq (pv 3) (pv 1) (by rfl)) (pw_and1 (pt_cmpR (op_neD hr.units) (pe_lc (own := [("_law_wire", 6)]) (g := gName 6) (by rfl) sc_L_hang.nd (pi_list (pv 4)) (blkOk_by (N := ["_law_net", "_law_hanging", "_law_at", "_law_one", "_law_wires", "_law_mine", "_law_wire"]) (sc := defScope s_L_hang) (by decide +kernel)) (fun _ _ _ _ _ => pg_name (i := 6) sc_L_hang.nd rfl (Or.inl rfl)) (fun _ _ _ _ _ => pts_one (pt_cmpR (op_in_seqK (K := K) rfl) (pv 6) (pv 5) (by rfl))) (fun _ _ _ _ _ => (pv 6))) (pe_lst pa_nil) (nomark _))))) (pss_one (ps_expr (pe_bm PySem.F.plainAttrs_list PySem.F.slot_list_append PySem.F.type_list_append mt_append (pv 1) (pa_cons (pv 3) pa_nil)))) pss_nil)))
       (pss_one (ps_aug (i := 2) sc_L_hang.nd rfl (Or.inr rfl) (pe_int) ip_add)))))
       (pss_one (ps_ret (pe_cmpR op_eq (pe_callB call_len_seq (by rfl) T.len PySem.boot_len (pa_cons (pv 1) pa_nil)) (pe_callB call_len_seq (by rfl) T.len PySem.boot_len (pa_cons (pe_ix ix_tup (pv 0) (pe_int) (fun _ _ => rfl)) pa_nil)) (nomark _))))))), ?_⟩
    refine ⟨_, rfl, a, _, _, _, rfl, rfl, SqT.of (s0 _ _ ha), at_of (j := 0) rfl rfl, pl, _, rfl, .inl (SqL.of (s0 _ _ hpl)), fun ga hga => ?_⟩
    have x0 := (Ext.refl s0).allocM (o := .lst (postsV N)) hga
    have ga0 := s0.free hga
    refine ⟨fun m σ H' => ∃ L i v3 v4 v5 v6, σ = [some (.ref a), some (.ref ga), some (.int (i : Nat)), v3, v4, v5, v6] ∧ Hung N L i ∧ i ≤ L.length ∧ m = N.R.length - i ∧ Ext G H G H' ∧ H' ga = some (.lst ((ptsS N L).map V.str)),
      ⟨_, List.range N.np, 0, none, none, none, none, rfl, hung_start, Nat.zero_le _, rfl, x0, by rw [← posts_pts]; exact upd_same⟩, ?_⟩
    rintro m σ H' ⟨L, i, v3, v4, v5, v6, rfl, h, il, rfl, x, h1⟩
    have Ll := h.len O
    have inn : ∀ p, p ∈ L → p < N.R.length := fun p hp => Hang.lt O (h.to p hp)
    refine ⟨_, rfl, _, rfl, ga, _, rfl, .inl (SqL.of h1), _, _, rfl, rfl, _, rfl, ?_⟩
    have el : ((ptsS N L).map V.str).length = L.length := by
      unfold ptsS
      rw [List.length_map, List.length_map]
    rw [el]
    by_cases c : i < L.length
    · refine ifT (decide_eq_true (by omega)) ?_
      obtain ⟨p, ep⟩ : ∃ p, L[i]? = some p := ⟨_, List.getElem?_eq_getElem c⟩
      have hp : p < N.R.length := inn p (List.mem_of_getElem? ep)
      have ei : ((ptsS N L).map V.str)[i]? = some (.str (Net.pt N p)) := by
        unfold ptsS
        rw [List.getElem?_map, List.getElem?_map, ep]
        rfl
      refine ⟨fun σ2 H2 => ∃ m', m' < N.R.length - i ∧ ∃ L i v3 v4 v5 v6, σ2 = [some (.ref a), some (.ref ga), some (.int (i : Nat)), v3, v4, v5, v6] ∧ Hung N L i ∧ i ≤ L.length ∧ m' = N.R.length - i ∧ Ext G H G H2 ∧ H2 ga = some (.lst ((ptsS N L).map V.str)),
        fun σ2 H2 q => q, ?_⟩
      -- mine
      refine ⟨_, rfl, a, _, _, _, rfl, rfl, SqT.of (x.s _ _ ha), at_of (j := 1) rfl rfl, rl, rfl, ⟨_, SqL.of (x.s _ _ hrl)⟩, fun B hB => lc_list (K := K) (a := rl) (xs := rs)
        (fun n H2 => Ext G H G H2 ∧ H2 ga = some (.lst ((ptsS N L).map V.str)) ∧ ∃ acc, H2 B = some (.lst acc) ∧ acc.length ≤ n ∧ (p < n → ∃ l, acc[0]? = some (.ref l) ∧ G l = some (.lst (wiresV (N.row p)))) ∧ (n ≤ p → acc = []))
        ⟨x.allocM hB, up h1 hB, [], upd_same, Nat.le_refl _, fun z => absurd z (Nat.not_lt_zero _), fun _ => rfl⟩ (fun n H2 _ ⟨y, _⟩ => SqL.of (y.s _ _ hrl)) ?_ ?_⟩
      · rintro n y H2 hi ⟨x2, g1, acc, g2, g3, g4, g5⟩
        obtain ⟨q, eq, t, lw, rfl, ht, hlw⟩ := paired_at hrs hi
        obtain ⟨hlt, rfl⟩ := range_at eq
        refine ⟨t, _, rfl, SqT.of (x2.s _ _ ht), rfl, _, _, rfl, _, _, rfl, rfl, rfl, ?_⟩
        refine ⟨_, rfl, _, rfl, _, rfl, ga, _, _, _, rfl, rfl, SqL.of g1, at_of (j := i) rfl ei, rfl, _, rfl, ?_⟩
        have nB : ga ≠ B := ne_of_none h1 hB
        by_cases e : q = p
        · subst e
          refine ifT (decide_eq_true rfl) ?_
          have e0 := g5 (Nat.le_refl _)
          subst e0
          refine ⟨_, rfl, _, g2, Nat.lt_of_le_of_lt (m := 14) (by omega) (by decide), ?_⟩
          exact ⟨x2.mut (x.new hB) (s0.free (x.new hB)), ap nB g1, _, upd_same, by simp, fun _ => ⟨lw, rfl, hlw⟩, fun z => by omega⟩
        · have ne : ¬ V.str (Net.pt N q) = V.str (Net.pt N p) := fun z => e (pt_inj O hlt hp (V.str.inj z))
          refine ifF (decide_eq_false ne) ?_
          exact ⟨x2, g1, acc, g2, by omega, fun z => g4 (by omega), fun z => g5 (by omega)⟩
      · rintro H2 ⟨x2, g1, acc, g2, g3, g4, g5⟩
        obtain ⟨lp, e1, hlp⟩ := g4 (by omega)
        refine ⟨B, _, _, _, rfl, rfl, SqL.of g2, at_of (j := 0) rfl e1, ?_⟩
        -- over all rows
        refine ⟨_, rfl, a, _, _, _, rfl, rfl, SqT.of (x2.s _ _ ha), at_of (j := 1) rfl rfl, rl, rfl, ⟨_, SqL.of (x2.s _ _ hrl)⟩, for_list (K := K) (a := rl) (xs := rs)
          (fun n σ H3 => ∃ L v3 v4 v6, σ = [some (.ref a), some (.ref ga), some (.int (i : Nat)), v3, v4, some (.ref lp), v6] ∧ HungAt N L i p n ∧ Ext G H G H3 ∧ H3 ga = some (.lst ((ptsS N L).map V.str)))
          ⟨L, _, _, _, rfl, ⟨h, ep, fun r hr => absurd hr (Nat.not_lt_zero _)⟩, x2, g1⟩ (fun n σ H3 _ ⟨_, _, _, _, _, _, y, _⟩ => SqL.of (y.s _ _ hrl)) ?_ ?_⟩
        · rintro n y σ H3 hi ⟨L, v3, v4, v6, rfl, hh, x3, f1⟩
          have inn : ∀ p, p ∈ L → p < N.R.length := fun p hp => Hang.lt O (hh.base.to p hp)
          obtain ⟨q, eq, t, lw, rfl, ht, hlw⟩ := paired_at hrs hi
          obtain ⟨hlt, rfl⟩ := range_at eq
          refine ⟨t, _, rfl, SqT.of (x3.s _ _ ht), rfl, _, _, rfl, _, _, rfl, rfl, ?_⟩
          refine ⟨_, rfl, _, rfl, ga, _, rfl, .inl (SqL.of f1), rfl, flat_texts _, _, rfl, ?_⟩
          show (if (!inV (V.str (Net.pt N q)) ((ptsS N L).map V.str)) = true then _ else _)
          rw [pts_in O inn hlt]
          by_cases c1 : q ∈ L
          · refine ifF (by rw [decide_eq_true c1]; rfl) ?_
            refine ifF rfl ?_
            exact ⟨L, _, _, _, rfl, hh.skip (.inl c1), x3, f1⟩
          · refine ifT (by rw [decide_eq_false c1]; rfl) ?_
            have rl30 := row_len O q
            refine ⟨_, rfl, lw, rfl, ⟨_, SqL.of (x3.s _ _ hlw)⟩, fun C hC => lc_list (K := K) (a := lw) (xs := wiresV (N.row q))
              (fun k H4 => Ext G H G H4 ∧ H4 ga = some (.lst ((ptsS N L).map V.str)) ∧ H4 C = some (.lst (wiresV (shr N p q k))))
              ⟨x3.allocM hC, up f1 hC, upd_same⟩ (fun k H4 _ ⟨y, _⟩ => SqL.of (y.s _ _ hlw)) ?_ ?_⟩
            · rintro k y H4 hi ⟨x4, d1, d2⟩
              unfold wiresV at hi
              obtain ⟨wi, ew, rfl⟩ : ∃ wi, (N.row q)[k]? = some wi ∧ V.str (wn wi) = y := by
                rw [List.getElem?_map] at hi
                cases e : (N.row q)[k]? with
                | none =>
                  rw [e] at hi
                  cases hi
                | some wi =>
                  rw [e] at hi
                  exact ⟨wi, rfl, Option.some.inj hi⟩
              have hw := List.mem_of_getElem? ew
              refine ⟨rfl, ?_⟩
              refine ⟨_, rfl, _, rfl, lp, _, rfl, .inl (SqL.of (x4.s _ _ hlp)), rfl, flat_wires, _, rfl, ?_⟩
              show (if inV (V.str (wn wi)) (wiresV (N.row p)) = true then _ else _)
              rw [wires_in O hw]
              have nC : ga ≠ C := ne_of_none f1 hC
              by_cases c2 : wi ∈ N.row p
              · refine ifT (decide_eq_true c2) ?_
                refine ⟨_, rfl, _, d2, ?_, x4.mut (x3.new hC) (x3.newG hC), ap nC d1, ?_⟩
                · rw [wires_len]
                  have := shr_len (N := N) (p := p) (q := q) k
                  exact Nat.lt_of_le_of_lt (m := 30) (by omega) (by decide)
                · rw [upd_same, shr_snoc ew, if_pos c2]
                  unfold wiresV
                  rw [List.map_append]
                  rfl
              · refine ifF (decide_eq_false c2) ?_
                refine ⟨x4, d1, ?_⟩
                rw [shr_snoc ew, if_neg c2]
                exact d2
            · rintro H4 ⟨x4, d1, d2⟩
              rw [wires_len] at d2
              have es : wiresV (shr N p q (N.row q).length) = ((shr N p q (N.row q).length).map wn).map V.str := by
                unfold wiresV
                rw [List.map_map]
                rfl
              have gd : ∀ z, z ∈ (shr N p q (N.row q).length).map wn → Good z := fun z hz => by
                obtain ⟨w, hw, rfl⟩ := List.mem_map.mp hz
                unfold shr at hw
                rw [List.take_length] at hw
                exact wn_good (row_wire_lt O (List.mem_filter.mp hw).1)
              rw [es] at d2
              refine ⟨Nat.zero_le _, fun e1 he1 => ?_⟩
              have x5 := x4.allocM (o := .lst []) he1
              refine ⟨strD ((shr N p q (N.row q).length).map wn), strD [], strD_dp (SqL.of (up d2 he1)), .lst (SqL.of upd_same) .nil, strD_shaped gd, strD_shaped (fun z hz => absurd hz (by simp)), _, rfl, ?_⟩
              rw [strD_eqv_nil, List.isEmpty_map]
              by_cases c3 : N.Share p q
              · refine ifT (by rw [shr_all.mpr c3]; rfl) ?_
                have Ll := hh.base.len O
                refine ⟨_, rfl, .inl ⟨rfl, _, SqL.of (up d1 he1)⟩, _, rfl, ga, _, _, rfl, rfl, up d1 he1, ?_, ?_⟩
                · unfold ptsS
                  rw [List.length_map, List.length_map]
                  exact Nat.lt_of_le_of_lt (m := 14) (by omega) (by decide)
                · refine ⟨L ++ [q], _, _, _, rfl, hh.more O c1 c3, x5.mut hga ga0, ?_⟩
                  rw [upd_same]
                  unfold ptsS
                  rw [List.map_append, List.map_append]
                  rfl
              · have em : (shr N p q (N.row q).length).isEmpty = true := by
                  cases e : (shr N p q (N.row q).length).isEmpty with
                  | true => rfl
                  | false => exact absurd (shr_all.mp e) c3
                refine ifF (by rw [em]; rfl) ?_
                exact ⟨L, _, _, _, rfl, hh.skip (.inr c3), x5, up d1 he1⟩
        · rintro σ H3 ⟨L, v3, v4, v6, rfl, hh, x3, f1⟩
          rw [rlen] at hh
          have il : i < L.length := (List.getElem?_eq_some_iff.mp hh.at_).1
          have Ll := hh.base.len O
          refine ⟨_, rfl, _, _, rfl, rfl, ?_⟩
          exact ⟨N.R.length - (i + 1), by omega, L, i + 1, _, _, _, _, rfl, hh.next O, il, rfl, x3, f1⟩
    · refine ifF (decide_eq_false (by omega)) ?_
      obtain rfl : i = L.length := by omega
      refine ⟨_, rfl, ga, _, rfl, .inl (SqL.of h1), _, rfl, a, _, _, _, rfl, rfl, SqT.of (x.s _ _ ha), at_of (j := 1) rfl rfl, rl, _, rfl, .inl (SqL.of (x.s _ _ hrl)), rfl, ?_⟩
      refine k _ _ _ x ?_
      rw [el, rlen]
      refine congrArg V.bl ?_
      rw [← tied_int O h.done, decide_eq_decide]
      exact ⟨V.int.inj, congrArg V.int⟩
theorem ok_L_due (T : Txt K mg) (D : Dfn K mg "_law_due" s_L_due ["_law_net"]) (C_law_hang : Cal P w K mg base 1 "_law_hang" spLHang []) (C_law_regions : Cal P w K mg base 3 "_law_regions" spLRegions []) : Cal P w K mg base 4 "_law_due" spLDue [] := by
  refine cal_by D sc_L_due (fun vs H Q E h => ?_) (fun f cdv A outer s H vs Q E hr h => ?_)
  · obtain ⟨G, v, N, rfl, _⟩ := h
    rfl
  · obtain ⟨G, v, N, rfl, O, s0, hn, k⟩ := h
    obtain ⟨a, pl, rl, wl, rs, ws, rfl, ha, hpl, hrl, hwl, hrs, hws⟩ := id hn.ex
    have rlen : rs.length = N.R.length := by rw [Paired.length hrs, List.length_range]
    have wlen : ws.length = N.M := by rw [Paired.length hws, List.length_range]
    refine ⟨_, (pss_cons (ps_if (pt_not (pt_val (pe_c C_law_hang hr (by decide) rfl (pa_cons (pv 0) pa_nil)))) (pss_one (ps_ret (pe_str))) pss_nil)
       (pss_cons (ps_if (pt_cmpR op_ne (pe_op op_add (pe_op op_sub (pe_op op_sub (pe_callB call_len_seq (by rfl) T.len PySem.boot_len (pa_cons (pe_ix ix_tup (pv 0) (pe_int) (fun _ _ => rfl)) pa_nil)) (pe_callB call_len_seq (by rfl) T.len PySem.boot_len (pa_cons (pe_ix ix_tup (pv 0) (pe_int) (fun _ _ => rfl)) pa_nil))) (pe_callB call_len_seq (by rfl) T.len PySem.boot_len (pa_cons (pe_ix ix_tup (pv 0) (pe_int) (fun _ _ => rfl)) pa_nil))) (pe_callB call_len_seq (by rfl) T.len PySem.boot_len (pa_cons (pe_c C_law_regions hr (by decide) rfl (pa_cons (pv 0) pa_nil)) pa_nil))) (pe_int) (nomark _)) (pss_one (ps_ret (pe_str))) pss_nil)
       (pss_one (ps_ret (pe_str))))), ?_⟩
    refine ⟨_, rfl, G, _, N, rfl, O, s0, hn, ?_⟩
    rintro G1 H1 _ x1 rfl
    refine ⟨_, rfl, ?_⟩
    by_cases t : tiedB N = true
    · refine ifF (by rw [t]; rfl) ?_
      have g1 := x1.g
      refine ⟨_, rfl, a, _, _, _, rfl, rfl, SqT.of (x1.s _ _ (g1 _ _ ha)), at_of (j := 1) rfl rfl, rl, _, rfl, .inl (SqL.of (x1.s _ _ (g1 _ _ hrl))), ?_⟩
      refine ⟨_, rfl, a, _, _, _, rfl, rfl, SqT.of (x1.s _ _ (g1 _ _ ha)), at_of (j := 2) rfl rfl, wl, _, rfl, .inl (SqL.of (x1.s _ _ (g1 _ _ hwl))), _, _, rfl, rfl, ?_⟩
      refine ⟨_, rfl, a, _, _, _, rfl, rfl, SqT.of (x1.s _ _ (g1 _ _ ha)), at_of (j := 0) rfl rfl, pl, _, rfl, .inl (SqL.of (x1.s _ _ (g1 _ _ hpl))), _, _, rfl, rfl, ?_⟩
      refine ⟨_, rfl, G1, _, N, rfl, O, x1.s, hn.mono g1, ?_⟩
      rintro G2 H2 _ x2 ⟨b, ys, rfl, hb, yl⟩
      refine ⟨b, _, rfl, .inl (SqL.of (x2.s _ _ hb)), _, _, rfl, rfl, rfl, _, rfl, ?_⟩
      have x3 := x1.trans x2
      have e : (((rs.length : Nat) : Int) - ((ws.length : Nat) : Int) - (((postsV N).length : Nat) : Int) + ((ys.length : Nat) : Int) = 1) ↔ N.Flat := by
        rw [rlen, wlen, posts_len, yl]
        exact Iff.rfl
      by_cases q : N.Flat
      · refine ifF (by rw [decide_eq_true (congrArg V.int (e.mpr q))]; rfl) ?_
        refine k _ _ _ x3 (congrArg V.str ?_)
        unfold dueS
        rw [t, if_pos rfl, flat_yes q]
        rfl
      · refine ifT (by rw [decide_eq_false fun z => q (e.mp (V.int.inj z))]; rfl) ?_
        refine k _ _ _ x3 (congrArg V.str ?_)
        unfold dueS
        rw [t, if_pos rfl, flat_no q]
        rfl
    · have t' : tiedB N = false := by
        cases e : tiedB N with
        | true => exact absurd e t
        | false => rfl
      refine ifT (by rw [t']; rfl) ?_
      refine k _ _ _ x1 (congrArg V.str ?_)
      unfold dueS
      rw [t']
      rfl
end
end RimW

/-! The law's own defs: _law_any_net. -/
namespace RimW
open PySem PySem.Spec PyProof.Rows L2 Rim
open C8 (Cal pe_c pss_cut tCut)

/-! ### rows under way: settled tuples of a name and a list that is still written -/
structure Rws (G H H0 : Hp) (nm : Nat → Str) (rs : List V) (ls : List Addr) (R : List (List Nat)) : Prop where
  l1 : rs.length = R.length
  l2 : ls.length = R.length
  nd : ls.Nodup
  tup : ∀ p l, ls[p]? = some l → ∃ t, rs[p]? = some (.ref t) ∧ G t = some (.tup [.str (nm p), .ref l])
  lst : ∀ p l, ls[p]? = some l → H l = some (.lst (wiresV (R.getD p [])))
  free : ∀ l, l ∈ ls → G l = none
  old : ∀ l, l ∈ ls → H0 l = none
section
variable {G G' H H' H0 : Hp} {nm : Nat → Str} {rs : List V} {ls : List Addr} {R : List (List Nat)}
theorem Rws.nil : Rws G H H0 nm [] [] [] :=
  ⟨rfl, rfl, List.nodup_nil, fun p l h => by simp at h, fun p l h => by simp at h, fun l h => absurd h (by simp), fun l h => absurd h (by simp)⟩
theorem Rws.at_ (h : Rws G H H0 nm rs ls R) {l : Addr} (hl : l ∈ ls) : ∃ o, H l = some o := by
  obtain ⟨p, hp⟩ := List.mem_iff_getElem?.mp hl
  exact ⟨_, h.lst p l hp⟩
theorem Rws.notin (h : Rws G H H0 nm rs ls R) {d : Addr} (hd : H d = none) : ∀ l, l ∈ ls → l ≠ d := fun l hl e => by
  obtain ⟨o, ho⟩ := h.at_ hl
  rw [e, hd] at ho
  cases ho
theorem Rws.mono (h : Rws G H H0 nm rs ls R) (s : Same G G') (e : ∀ l, l ∈ ls → H' l = H l) (f : ∀ l, l ∈ ls → G' l = none) : Rws G' H' H0 nm rs ls R :=
  ⟨h.l1, h.l2, h.nd, fun p l hp => let ⟨t, q1, q2⟩ := h.tup p l hp; ⟨t, q1, s _ _ q2⟩, fun p l hp => (e l (List.mem_of_getElem? hp)).trans (h.lst p l hp), f, h.old⟩
/-- another thing is written -/
theorem Rws.aside (h : Rws G H H0 nm rs ls R) {d : Addr} {o : HO} (ne : ∀ l, l ∈ ls → l ≠ d) : Rws G (upd H d o) H0 nm rs ls R :=
  h.mono (Same.refl _) (fun l hl => upd_ne (ne l hl)) h.free
/-- another thing is new and settled -/
theorem Rws.beside (h : Rws G H H0 nm rs ls R) {d : Addr} {o : HO} (hd : H d = none) (gd : G d = none) : Rws (upd G d o) (upd H d o) H0 nm rs ls R :=
  h.mono (same_new gd) (fun l hl => upd_ne (h.notin hd l hl)) fun l hl => by rw [upd_ne (h.notin hd l hl)]; exact h.free l hl
theorem Rws.add (h : Rws G H H0 nm rs ls R) {l t : Addr} {z : Str} (hl : H l = none) (hl0 : H0 l = none) (gl : G l = none) (ht : (upd H l (.lst [])) t = none) (gt : G t = none) (hz : z = nm R.length) :
    Rws (upd G t (.tup [.str z, .ref l])) (upd (upd H l (.lst [])) t (.tup [.str z, .ref l])) H0 nm (rs ++ [.ref t]) (ls ++ [l]) (R ++ [[]]) := by
  have nlt : l ≠ t := ne_of_none upd_same ht
  have ht0 : H t = none := by
    rw [upd_ne nlt.symm] at ht
    exact ht
  have e1 := h.l1
  have e2 := h.l2
  refine ⟨by rw [List.length_append, List.length_append, e1]; rfl, by rw [List.length_append, List.length_append, e2]; rfl, ?_, fun p m hp => ?_, fun p m hp => ?_, fun m hm => ?_, fun m hm => ?_⟩
  · refine List.nodup_append.mpr ⟨h.nd, by simp, ?_⟩
    rintro a ha b hb rfl
    exact h.notin hl a ha (List.mem_singleton.mp hb)
  · by_cases q : p < ls.length
    · rw [List.getElem?_append_left q] at hp
      obtain ⟨u, q1, q2⟩ := h.tup p m hp
      exact ⟨u, by rw [List.getElem?_append_left (by omega)]; exact q1, up q2 gt⟩
    · have pl : p = ls.length := by
        have := (List.getElem?_eq_some_iff.mp hp).1
        rw [List.length_append, List.length_singleton] at this
        omega
      subst pl
      rw [List.getElem?_append_right (Nat.le_refl _), Nat.sub_self] at hp
      cases hp
      refine ⟨t, ?_, ?_⟩
      · rw [List.getElem?_append_right (by omega), show ls.length - rs.length = 0 by omega]
        rfl
      · rw [upd_same, hz, e2]
  · by_cases q : p < ls.length
    · rw [List.getElem?_append_left q] at hp
      have hm := List.mem_of_getElem? hp
      have nt : m ≠ t := h.notin ht0 m hm
      have nl : m ≠ l := h.notin hl m hm
      rw [upd_ne nt, upd_ne nl, h.lst p m hp, List.getD_eq_getElem?_getD, List.getD_eq_getElem?_getD, List.getElem?_append_left (by omega)]
    · have pl : p = ls.length := by
        have := (List.getElem?_eq_some_iff.mp hp).1
        rw [List.length_append, List.length_singleton] at this
        omega
      subst pl
      rw [List.getElem?_append_right (Nat.le_refl _), Nat.sub_self] at hp
      cases hp
      rw [upd_ne nlt, upd_same, List.getD_eq_getElem?_getD, List.getElem?_append_right (by omega), show ls.length - R.length = 0 by omega]
      rfl
  · rcases List.mem_append.mp hm with q | q
    · rw [upd_ne (h.notin ht0 m q)]
      exact h.free m q
    · rw [List.mem_singleton.mp q, upd_ne nlt]
      exact gl
  · rcases List.mem_append.mp hm with q | q
    · exact h.old m q
    · rw [List.mem_singleton.mp q]
      exact hl0
theorem Rws.put (h : Rws G H H0 nm rs ls R) {p : Nat} {l : Addr} (hp : ls[p]? = some l) (r : List Nat) : Rws G (upd H l (.lst (wiresV r))) H0 nm rs ls (R.set p r) := by
  have pl : p < R.length := by
    have := (List.getElem?_eq_some_iff.mp hp).1
    have := h.l2
    omega
  refine ⟨by rw [List.length_set]; exact h.l1, by rw [List.length_set]; exact h.l2, h.nd, h.tup, fun q m hq => ?_, h.free, h.old⟩
  by_cases e : q = p
  · subst e
    rw [hp] at hq
    cases hq
    rw [upd_same, List.getD_eq_getElem?_getD, List.getElem?_set_self pl]
    rfl
  · have nm' : m ≠ l := fun z => by
      subst z
      exact e (nd_ix h.nd hq hp)
    rw [upd_ne nm', h.lst q m hq, List.getD_eq_getElem?_getD, List.getD_eq_getElem?_getD, List.getElem?_set_ne (fun z => e z.symm)]
/-- things of the def's own are settled, one after the other -/
theorem settle {G0 : Hp} : ∀ {ls : List Addr} {G : Hp}, Ext G0 H0 G H → ls.Nodup → (∀ l, l ∈ ls → G l = none ∧ H0 l = none ∧ ∃ o, H l = some o) →
    ∃ G', Ext G0 H0 G' H ∧ Same G G' ∧ (∀ l, l ∈ ls → G' l = H l) ∧ ∀ b, ¬ b ∈ ls → G' b = G b
  | [], G, x, _, _ => ⟨G, x, Same.refl _, fun l h => absurd h (by simp), fun _ _ => rfl⟩
  | l :: ls, G, x, nd, hs => by
    obtain ⟨n1, n2⟩ := List.nodup_cons.mp nd
    obtain ⟨G', y, s, e, f⟩ := settle x n2 fun m hm => hs m (List.mem_cons_of_mem _ hm)
    obtain ⟨g, h0, o, ho⟩ := hs l List.mem_cons_self
    have gl : G' l = none := by
      rw [f l n1]
      exact g
    refine ⟨upd G' l o, y.fin h0 gl ho, s.trans (same_new gl), fun m hm => ?_, fun b hb => ?_⟩
    · rcases List.mem_cons.mp hm with q | q
      · rw [q, upd_same, ho]
      · rw [upd_ne fun z => by rw [z] at q; exact n1 q]
        exact e m q
    · rw [upd_ne fun z => by rw [z] at hb; exact hb List.mem_cons_self]
      exact f b fun z => hb (List.mem_cons_of_mem _ z)
theorem paired_ix {α β : Type} {F : α → β → Prop} : ∀ {l : List α} {m : List β}, l.length = m.length → (∀ (i : Nat) (x : α) (y : β), l[i]? = some x → m[i]? = some y → F x y) → Paired F l m
  | [], [], _, _ => .nil
  | [], _ :: _, e, _ => nomatch e
  | _ :: _, [], e, _ => nomatch e
  | a :: l, b :: m, e, h => .cons (h 0 a b rfl rfl) (paired_ix (Nat.succ.inj e) fun i x y hx hy => h (i + 1) x y (by simpa using hx) (by simpa using hy))
theorem Rws.done {G0 : Hp} (h : Rws G H H0 nm rs ls R) (x : Ext G0 H0 G H) {N : Net} (en : ∀ p, nm p = Net.pt N p) (er : N.R = R) : ∃ G', Ext G0 H0 G' H ∧ Same G G' ∧ Paired (RowAt G' N) rs (List.range R.length) := by
  obtain ⟨G', y, s, e, f⟩ := settle x h.nd fun l hl => ⟨h.free l hl, h.old l hl, h.at_ hl⟩
  refine ⟨G', y, s, paired_ix (by rw [List.length_range]; exact h.l1) fun i v p hv hp => ?_⟩
  have il : i < rs.length := (List.getElem?_eq_some_iff.mp hv).1
  have e1 := h.l1
  have e2 := h.l2
  obtain ⟨l, hl⟩ : ∃ l, ls[i]? = some l := ⟨_, List.getElem?_eq_getElem (by omega)⟩
  obtain ⟨t, q1, q2⟩ := h.tup i l hl
  rw [List.getElem?_range (by omega)] at hp
  cases hp
  rw [hv] at q1
  cases q1
  refine ⟨t, l, rfl, ?_, ?_⟩
  · rw [← en]
    exact s _ _ q2
  · rw [e l (List.mem_of_getElem? hl), h.lst i l hl]
    unfold Net.row
    rw [er]
end

/-! ### each wire twice -/
structure Cnt (R : List (List Nat)) (i j : Nat) : Prop where
  n : ∀ w, R.flatten.count w = if w < i then 2 else if w = i then j else 0
  l : R.flatten.length = 2 * i + j
theorem count_set : ∀ (R : List (List Nat)) (p : Nat) (r : List Nat) (w : Nat), p < R.length → (R.set p r).flatten.count w + (R.getD p []).count w = R.flatten.count w + r.count w
  | [], p, r, w, h => absurd h (Nat.not_lt_zero _)
  | a :: R, 0, r, w, _ => by
    simp only [List.set_cons_zero, List.flatten_cons, List.count_append, List.getD_cons_zero]
    omega
  | a :: R, p + 1, r, w, h => by
    have ih := count_set R p r w (by simpa using h)
    simp only [List.set_cons_succ, List.flatten_cons, List.count_append, List.getD_cons_succ]
    omega
theorem length_set' : ∀ (R : List (List Nat)) (p : Nat) (r : List Nat), p < R.length → (R.set p r).flatten.length + (R.getD p []).length = R.flatten.length + r.length
  | [], p, r, h => absurd h (Nat.not_lt_zero _)
  | a :: R, 0, r, _ => by
    simp only [List.set_cons_zero, List.flatten_cons, List.length_append, List.getD_cons_zero]
    omega
  | a :: R, p + 1, r, h => by
    have ih := length_set' R p r (by simpa using h)
    simp only [List.set_cons_succ, List.flatten_cons, List.length_append, List.getD_cons_succ]
    omega
/-- i put into r at k -/
def ins (r : List Nat) (k i : Nat) : List Nat := r.take k ++ [i] ++ r.drop k
theorem ins_count (r : List Nat) (k i w : Nat) : (ins r k i).count w = r.count w + if w = i then 1 else 0 := by
  have e : r.count w = (r.take k).count w + (r.drop k).count w := by
    rw [← List.count_append, List.take_append_drop]
  unfold ins
  rw [List.count_append, List.count_append, e, List.count_singleton]
  by_cases h : w = i
  · subst h
    simp
    omega
  · have h' : ¬ i = w := fun z => h z.symm
    simp [h, h']
theorem ins_len (r : List Nat) (k i : Nat) : (ins r k i).length = r.length + 1 := by
  have e : r.length = (r.take k).length + (r.drop k).length := by
    rw [← List.length_append, List.take_append_drop]
  unfold ins
  rw [List.length_append, List.length_append, e, List.length_singleton]
  omega
theorem ins_wires (r : List Nat) (k i : Nat) : (wiresV r).take k ++ [V.str (wn i)] ++ (wiresV r).drop k = wiresV (ins r k i) := by
  unfold wiresV ins
  rw [List.map_append, List.map_append, List.map_take, List.map_drop]
  rfl
theorem Cnt.start : ∀ n, Cnt (List.replicate n []) 0 0 := fun n => by
  have e : (List.replicate n ([] : List Nat)).flatten = [] := by simp
  exact ⟨fun w => by rw [e]; simp, by rw [e]; rfl⟩
theorem Cnt.put {R : List (List Nat)} {i j p : Nat} (h : Cnt R i j) (hp : p < R.length) (k : Nat) : Cnt (R.set p (ins (R.getD p []) k i)) i (j + 1) := by
  refine ⟨fun w => ?_, ?_⟩
  · have q := count_set R p (ins (R.getD p []) k i) w hp
    rw [ins_count, h.n] at q
    by_cases e : w = i
    · subst e
      simp at q ⊢
      omega
    · simp only [e, if_false] at q ⊢
      omega
  · have q := length_set' R p (ins (R.getD p []) k i) hp
    rw [ins_len, h.l] at q
    omega
theorem Cnt.next {R : List (List Nat)} {i : Nat} (h : Cnt R i 2) : Cnt R (i + 1) 0 := by
  refine ⟨fun w => ?_, by rw [h.l]; omega⟩
  rw [h.n]
  by_cases e1 : w < i
  · rw [if_pos e1, if_pos (by omega)]
  · by_cases e2 : w = i
    · rw [if_neg e1, if_pos e2, if_pos (by omega)]
    · rw [if_neg e1, if_neg e2, if_neg (by omega)]
      split <;> rfl
theorem Cnt.row {R : List (List Nat)} {i j : Nat} (h : Cnt R i j) (p : Nat) : (R.getD p []).length ≤ 2 * i + j := by
  have q := row_le_flat (N := ⟨0, R, 0⟩) (p := p)
  rw [← h.l]
  exact q
theorem Cnt.ok {R : List (List Nat)} {np wi M : Nat} (h : Cnt R M 0) (p1 : 1 ≤ np) (p4 : np ≤ 4) (hw : wi ≤ 10) (hM : M ≤ 15) (hl : R.length = np + wi) : (⟨np, R, M⟩ : Net).Ok := by
  refine ⟨p1, p4, by show np ≤ R.length; omega, by show R.length ≤ 14; omega, hM, fun w hw => ?_, fun w hw => ?_⟩
  · show R.flatten.count w = 2
    rw [h.n, if_pos hw]
  · have q : 0 < R.flatten.count w := List.count_pos_iff.mpr hw
    rw [h.n] at q
    show w < M
    by_cases e : w < M
    · exact e
    · rw [if_neg e] at q
      split at q <;> omega

/-! ### small numbers' texts -/
theorem dec_len : ∀ k : Fin 30, (dec ((k.val : Nat) : Int)).length ≤ 8 := by decide +kernel
theorem dec_short {k : Nat} (h : k < 30) : (dec (k : Int)).length ≤ 8 := dec_len ⟨k, h⟩
theorem log_small {k : Nat} (h : k < 30) : ((k : Nat) : Int).natAbs.log2 < 1920 := by
  rw [Int.natAbs_natCast]
  exact Nat.lt_of_le_of_lt (Nat.log2_le_self k) (by omega)
theorem log_smallW {k : Nat} (h : k < 20) : ((10 : Int) + ((k : Nat) : Int)).natAbs.log2 < 1920 := by
  rw [show (10 : Int) + ((k : Nat) : Int) = ((10 + k : Nat) : Int) by omega]
  exact log_small (by omega)
theorem text_fits {z : Str} {k : Nat} (hz : z.length ≤ 1) (h : k < 30) : z.length + (dec (k : Int)).length ≤ sizeLine :=
  Nat.le_trans (Nat.add_le_add hz (dec_short h)) (by decide)
theorem text_fitsW {z : Str} {k : Nat} (hz : z.length ≤ 1) (h : k < 20) : z.length + (dec (10 + (k : Int))).length ≤ sizeLine := by
  rw [show (10 : Int) + ((k : Nat) : Int) = ((10 + k : Nat) : Int) by omega]
  exact text_fits hz (by omega)

def spAny (K : PySem.W.Frag) : Sp := fun vs H Q _ => ∃ (G : Hp) (a : Addr) (ns : List Int), vs = [.ref a] ∧ Same G H ∧ SqL K H a (ns.map V.int) ∧ ∀ G' H' x N, Ext G H G' H' → N.Ok → NetAt G' x N → Q x H'

abbrev s_L_any_net : Stmt := top 37
theorem sc_L_any_net : FnScope ["_law_script", "_law_big_here", "_law_posts", "_law_within", "_law_many", "_law_rows", "_law_wire", "_law_turn", "_law_row", "_law_worths", "_law_k"] ["_law_script"] (defScope s_L_any_net) := ⟨rfl, rfl, rfl, by decide +kernel, rfl, by decide +kernel, by decide +kernel⟩
section
variable {P : Program} {w : World} {K : PySem.W.Frag} {mg : Str → Option Value} {base : Heap}
theorem ok_L_any_net (T : Txt K mg) (D : Dfn K mg "_law_any_net" s_L_any_net ["_law_script"]) (C_law_big : Cal P w K mg base 2 "_law_big" (spBig K) []) : Cal P w K mg base 3 "_law_any_net" (spAny K) [] := by
  refine cal_by D sc_L_any_net (fun vs H Q E h => ?_) (fun f cdv A outer s H vs Q E hr h => ?_)
  · obtain ⟨G, a, ns, rfl, _⟩ := h
    rfl
  · obtain ⟨G, a, ns, rfl, s0, hq, k⟩ := h
    refine ⟨_, (pss_cons (ps_set (i := 1) sc_L_any_net.nd rfl (Or.inl rfl) (pe_c C_law_big hr (by decide) rfl (pa_cons (pv 0) (pa_cons (pe_int) pa_nil))))
      (pss_cons (ps_set (i := 2) sc_L_any_net.nd rfl (Or.inl rfl) (pe_op op_add (pe_int) (pe_op op_mod (pv 1) (pe_int))))
      (pss_cons (ps_set (i := 3) sc_L_any_net.nd rfl (Or.inl rfl) (pe_op op_mod (pe_op op_fdiv (pv 1) (pe_int)) (pe_int)))
      (pss_cons (ps_set (i := 4) sc_L_any_net.nd rfl (Or.inl rfl) (pe_op op_mod (pe_op op_fdiv (pv 1) (pe_int)) (pe_int)))
      (pss_cut (ps_if (pt_cmpR op_eq (pe_op op_mod (pe_op op_fdiv (pv 1) (pe_int)) (pe_int)) (pe_int) (nomark _)) (pss_one (ps_par (i := 3) (j := 4) (by rfl) sc_L_any_net.nd rfl rfl (by decide) rfl rfl (pa_cons (pe_op op_mod (pe_op op_fdiv (pv 1) (pe_int)) (pe_int)) (pa_cons (pe_op op_mod (pe_op op_fdiv (pv 1) (pe_int)) (pe_int)) pa_nil)) (by rfl))) pss_nil)
      (pss_cons (ps_set (i := 1) sc_L_any_net.nd rfl (Or.inl rfl) (pe_op op_fdiv (pv 1) (pe_int)))
      (pss_cons (ps_set (i := 5) sc_L_any_net.nd rfl (Or.inl rfl) (pe_op op_cat (pe_lc (own := [("_law_k", 10)]) (g := gName 10) (by rfl) sc_L_any_net.nd (pi_range1 (by rfl) T.range (pa_cons (pv 2) pa_nil)) (blkOk_by (N := ["_law_script", "_law_big_here", "_law_posts", "_law_within", "_law_many", "_law_rows", "_law_wire", "_law_turn", "_law_row", "_law_worths", "_law_k"]) (sc := defScope s_L_any_net) (by decide +kernel)) (fun _ _ _ _ _ => pg_name (i := 10) sc_L_any_net.nd rfl (Or.inl rfl)) (fun _ _ _ _ _ => pts_nil) (fun _ _ _ _ _ => (pe_tup (pa_cons (pe_op op_add_str (pe_str) (pe_callTy call_str_int (by rfl) T.str (by decide +kernel) (pa_cons (pv 10) pa_nil))) (pa_cons (pe_lst pa_nil) pa_nil))))) (pe_lc (own := [("_law_k", 10)]) (g := gName 10) (by rfl) sc_L_any_net.nd (pi_range1 (by rfl) T.range (pa_cons (pv 3) pa_nil)) (blkOk_by (N := ["_law_script", "_law_big_here", "_law_posts", "_law_within", "_law_many", "_law_rows", "_law_wire", "_law_turn", "_law_row", "_law_worths", "_law_k"]) (sc := defScope s_L_any_net) (by decide +kernel)) (fun _ _ _ _ _ => pg_name (i := 10) sc_L_any_net.nd rfl (Or.inl rfl)) (fun _ _ _ _ _ => pts_nil) (fun _ _ _ _ _ => (pe_tup (pa_cons (pe_op op_add_str (pe_str) (pe_callTy call_str_int (by rfl) T.str (by decide +kernel) (pa_cons (pv 10) pa_nil))) (pa_cons (pe_lst pa_nil) pa_nil)))))))
      (pss_cons (ps_for PassesOwn.never rfl (pi_range1 (by rfl) T.range (pa_cons (pv 4) pa_nil)) (pg_name (i := 6) sc_L_any_net.nd rfl (Or.inl rfl)) (pss_one (ps_for PassesOwn.never rfl (pi_range1 (by rfl) T.range (pa_cons (pe_int) pa_nil)) (pg_name (i := 7) sc_L_any_net.nd rfl (Or.inl rfl)) (pss_cons (ps_set (i := 8) sc_L_any_net.nd rfl (Or.inl rfl) (pe_ix ix_tup (pe_ix ix_list (pv 5) (pe_op op_mod (pv 1) (pe_callB call_len_seq (by rfl) T.len PySem.boot_len (pa_cons (pv 5) pa_nil))) (fun _ _ => rfl)) (pe_int) (fun _ _ => rfl)))
 (pss_cons (ps_set (i := 1) sc_L_any_net.nd rfl (Or.inl rfl) (pe_op op_fdiv (pv 1) (pe_callB call_len_seq (by rfl) T.len PySem.boot_len (pa_cons (pv 5) pa_nil))))
 (pss_cons (ps_expr (pe_bm PySem.F.plainAttrs_list PySem.F.slot_list_insert PySem.F.type_list_insert mt_insert (pv 8) (pa_cons (pe_op op_mod (pv 1) (pe_op op_add (pe_callB call_len_seq (by rfl) T.len PySem.boot_len (pa_cons (pv 8) pa_nil)) (pe_int))) (pa_cons (pe_op op_add_str (pe_str) (pe_callTy call_str_int (by rfl) T.str (by decide +kernel) (pa_cons (pe_op op_add (pe_int) (pv 6)) pa_nil))) pa_nil))))
 (pss_one (ps_set (i := 1) sc_L_any_net.nd rfl (Or.inl rfl) (pe_op op_fdiv (pv 1) (pe_op op_add (pe_callB call_len_seq (by rfl) T.len PySem.boot_len (pa_cons (pv 8) pa_nil)) (pe_int)))))))))))
      (pss_cons (ps_setLc (i := 9) (own := [("_law_wire", 6)]) (g := gName 6) rfl sc_L_any_net.nd rfl rfl (sw_true rfl rfl rfl (by decide +kernel)) (pi_range1 (by rfl) T.range (pa_cons (pv 4) pa_nil)) (blkOk_by (N := ["_law_script", "_law_big_here", "_law_posts", "_law_within", "_law_many", "_law_rows", "_law_wire", "_law_turn", "_law_row", "_law_worths", "_law_k"]) (sc := defScope s_L_any_net) (by decide +kernel)) (fun _ _ _ _ _ => pg_name (i := 6) sc_L_any_net.nd rfl (Or.inl rfl)) (fun _ _ _ _ _ => pts_nil) (fun _ _ _ _ _ => (pe_tup (pa_cons (pe_op op_add_str (pe_str) (pe_callTy call_str_int (by rfl) T.str (by decide +kernel) (pa_cons (pe_op op_add (pe_int) (pv 6)) pa_nil))) (pa_cons (pe_tup (pa_cons (pe_op op_add (pe_int) (pv 6)) (pa_cons (pe_int) pa_nil))) pa_nil)))))
      (pss_one (ps_ret (pe_tup (pa_cons (pe_lc (own := [("_law_k", 10)]) (g := gName 10) (by rfl) sc_L_any_net.nd (pi_range1 (by rfl) T.range (pa_cons (pv 2) pa_nil)) (blkOk_by (N := ["_law_script", "_law_big_here", "_law_posts", "_law_within", "_law_many", "_law_rows", "_law_wire", "_law_turn", "_law_row", "_law_worths", "_law_k"]) (sc := defScope s_L_any_net) (by decide +kernel)) (fun _ _ _ _ _ => pg_name (i := 10) sc_L_any_net.nd rfl (Or.inl rfl)) (fun _ _ _ _ _ => pts_nil) (fun _ _ _ _ _ => (pe_op op_add_str (pe_str) (pe_callTy call_str_int (by rfl) T.str (by decide +kernel) (pa_cons (pv 10) pa_nil))))) (pa_cons (pv 5) (pa_cons (pv 9) pa_nil))))))))))))))), ?_⟩
    refine ⟨_, rfl, G, a, ns, rfl, s0, hq, fun z G1 H1 x1 => ?_⟩
    refine ⟨_, rfl, _, _, rfl, rfl, (by show (0 : Int) < 4; decide), _, _, rfl, rfl, ?_⟩
    refine ⟨_, rfl, _, _, rfl, rfl, ⟨by decide, by decide⟩, _, _, rfl, rfl, (by show (0 : Int) < 5; decide), ?_⟩
    refine ⟨_, rfl, _, _, rfl, rfl, ⟨by decide, by decide⟩, _, _, rfl, rfl, (by show (0 : Int) < 8; decide), ?_⟩
    refine ⟨fun σ H' => Ext G H G1 H' ∧ ∃ z np wi M : Int, σ = [some (.ref a), some (.int z), some (.int np), some (.int wi), some (.int M), none, none, none, none, none, none] ∧ 1 ≤ np ∧ np ≤ 4 ∧ 0 ≤ wi ∧ wi ≤ 10 ∧ 0 ≤ M ∧ M ≤ 15, ?_, ?_⟩
    · refine ⟨_, rfl, _, _, rfl, rfl, ⟨by decide, by decide⟩, _, _, rfl, rfl, (by show (0 : Int) < 8; decide), rfl, _, rfl, ifC (fun _ => ?_) (fun _ => ?_)⟩
      · refine ⟨_, rfl, _, _, rfl, rfl, ⟨by decide, by decide⟩, _, _, rfl, rfl, (by show (0 : Int) < 11; decide), _, rfl, _, _, rfl, rfl, ⟨by decide, by decide⟩, _, _, rfl, rfl, (by show (0 : Int) < 16; decide), _, _, rfl, ?_⟩
        exact ⟨x1, z, 1 + z % 4, z / 1280 % 11, z / 14080 % 16, rfl, by omega, by omega, by omega, by omega, by omega, by omega⟩
      · exact ⟨x1, z, 1 + z % 4, z / 4 % 5, z / 20 % 8, rfl, by omega, by omega, by omega, by omega, by omega, by omega⟩
    · rintro σ H' ⟨x1, z, npi, wii, Mi, rfl, b1, b2, b3, b4, b5, b6⟩
      obtain ⟨np, rfl⟩ : ∃ np : Nat, npi = (np : Int) := ⟨npi.toNat, by omega⟩
      obtain ⟨wi, rfl⟩ : ∃ wi : Nat, wii = (wi : Int) := ⟨wii.toNat, by omega⟩
      obtain ⟨M, rfl⟩ : ∃ M : Nat, Mi = (M : Int) := ⟨Mi.toNat, by omega⟩
      let nm : Nat → Str := Net.pt ⟨np, [], 0⟩
      have nmp : ∀ p : Nat, p < np → ("p" : Str) ++ dec (p : Int) = nm p := fun p h => by
        show _ = if p < np then _ else _
        rw [if_pos h]
      have nmq : ∀ p : Nat, ("q" : Str) ++ dec (p : Int) = nm (np + p) := fun p => by
        show _ = if np + p < np then _ else ("q" : Str) ++ dec ((np + p - np : Nat) : Int)
        rw [if_neg (by omega), show np + p - np = p by omega]
      refine ⟨_, rfl, _, _, rfl, rfl, ⟨by decide, by decide⟩, ?_⟩
      -- rows: the posts
      refine ⟨_, rfl, _, rfl, by omega, by omega, fun D1 hD1 => lc_range (lo := 0) (n := np) (fun k H2 => ∃ G2 acc ls, Ext G H G2 H2 ∧ Rws G2 H2 H nm acc ls (List.replicate k []) ∧ H2 D1 = some (.lst acc) ∧ G2 D1 = none ∧ (∀ l, l ∈ ls → l ≠ D1))
        ⟨G1, [], [], x1.allocM hD1, Rws.nil, upd_same, x1.newG hD1, fun l hl => absurd hl (by simp)⟩ ?_ ?_⟩
      · rintro k H2 hk ⟨G2, acc, ls, x2, h1, h2, h3, h4⟩
        rw [Int.zero_add]
        refine ⟨rfl, tyes (ifT rfl ?_)⟩
        refine ⟨_, rfl, _, rfl, log_small (by omega), _, _, rfl, rfl, text_fits (k := k) (by decide +kernel) (by omega), Nat.zero_le _, fun l hl => ⟨(by show 2 ≤ sizeLine; decide), fun t ht => ?_⟩⟩
        have al : acc.length = k := by rw [h1.l1, List.length_replicate]
        have y1 := x2.allocM (o := .lst []) hl
        have gl := x2.newG hl
        have nl := h1.notin hl
        have D1l : D1 ≠ l := ne_of_none h2 hl
        have r1 := h1.add (z := ("p" : Str) ++ dec (k : Int)) hl (x2.new hl) gl ht (y1.newG ht) (by rw [List.length_replicate]; exact nmp k hk)
        refine ⟨acc, up (up h2 hl) ht, Nat.lt_of_le_of_lt (m := 4) (by omega) (by decide), ?_⟩
        have nn : ∀ m, m ∈ ls ++ [l] → m ≠ D1 := fun m hm => by
          rcases List.mem_append.mp hm with q | q
          · exact h4 m q
          · rw [List.mem_singleton.mp q]
            exact D1l.symm
        refine ⟨_, _, ls ++ [l], (y1.alloc ht).mut (x1.new hD1) (gp (up h2 hl) ht h3), ?_, upd_same, gp (up h2 hl) ht h3, nn⟩
        rw [List.replicate_succ']
        exact r1.aside nn
      rintro H2 ⟨G2, rs1, ls1, x2, h1, h2, h3, h4⟩
      have l1 : rs1.length = np := by rw [h1.l1, List.length_replicate]
      -- .. the points within
      refine ⟨_, rfl, _, rfl, by omega, by omega, fun D2 hD2 => lc_range (lo := 0) (n := wi) (fun k H3 => ∃ G3 acc ls, Ext G H G3 H3 ∧ Rws G3 H3 H nm (rs1 ++ acc) ls (List.replicate (np + k) []) ∧ H3 D1 = some (.lst rs1) ∧ H3 D2 = some (.lst acc) ∧ G3 D2 = none ∧ (∀ l, l ∈ ls → l ≠ D2))
        ⟨G2, [], ls1, x2.allocM hD2, by rw [List.append_nil]; exact h1.aside (h1.notin hD2), up h2 hD2, upd_same, x2.newG hD2, h1.notin hD2⟩ ?_ ?_⟩
      · rintro k H3 hk ⟨G3, acc, ls, x3, r1, r2, r3, r4, r5⟩
        rw [Int.zero_add]
        refine ⟨rfl, tyes (ifT rfl ?_)⟩
        refine ⟨_, rfl, _, rfl, log_small (by omega), _, _, rfl, rfl, text_fits (k := k) (by decide +kernel) (by omega), Nat.zero_le _, fun l hl => ⟨(by show 2 ≤ sizeLine; decide), fun t ht => ?_⟩⟩
        have al : acc.length = k := by
          have := r1.l1
          rw [List.length_append, List.length_replicate] at this
          omega
        have y1 := x3.allocM (o := .lst []) hl
        have D2l : D2 ≠ l := ne_of_none r3 hl
        have D12 : D1 ≠ D2 := ne_of_none h2 hD2
        have q1 := r1.add (z := ("q" : Str) ++ dec (k : Int)) hl (x3.new hl) (x3.newG hl) ht (y1.newG ht) (by rw [List.length_replicate]; exact nmq k)
        have nn : ∀ m, m ∈ ls ++ [l] → m ≠ D2 := fun m hm => by
          rcases List.mem_append.mp hm with q | q
          · exact r5 m q
          · rw [List.mem_singleton.mp q]
            exact D2l.symm
        refine ⟨acc, up (up r3 hl) ht, Nat.lt_of_le_of_lt (m := 10) (by omega) (by decide), ?_⟩
        refine ⟨_, _, ls ++ [l], (y1.alloc ht).mut (x2.new hD2) (gp (up r3 hl) ht r4), ?_, ap D12 (up (up r2 hl) ht), upd_same, gp (up r3 hl) ht r4, nn⟩
        rw [← Nat.add_assoc, List.replicate_succ', ← List.append_assoc]
        exact q1.aside nn
      rintro H3 ⟨G3, rs2, ls, x3, r1, r2, r3, r4, r5⟩
      have l2 : rs2.length = wi := by
        have := r1.l1
        rw [List.length_append, List.length_replicate] at this
        omega
      refine ⟨D1, D2, _, _, rfl, rfl, r2, r3, Nat.le_trans (m := 14) (by omega) (by decide), fun rl hrl => ?_⟩
      have x4 := x3.alloc (o := .lst (rs1 ++ rs2)) hrl
      have r6 := r1.beside (o := .lst (rs1 ++ rs2)) hrl (x3.newG hrl)
      have g6 : (upd G3 rl (.lst (rs1 ++ rs2))) rl = some (.lst (rs1 ++ rs2)) := upd_same
      revert x4 r6 g6
      generalize upd G3 rl (.lst (rs1 ++ rs2)) = G4
      intro x4 r6 g6
      have rsl : (rs1 ++ rs2).length = np + wi := by rw [List.length_append, l1, l2]
      revert x4 r6 g6 rsl
      generalize rs1 ++ rs2 = rs
      intro x4 r6 g6 rsl
      have lsl : ls.length = np + wi := by rw [r6.l2, List.length_replicate]
      -- the wires
      refine ⟨_, rfl, _, rfl, by omega, by omega, for_range (lo := 0) (n := M) (fun i σ H' => (∃ z v6 v7 v8, σ = [some (.ref a), some (.int z), some (.int (np : Nat)), some (.int (wi : Nat)), some (.int (M : Nat)), some (.ref rl), v6, v7, v8, none, none]) ∧
        ∃ R, Ext G H G4 H' ∧ Rws G4 H' H nm rs ls R ∧ R.length = np + wi ∧ Cnt R i 0) ⟨⟨_, _, _, _, rfl⟩, _, x4, r6, by rw [List.length_replicate], Cnt.start _⟩ ?_ ?_⟩
      · rintro i σ H' hi ⟨⟨z, v6, v7, v8, rfl⟩, R, x5, w1, w2, w3⟩
        rw [Int.zero_add]
        refine ⟨2, rfl, by decide, by decide, for_range (lo := 0) (n := 2) (fun j σ H' => (∃ z v7 v8, σ = [some (.ref a), some (.int z), some (.int (np : Nat)), some (.int (wi : Nat)), some (.int (M : Nat)), some (.ref rl), some (.int (i : Nat)), v7, v8, none, none]) ∧
          ∃ R, Ext G H G4 H' ∧ Rws G4 H' H nm rs ls R ∧ R.length = np + wi ∧ Cnt R i j) ⟨⟨_, _, _, rfl⟩, R, x5, w1, w2, w3⟩ ?_ ?_⟩
        · rintro j σ H' hj ⟨⟨z, v7, v8, rfl⟩, R, x5, w1, w2, w3⟩
          have pos : (0 : Int) < ((rs.length : Nat) : Int) := by omega
          obtain ⟨p, ep, hp⟩ : ∃ p : Nat, z % ((rs.length : Nat) : Int) = (p : Int) ∧ p < np + wi := by
            have q1 := Int.emod_nonneg z (b := ((rs.length : Nat) : Int)) (by omega)
            have q2 := Int.emod_lt_of_pos z pos
            exact ⟨(z % ((rs.length : Nat) : Int)).toNat, by omega, by omega⟩
          obtain ⟨l, hl⟩ : ∃ l, ls[p]? = some l := ⟨_, List.getElem?_eq_getElem (by omega)⟩
          obtain ⟨t, ht, gt⟩ := w1.tup p l hl
          have hll := w1.lst p l hl
          have rw_ := w3.row p
          have hrl' := SqL.of (K := K) (x5.s _ _ g6)
          refine ⟨_, rfl, _, rfl, _, rfl, rl, _, rfl, .inl hrl', _, _, rfl, rfl, pos, rl, _, _, _, rfl, rfl, hrl', at_of (j := p) ep ht, t, _, _, _, rfl, rfl, SqT.of (x5.s _ _ gt), at_of (j := 1) rfl rfl, ?_⟩
          refine ⟨_, rfl, _, rfl, rl, _, rfl, .inl hrl', _, _, rfl, rfl, ⟨pos, by rw [rsl]; omega⟩, ?_⟩
          have wl : (wiresV (R.getD p [])).length = (R.getD p []).length := wires_len
          have pos2 : (0 : Int) < (((wiresV (R.getD p [])).length : Nat) : Int) + 1 := by omega
          obtain ⟨m, em, hm⟩ : ∃ m : Nat, z / ((rs.length : Nat) : Int) % ((((wiresV (R.getD p [])).length : Nat) : Int) + 1) = (m : Int) ∧ m ≤ 30 := by
            have q1 := Int.emod_nonneg (z / ((rs.length : Nat) : Int)) (b := (((wiresV (R.getD p [])).length : Nat) : Int) + 1) (by omega)
            have q2 := Int.emod_lt_of_pos (z / ((rs.length : Nat) : Int)) pos2
            exact ⟨(z / ((rs.length : Nat) : Int) % ((((wiresV (R.getD p [])).length : Nat) : Int) + 1)).toNat, by omega, by omega⟩
          refine ⟨_, rfl, .inl ⟨rfl, _, SqL.of hll⟩, _, rfl, _, rfl, l, _, rfl, .inl (SqL.of hll), _, _, rfl, rfl, _, _, rfl, rfl, pos2, ?_⟩
          refine ⟨_, rfl, _, _, rfl, rfl, _, rfl, log_smallW (by omega), _, _, rfl, rfl, text_fitsW (k := i) (by decide +kernel) (by omega), ?_⟩
          refine ⟨l, _, _, _, rfl, rfl, hll, Nat.lt_of_le_of_lt (m := 30) (by omega) (by decide), by rw [em]; omega, by rw [em]; omega, ?_⟩
          rw [em, Int.toNat_natCast]
          rw [show (wiresV (R.getD p [])).take m ++ [V.str (("w" : Str) ++ (Str.ofString (toString (10 + ((i : Nat) : Int)))))] ++ (wiresV (R.getD p [])).drop m = wiresV (ins (R.getD p []) m i) from ins_wires _ _ _]
          have hlm := List.mem_of_getElem? hl
          have w4 := w1.put hl (ins (R.getD p []) m i)
          refine ⟨_, rfl, _, rfl, l, _, rfl, .inl (SqL.of upd_same), _, _, rfl, rfl, _, _, rfl, rfl, ⟨by omega, ?_⟩, ?_⟩
          · rw [wires_len, ins_len]
            omega
          · exact ⟨⟨_, _, _, rfl⟩, _, x5.mut (w1.old l hlm) (w1.free l hlm), w4, by rw [List.length_set]; exact w2, w3.put (by omega) m⟩
        · rintro σ H' ⟨⟨z, v7, v8, rfl⟩, R, x5, w1, w2, w3⟩
          exact ⟨⟨_, _, _, _, rfl⟩, R, x5, w1, w2, w3.next⟩
      · rintro σ H' ⟨⟨z, v6, v7, v8, rfl⟩, R, x5, w1, w2, w3⟩
        have O := w3.ok (np := np) (wi := wi) (by omega) (by omega) (by omega) (by omega) w2
        obtain ⟨G5, x6, s6, rows⟩ := w1.done x5 (N := ⟨np, R, M⟩) (fun p => rfl) rfl
        -- worths
        refine ⟨_, rfl, _, rfl, by omega, by omega, fun D3 hD3 => lc_range (lo := 0) (n := M) (fun k H2 => ∃ G' acc, Ext G H G' H2 ∧ Same G5 G' ∧ H2 D3 = some (.lst acc) ∧ G' D3 = none ∧ acc.length = k ∧ Paired (WorthAt G') acc (List.range k))
          ⟨G5, [], x6.allocM hD3, Same.refl _, upd_same, x6.newG hD3, rfl, .nil⟩ ?_ ?_⟩
        · rintro k H2 hk ⟨G', acc, y, sg, y1, y2, y3, y4⟩
          rw [Int.zero_add]
          refine ⟨rfl, tyes (ifT rfl ?_)⟩
          refine ⟨_, rfl, _, _, rfl, rfl, _, rfl, log_smallW (by omega), _, _, rfl, rfl, text_fitsW (k := k) (by decide +kernel) (by omega), ?_⟩
          refine ⟨_, rfl, _, _, rfl, rfl, (by show 2 ≤ sizeLine; decide), fun f hf => ⟨(by show 2 ≤ sizeLine; decide), fun t ht => ?_⟩⟩
          refine ⟨acc, up (up y1 hf) ht, Nat.lt_of_le_of_lt (m := 15) (by omega) (by decide), ?_⟩
          have z1 := y.alloc (o := .tup [.int (1 + ((k : Nat) : Int)), .int 1]) hf
          have z2 := z1.alloc (o := .tup [.str (wn k), .ref f]) ht
          have a2 := gp (o := .tup [.int (1 + ((k : Nat) : Int)), .int 1]) y1 hf y2
          have a3 := gp (o := .tup [.str (wn k), .ref f]) (up (o := .tup [.int (1 + ((k : Nat) : Int)), .int 1]) y1 hf) ht a2
          have m2 := (same_new (o := .tup [.int (1 + ((k : Nat) : Int)), .int 1]) (y.newG hf)).trans (same_new (o := .tup [.str (wn k), .ref f]) (z1.newG ht))
          refine ⟨_, _, z2.mut (x6.new hD3) a3, sg.trans m2, upd_same, a3, by rw [List.length_append, y3]; rfl, ?_⟩
          rw [List.range_succ]
          exact paired_snoc (Paired.mapP y4 fun x p ⟨t, f, e, q1, q2⟩ => ⟨t, f, e, m2 _ _ q1, m2 _ _ q2⟩) ⟨t, f, rfl, upd_same, up upd_same (z1.newG ht)⟩
        · rintro H2 ⟨G', ws, y, sg, y1, y2, y3, y4⟩
          have y5 := y.fin (x6.new hD3) y2 y1
          have m5 : Same G' (upd G' D3 (.lst ws)) := same_new y2
          -- posts
          refine ⟨_, rfl, _, rfl, by omega, by omega, fun D4 hD4 => lc_range (lo := 0) (n := np) (fun k H3 => Ext G H (upd G' D3 (.lst ws)) H3 ∧ H3 D4 = some (.lst ((List.range k).map fun p => V.str (nm p))))
            ⟨y5.allocM hD4, upd_same⟩ ?_ ?_⟩
          · rintro k H3 hk ⟨z1, z2⟩
            rw [Int.zero_add]
            refine ⟨rfl, tyes (ifT rfl ?_)⟩
            refine ⟨_, rfl, _, rfl, log_small (by omega), _, _, rfl, rfl, text_fits (k := k) (by decide +kernel) (by omega), _, z2, ?_, z1.mut (y5.new hD4) (y5.newG hD4), ?_⟩
            · rw [List.length_map, List.length_range]
              exact Nat.lt_of_le_of_lt (m := 4) (by omega) (by decide)
            · rw [upd_same, List.range_succ, List.map_append]
              show some (HO.lst (_ ++ [V.str (("p" : Str) ++ dec (k : Int))])) = some (HO.lst (_ ++ [V.str (nm k)]))
              rw [nmp k hk]
          · rintro H3 ⟨z1, z2⟩
            have z3 := z1.fin (y5.new hD4) (y5.newG hD4) z2
            have m6 : Same (upd G' D3 (.lst ws)) (upd (upd G' D3 (.lst ws)) D4 (.lst ((List.range np).map fun p => V.str (nm p)))) := same_new (y5.newG hD4)
            refine ⟨_, rfl, _, rfl, (by show 3 ≤ sizeLine; decide), fun t ht => ?_⟩
            have z4 := z3.alloc (o := .tup [.ref D4, .ref rl, .ref D3]) ht
            have m7 := same_new (o := .tup [.ref D4, .ref rl, .ref D3]) (z3.newG ht)
            have m8 := m6.trans m7
            have m9 := m5.trans m8
            refine k _ _ _ ⟨np, R, M⟩ z4 O ⟨t, D4, rl, D3, rs, ws, rfl, upd_same, m7 _ _ upd_same, m9 _ _ (sg _ _ (s6 _ _ g6)), m8 _ _ upd_same, ?_, ?_⟩
            · exact Paired.mapP rows fun x p ⟨t, l, e, q1, q2⟩ => ⟨t, l, e, m9 _ _ (sg _ _ q1), m9 _ _ (sg _ _ q2)⟩
            · exact Paired.mapP y4 fun x p ⟨t, f, e, q1, q2⟩ => ⟨t, f, e, m9 _ _ q1, m9 _ _ q2⟩
end
end RimW

/-! The law's own defs: _law_told. -/
namespace RimW
open PySem PySem.Spec PyProof.Rows L2 Rim
open C8 (Cal pe_c pss_cut tCut)

/-- .. where the error's class is told by the reading -/
theorem call_isETg {X : Cx} {a D : Addr} {oe : Obj} {cls : Value} {d : Option Addr} {pn : List (Addr × Obj)} (T : ExcC X.K D) (hz : Zc cls d oe) (hf : ∃ vs, oe.data = .fields vs) :
    CallR (X.suite a ((a, oe) :: pn)) (.builtin "isinstance") (fun xs H Q => cls = .ref D ∧ d = none ∧ rIsET X.K D a xs H Q) := by
  intro pins st σ H xs us Q I r h
  obtain ⟨e1, e2, h⟩ := h
  subst e1
  subst e2
  exact call_isET T hz hf pins st σ H xs us Q I r h
theorem kit_two {K : PySem.W.Frag} {t a b : Value} (h1 : PySem.W.kitOne K t a = some false) (h2 : PySem.W.kitOne K t b = some false) : PySem.W.kitAny K t [a, b] = some false := by
  unfold PySem.W.kitAny
  rw [h1]
  show PySem.W.kitAny K t [b] = some false
  unfold PySem.W.kitAny
  rw [h2]
  rfl
theorem due_loose {N : Net} (h : ¬ N.Tied) : dueS N = "Loose" := by
  unfold dueS
  rw [tied_no h]
  rfl
theorem due_plane {N : Net} (h : N.Tied) (q : ¬ N.Flat) : dueS N = "NoPlane" := by
  unfold dueS
  rw [tied_yes h, flat_no q]
  rfl
theorem due_good {N : Net} (h : N.Tied) (q : N.Flat) : dueS N = "good" := by
  unfold dueS
  rw [tied_yes h, flat_yes q]
  rfl
abbrev spTold : Sp := spNet fun _ v N => v = .str (dueS N)

abbrev s_L_told : Stmt := top 40
theorem sc_L_told : FnScope ["_law_net", "e"] ["_law_net"] (defScope s_L_told) := ⟨rfl, rfl, rfl, by decide +kernel, rfl, by decide +kernel, by decide +kernel⟩
section
variable {P : Program} {w : World} {K : PySem.W.Frag} {mg : Str → Option Value} {base : Heap} {cNoNet cLoose cNoPlane : Addr}
theorem ok_L_told (T : Txt K mg) (TX : TxtX K mg cNoNet cLoose cNoPlane) (D : Dfn K mg "_law_told" s_L_told ["_law_net"]) (Cvet : CalX P w K mg base 4 "vet" (spVet cLoose cNoPlane)) : Cal P w K mg base 5 "_law_told" spTold [] := by
  obtain ⟨fv, fdv, psv, FV, mV, kV, bV⟩ := Cvet.ex
  refine cal_by D sc_L_told (fun vs H Q E h => ?_) (fun f cdv A outer s H vs Q E hr h => ?_)
  · obtain ⟨G, v, N, rfl, _⟩ := h
    rfl
  · obtain ⟨G, v, N, rfl, O, s0, hn, k⟩ := h
    refine ⟨_, pss_cons (ps_try_two (i := 1) (c1 := .ref cLoose) (c2 := .ref cNoPlane) (tb := fun W => tDrop (tCallS (spVet cLoose cNoPlane) (WE W) (tCons (tVar 0) tNil))) rfl rfl sc_L_told.nd rfl rfl ⟨rfl, by decide, Or.inl TX.gLoose⟩ ⟨rfl, by decide, Or.inl TX.gNoPlane⟩
        (fun W pn xe tk _ => pss_one (ps_expr (by exact (pe_callS FV hr rfl mV kV bV (fun σ => passAt tk σ) (by exact (pa_cons (pv 0) pa_nil))))))
        (fun a oe cls d pn hz hf => pss_one (ps_ret (pe_op op_mulS pe_str (pe_callTy call_int1 (by rfl) T.int (by decide +kernel) (pa_cons (pe_not (pe_callB (call_isETg TX.iL hz hf) (by rfl) T.isinstance (by decide +kernel)
          (pa_cons (pv 1) (pa_cons (pe_tup (pa_cons (pe_glob (v := .ref cNoNet) rfl TX.gNoNet rfl) (pa_cons (pe_glob (v := .ref cNoPlane) rfl TX.gNoPlane rfl) pa_nil))) pa_nil)))) pa_nil)))))
        (fun a oe cls d pn hz hf => pss_one (ps_ret (pe_op op_mulS pe_str (pe_callTy call_int1 (by rfl) T.int (by decide +kernel) (pa_cons (pe_not (pe_callB (call_isETg TX.iP hz hf) (by rfl) T.isinstance (by decide +kernel)
          (pa_cons (pv 1) (pa_cons (pe_tup (pa_cons (pe_glob (v := .ref cNoNet) rfl TX.gNoNet rfl) (pa_cons (pe_glob (v := .ref cLoose) rfl TX.gLoose rfl) pa_nil))) pa_nil)))) pa_nil))))))
      (pss_one (ps_ret pe_str)), ?_⟩
    refine ⟨_, rfl, G, v, N, rfl, O, s0, hn, fun t G1 H1 x => ?_, fun t q G1 H1 x => ?_, fun t q G1 H1 x => ?_⟩
    · refine .inl ⟨TX.eLL, fun a ha => ?_⟩
      refine ⟨_, rfl, (by show 2 ≤ sizeLine; decide), fun tp htp => ⟨rfl, rfl, tp, _, _, false, rfl, upd_same, .cons (.own _) (.cons (.own _) .nil), kit_two TX.sLN TX.sLP, false, rfl, .inr ⟨_, rfl, ?_⟩⟩⟩
      refine ⟨_, rfl, rfl, ?_⟩
      exact k _ _ _ (x.alloc htp) (congrArg V.str (due_loose t).symm)
    · refine .inr ⟨TX.ePL, TX.ePP, fun a ha => ?_⟩
      refine ⟨_, rfl, (by show 2 ≤ sizeLine; decide), fun tp htp => ⟨rfl, rfl, tp, _, _, false, rfl, upd_same, .cons (.own _) (.cons (.own _) .nil), kit_two TX.sPN TX.sPL, false, rfl, .inr ⟨_, rfl, ?_⟩⟩⟩
      refine ⟨_, rfl, rfl, ?_⟩
      exact k _ _ _ (x.alloc htp) (congrArg V.str (due_plane t q).symm)
    · exact k _ _ _ x (congrArg V.str (due_good t q).symm)
end
end RimW

/-! The law's own defs: law. -/
namespace RimW
open PySem PySem.Spec PyProof.Rows L2 Rim
open C8 (Cal pe_c pss_cut tCut)

def spLaw (K : PySem.W.Frag) : Sp := fun vs H Q _ => ∃ (a : Addr) (ns : List Int), vs = [.ref a] ∧ SqL K H a (ns.map V.int) ∧ ∀ H', Q (.bl true) H'
/-- a corner as a text and a number -/
def nmC (N : Net) (c : At) : Str × Int := (Net.pt N c.1, (c.2 : Int))
theorem cors_named {N : Net} {G H : Hp} (s : Same G H) : ∀ {xs : List V} {cs : List At}, IsCs (byName N) G xs cs → CorTs H xs (cs.map (nmC N))
  | _, _, .nil => .nil
  | _, _, .cons ⟨t, e, q⟩ r => .cons ⟨t, e, s _ _ q⟩ (cors_named s r)
theorem eqv_encs : ∀ cs : List (Str × Int), PyData.eqv (.list (cs.map encC)) (.list (cs.map encC)) = true := by
  have l : ∀ cs : List (Str × Int), PyData.eqvAll (cs.map encC) (cs.map encC) = true := by
    intro cs
    induction cs with
    | nil => simp [PyData.eqvAll]
    | cons c cs ih => simp [PyData.eqvAll, PyData.eqv, encC, ih]
  intro cs
  rw [PyData.eqv]
  exact l cs
theorem named_ok {N : Net} (O : N.Ok) {cs : List At} (h : ∀ c, c ∈ cs → c ∈ N.cors) : ∀ c, c ∈ cs.map (nmC N) → PyData.strOk c.1 = true := fun c hc => by
  obtain ⟨d, hd, rfl⟩ := List.mem_map.mp hc
  exact (pt_good O (mem_cors.mp (h d hd)).1).ok
theorem flat_take_len {α : Type} (l : List (List α)) (i : Nat) : (l.take i).flatten.length ≤ l.flatten.length := by
  have e : l.flatten.length = (l.take i).flatten.length + (l.drop i).flatten.length := by
    rw [← List.length_append, ← List.flatten_append, List.take_append_drop]
  omega

abbrev s_law : Stmt := top 41
theorem sc_law : FnScope ["_law_script", "_law_net", "_law_due_here", "_law_corners", "_law_region_here", "_law_every", "_law_point", "_law_wires", "_law_k"] ["_law_script"] (defScope s_law) := ⟨rfl, rfl, rfl, by decide +kernel, rfl, by decide +kernel, by decide +kernel⟩
section
variable {P : Program} {w : World} {K : PySem.W.Frag} {mg : Str → Option Value} {base : Heap}
theorem ok_law {f : Addr} {fd : FuncData} (T : Txt K mg) (F : Fun K "law" "law" s_law f fd) (C_law_any_net : Cal P w K mg base 3 "_law_any_net" (spAny K) []) (C_law_due : Cal P w K mg base 4 "_law_due" spLDue []) (C_law_told : Cal P w K mg base 5 "_law_told" spTold [])
    (C_law_copy : Cal P w K mg base 1 "_law_copy" spCopy []) (Cregions_of : Cal P w K mg base 4 "regions_of" spRegions []) : FnOk P w K mg base CX0 6 f fd ["_law_script"] (spLaw K) := by
  refine F.ok sc_law (fun vs H Q E h => ?_) (fun cdv A outer s H vs Q E hr h => ?_)
  · obtain ⟨a, ns, rfl, _⟩ := h
    rfl
  · obtain ⟨sa, ns, rfl, hq, k⟩ := h
    refine ⟨_, (pss_cons (ps_set (i := 1) sc_law.nd rfl (Or.inl rfl) (pe_c C_law_any_net hr (by decide) rfl (pa_cons (pv 0) pa_nil)))
       (pss_cons (ps_set (i := 2) sc_law.nd rfl (Or.inl rfl) (pe_c C_law_due hr (by decide) rfl (pa_cons (pv 1) pa_nil)))
       (pss_cons (ps_if (pt_cmpR op_ne (pe_c C_law_told hr (by decide) rfl (pa_cons (pe_c C_law_copy hr (by decide) rfl (pa_cons (pv 1) pa_nil)) pa_nil)) (pv 2) (nomark _)) (pss_one (ps_ret (pe_bl))) pss_nil)
       (pss_cons (ps_if (pt_cmpR op_ne (pv 2) (pe_str) (nomark _)) (pss_one (ps_ret (pe_bl))) pss_nil)
       (pss_cons (ps_set (i := 3) sc_law.nd rfl (Or.inl rfl) (pe_lst pa_nil))
       (pss_cons (ps_for PassesOwn.never rfl (pi_list (pe_c Cregions_of hr (by decide) rfl (pa_cons (pe_c C_law_copy hr (by decide) rfl (pa_cons (pv 1) pa_nil)) pa_nil))) (pg_name (i := 4) sc_law.nd rfl (Or.inl rfl)) (pss_one (ps_set (i := 3) sc_law.nd rfl (Or.inl rfl) (pe_op op_cat (pv 3) (pv 4)))))
       (pss_cons (ps_set (i := 5) sc_law.nd rfl (Or.inl rfl) (pe_lst pa_nil))
       (pss_cons (ps_for PassesOwn.never rfl (pi_list (pe_ix ix_tup (pv 1) (pe_int) (fun _ _ => rfl))) (pg_tup (by rfl) (pgs_cons (pg_name (i := 6) sc_law.nd rfl (Or.inr rfl)) (pgs_cons (pg_name (i := 7) sc_law.nd rfl (Or.inl rfl)) pgs_nil))) (pss_one (ps_set (i := 5) sc_law.nd rfl (Or.inl rfl) (pe_op op_cat (pv 5) (pe_lc (own := [("_law_k", 8)]) (g := gName 8) (by rfl) sc_law.nd (pi_range1 (by rfl) T.range (pa_cons (pe_op op_add (pe_callB call_len_seq (by rfl) T.len PySem.boot_len (pa_cons (pv 7) pa_nil)) (pe_callTy call_int1 (by rfl) T.int (by decide +kernel) (pa_cons (pe_cmpR op_in_seq (pv 6) (pe_ix ix_tup (pv 1) (pe_int) (fun _ _ => rfl)) (by rfl)) pa_nil))) pa_nil)) (blkOk_by (N := ["_law_script", "_law_net", "_law_due_here", "_law_corners", "_law_region_here", "_law_every", "_law_point", "_law_wires", "_law_k"]) (sc := defScope s_law) (by decide +kernel)) (fun _ _ _ _ _ => pg_name (i := 8) sc_law.nd rfl (Or.inl rfl)) (fun _ _ _ _ _ => pts_nil) (fun _ _ _ _ _ => (pe_tup (pa_cons (pv 6) (pa_cons (pv 8) pa_nil)))))))))
       (pss_one (ps_ret (pe_cmpR (op_eqD hr.units) (pe_callB (cr_sortedC hr.units) (by rfl) T.sorted (by decide +kernel) (pa_cons (pv 3) pa_nil)) (pe_callB (cr_sortedC hr.units) (by rfl) T.sorted (by decide +kernel) (pa_cons (pv 5) pa_nil)) (nomark _)))))))))))), ?_⟩
    refine ⟨_, rfl, H, sa, ns, rfl, Same.refl _, hq, fun G1 H1 v N x1 O hn => ?_⟩
    refine ⟨_, rfl, G1, v, N, rfl, O, x1.s, hn, ?_⟩
    rintro G2 H2 _ x2 rfl
    have x3 := x1.trans x2
    have hn3 := hn.mono x2.g
    refine ⟨_, rfl, G2, v, N, rfl, O, x3.s, hn3, fun G3 H3 v3 x4 hn4 => ?_⟩
    have x5 := x3.trans x4
    refine ⟨G3, v3, N, rfl, O, x5.s, hn4, ?_⟩
    rintro G4 H4 _ x6 rfl
    have x7 := x5.trans x6
    refine ⟨_, rfl, rfl, _, rfl, ifF (by rw [decide_eq_true rfl]; rfl) ?_⟩
    refine ⟨_, rfl, rfl, _, rfl, ifC (fun _ => k _) (fun _ => ?_)⟩
    have hn7 := hn3.mono (x4.g.trans x6.g)
    revert x7 hn7
    generalize G4 = Ga
    generalize H4 = Ha
    intro x7 hn7
    have n34 := cors_len O
    have perm := regs_perm O
    -- corners = []
    refine ⟨Nat.zero_le _, fun b0 hb0 => ?_⟩
    have x8 := x7.alloc (o := .lst []) hb0
    have m8 : Same Ga (upd Ga b0 (.lst [])) := same_new (x7.newG hb0)
    refine ⟨_, rfl, _, v, N, rfl, O, x8.s, hn7.mono m8, fun G9 H9 v9 x9 hn9 => ?_⟩
    refine ⟨G9, v9, N, rfl, O, (x8.trans x9).s, hn9, ?_⟩
    rintro G10 H10 _ x10 ⟨ra, ys, rfl, hra, hys⟩
    have x11 := (x8.trans x9).trans x10
    have m11 := m8.trans (x9.g.trans x10.g)
    have hb11 := (x9.g.trans x10.g) _ _ (upd_same (H := Ga) (a := b0) (o := .lst []))
    refine ⟨ra, rfl, ⟨_, SqL.of (x11.s _ _ hra)⟩, for_list (K := K) (a := ra) (xs := ys) (fun i σ H' => ∃ G' b xs v4, σ = [some (.ref sa), some v, some (.str (dueS N)), some (.ref b), v4, none, none, none, none] ∧ Ext H H G' H' ∧ Same G10 G' ∧
        G' b = some (.lst xs) ∧ IsCs (byName N) G' xs (N.regs.take i).flatten)
      ⟨G10, b0, [], none, rfl, x11, Same.refl _, hb11, .nil⟩ (fun i σ H' _ ⟨_, _, _, _, _, x, sg, _⟩ => SqL.of (x.s _ _ (sg _ _ hra))) ?_ ?_⟩
    · rintro i y σ H' hi ⟨G', b, xs, v4, rfl, x, sg, hb, hxs⟩
      obtain ⟨r, er, c, zs, rfl, hc, hzs⟩ := paired_at hys hi
      have er2 : (N.regs.take (i + 1)).flatten = (N.regs.take i).flatten ++ r := by rw [take_snoc er, flat_snoc]
      have tot : xs.length + zs.length ≤ 34 := by
        rw [hxs.len, IsCs.len hzs, ← List.length_append, ← er2]
        have := flat_take_len N.regs (i + 1)
        have := perm.length_eq
        omega
      refine ⟨_, rfl, _, rfl, b, c, xs, zs, rfl, rfl, x.s _ _ hb, x.s _ _ (sg _ _ hc), Nat.le_trans tot (by decide), fun p hp => ?_⟩
      have m : Same G' (upd G' p (.lst (xs ++ zs))) := same_new (x.newG hp)
      refine ⟨_, p, xs ++ zs, _, rfl, x.alloc hp, sg.trans m, upd_same, ?_⟩
      rw [er2]
      exact paired_app (hxs.mono m) (hzs.mono (sg.trans m))
    · rintro σ H' ⟨G', b, xs, v4, rfl, x, sg, hb, hxs⟩
      rw [Paired.length hys, List.take_length] at hxs
      obtain ⟨a, pl, rl, wl, rs, ws, rfl, ha, hpl, hrl, hwl, hrs, hws⟩ := ((hn7.mono m11).mono sg).ex
      have rlen : rs.length = N.R.length := by rw [Paired.length hrs, List.length_range]
      -- every = []
      refine ⟨Nat.zero_le _, fun e0 he0 => ?_⟩
      have y1 := x.alloc (o := .lst []) he0
      have m1 : Same G' (upd G' e0 (.lst [])) := same_new (x.newG he0)
      refine ⟨_, rfl, a, _, _, _, rfl, rfl, SqT.of (y1.s _ _ (m1 _ _ ha)), at_of (j := 1) rfl rfl, rl, rfl, ⟨_, SqL.of (y1.s _ _ (m1 _ _ hrl))⟩, for_list (K := K) (a := rl) (xs := rs)
        (fun i σ H2 => ∃ G2 e es v6 v7, σ = [some (.ref sa), some (.ref a), some (.str (dueS N)), some (.ref b), v4, some (.ref e), v6, v7, none] ∧ Ext H H G2 H2 ∧ Same G' G2 ∧ G2 e = some (.lst es) ∧ IsCs (byName N) G2 es (N.corsTo i))
        ⟨_, e0, [], none, none, rfl, y1, m1, upd_same, .nil⟩ (fun i σ H2 _ ⟨_, _, _, _, _, _, z, sz, _⟩ => SqL.of (z.s _ _ (sz _ _ hrl))) ?_ ?_⟩
      · rintro i y σ H2 hi ⟨G2, e, es, v6, v7, rfl, z, sz, he, hes⟩
        obtain ⟨p, ep, t, lw, rfl, ht, hlw⟩ := paired_at hrs hi
        obtain ⟨hlt, rfl⟩ := range_at ep
        have ccl := cc_le O p
        refine ⟨t, _, rfl, SqT.of (z.s _ _ (sz _ _ ht)), rfl, _, _, rfl, _, _, rfl, rfl, ?_⟩
        refine ⟨_, rfl, _, rfl, lw, _, rfl, .inl (SqL.of (z.s _ _ (sz _ _ hlw))), ?_⟩
        refine ⟨_, rfl, _, rfl, a, _, _, _, rfl, rfl, SqT.of (z.s _ _ (sz _ _ ha)), at_of (j := 0) rfl rfl, pl, _, rfl, .inl (SqL.of (z.s _ _ (sz _ _ hpl))), rfl, flat_posts, .inr ⟨_, rfl, ?_⟩⟩
        refine ⟨_, _, rfl, rfl, ?_⟩
        have ec : (((wiresV (N.row p)).length : Nat) : Int) + (if inV (V.str (Net.pt N p)) (postsV N) = true then 1 else 0) = ((N.cc p : Nat) : Int) := by
          rw [in_posts O hlt, ← cc_int O hlt]
          by_cases h : p < N.np
          · rw [decide_eq_true h, decide_eq_true (by omega)]
          · rw [decide_eq_false h, decide_eq_false (by omega)]
        refine ⟨(N.cc p : Nat), congrArg (fun z => [V.int z]) ec, by omega, by omega, fun B hB => lc_range (lo := 0) (n := N.cc p) (fun j H3 => ∃ G3 acc, Ext H H G3 H3 ∧ Same G2 G3 ∧ H3 B = some (.lst acc) ∧ G3 B = none ∧ acc.length = j ∧ IsCs (byName N) G3 acc ((List.range j).map fun k => (p, k)))
          ⟨G2, [], z.allocM hB, Same.refl _, upd_same, z.newG hB, rfl, .nil⟩ ?_ ?_⟩
        · rintro j H3 hj ⟨G3, acc, q, sq, q1, q2, q3, q4⟩
          rw [Int.zero_add]
          refine ⟨rfl, tyes (ifT rfl ?_)⟩
          refine ⟨_, rfl, _, rfl, (by show 2 ≤ sizeLine; decide), fun t2 ht2 => ⟨acc, up q1 ht2, Nat.lt_of_le_of_lt (m := 31) (by omega) (by decide), ?_⟩⟩
          refine ⟨_, _, (q.alloc ht2).mut (z.new hB) (gp q1 ht2 q2), sq.trans (same_new (q.newG ht2)), upd_same, gp q1 ht2 q2, by rw [List.length_append, q3]; rfl, ?_⟩
          rw [List.range_succ, List.map_append]
          exact paired_snoc (q4.mono (same_new (q.newG ht2))) ⟨t2, rfl, upd_same⟩
        · rintro H3 ⟨G3, acc, q, sq, q1, q2, q3, q4⟩
          have ep2 : N.corsTo (p + 1) = N.corsTo p ++ (List.range (N.cc p)).map fun k => (p, k) := corsTo_succ p
          have tot : es.length + acc.length ≤ 34 := by
            rw [hes.len, q4.len, ← List.length_append, ← ep2]
            refine Nat.le_trans ((corsTo_nd (p + 1)).length_le_of_subset fun c hc => ?_) n34
            obtain ⟨h1, h2⟩ := mem_corsTo.mp hc
            exact mem_corsTo.mpr ⟨by omega, h2⟩
          refine ⟨e, B, es, acc, rfl, rfl, q.s _ _ (sq _ _ he), q1, Nat.le_trans tot (by decide), fun u hu2 => ?_⟩
          have m : Same G3 (upd G3 u (.lst (es ++ acc))) := same_new (q.newG hu2)
          refine ⟨_, u, es ++ acc, _, _, rfl, q.alloc hu2, sz.trans (sq.trans m), upd_same, ?_⟩
          rw [ep2]
          exact paired_app (hes.mono (sq.trans m)) (q4.mono m)
      · rintro σ H2 ⟨G2, e, es, v6, v7, rfl, z, sz, he, hes⟩
        rw [rlen] at hes
        have hxs2 := hxs.mono sz
        have c1 := cors_named z.s hxs2
        have c2 := cors_named z.s hes
        have e12 : ((N.regs.flatten).map (nmC N)).mergeSort leC = (N.cors.map (nmC N)).mergeSort leC := sort_alike (perm.map (nmC N))
        refine ⟨_, rfl, b, xs, _, rfl, SqL.of (z.s _ _ (sz _ _ hb)), c1, fun us p1 hus hp1 => ?_⟩
        have n1 : Same H2 (upd H2 p1 (.lst us)) := same_new hp1
        refine ⟨_, rfl, e, es, _, rfl, SqL.of (n1 _ _ (z.s _ _ he)), CorTs.same n1 c2, fun vs p2 hvs hp2 => ?_⟩
        have n2 : Same (upd H2 p1 (.lst us)) (upd (upd H2 p1 (.lst us)) p2 (.lst vs)) := same_new hp2
        have ok1 : ∀ c, c ∈ (N.cors.map (nmC N)).mergeSort leC → PyData.strOk c.1 = true := fun c hc => named_ok O (fun c h => h) c ((List.mergeSort_perm _ _).mem_iff.mp hc)
        refine ⟨_, _, .lst (SqL.of (n2 _ _ upd_same)) (CorTs.dp (CorTs.same (n1.trans n2) hus)), .lst (SqL.of upd_same) (CorTs.dp (CorTs.same n2 hvs)), ?_, shaped_encs ok1, ?_⟩
        · rw [e12]
          exact shaped_encs ok1
        · rw [e12, eqv_encs]
          exact k _
end
end RimW

/-! What the top has written; the head. -/
namespace RimW
open PySem PySem.Spec PyProof.Rows L2 Rim
open C8 (Cal pe_c pss_cut tCut)

/-- an own class that is not above another: isinstance says no -/
theorem kit_not {K : PySem.W.Frag} {A B : Addr} (hA : PySem.W.subIn K (.ref A) (.ref A) = some true) (hd : PySem.W.hasDictIn K B = true) (ht : PySem.W.typeIn K (.ref B) = some (.type "type")) (no : PySem.W.subIn K (.ref A) (.ref B) = some false) :
    PySem.W.kitOne K (.ref A) (.ref B) = some false := by
  have ne : ¬ (Value.ref A == Value.ref B) = true := fun q => by
    have e : A = B := Value.ref.inj (beq_iff_eq.mp q)
    rw [e] at hA no
    rw [hA] at no
    cases no
  obtain ⟨cd, hc, _⟩ := PySem.W.any_some hd
  have e2 : ((PySem.W.clsIn K B).isSome && PySem.W.typeIn K (.ref B) == some (.type "type")) = true := by rw [hc, ht] <;> rfl
  unfold PySem.W.kitOne
  rw [if_neg ne]
  show (if ((PySem.W.clsIn K B).isSome && PySem.W.typeIn K (.ref B) == some (.type "type")) = true then PySem.W.subIn K (.ref A) (.ref B) else none) = some false
  rw [if_pos e2]
  exact no

theorem all_mk {l : PySem.W.OpenLaw} {w : World} {K : PySem.W.Frag} {h : Heap} {mg : Str → Option Value} {fa cNoNet cLoose cNoPlane : Addr} (X : K.In h) (G : h.Ns mainGlobals mg) (hfa : mg "law" = some (.ref fa))
    {f0 f1 f2 f3 f4 f5 f6 f7 f8 f9 f10 f11 f12 f13 f14 f15 f16 f17 f18 f19 f20 f21 f22 f23 f24 f25 f26 f27 f28 f29 : Addr} {od0 an0 od1 an1 od2 an2 od3 an3 od4 an4 od5 an5 od6 an6 od7 an7 od8 an8 od9 an9 od10 an10 od11 an11 od12 an12 od13 an13 od14 an14 od15 an15 od16 an16 od17 an17 od18 an18 od19 an19 od20 an20 od21 an21 od22 an22 od23 an23 od24 an24 od25 an25 od26 an26 od27 an27 od28 an28 od29 an29 : Option Addr} {sl0 sl1 sl2 sl3 sl4 sl5 sl6 sl7 sl8 sl9 sl10 sl11 sl12 sl13 sl14 sl15 sl16 sl17 sl18 sl19 sl20 sl21 sl22 sl23 sl24 sl25 sl26 sl27 sl28 sl29 : Array (Option Value)}
    {oc0 kV0 dc0 pm0 cd0 ct0 oc1 kV1 dc1 pm1 cd1 ct1 oc2 kV2 dc2 pm2 cd2 ct2 oc3 kV3 dc3 pm3 cd3 ct3 oc4 kV4 dc4 pm4 cd4 ct4 oc5 kV5 dc5 pm5 cd5 ct5 oc6 kV6 dc6 pm6 cd6 ct6 oc7 kV7 dc7 pm7 cd7 ct7 oc8 kV8 dc8 pm8 cd8 ct8 oc9 kV9 dc9 pm9 cd9 ct9 oc10 kV10 dc10 pm10 cd10 ct10 oc11 kV11 dc11 pm11 cd11 ct11 oc12 kV12 dc12 pm12 cd12 ct12 oc13 kV13 dc13 pm13 cd13 ct13 oc14 kV14 dc14 pm14 cd14 ct14 oc15 kV15 dc15 pm15 cd15 ct15 oc16 kV16 dc16 pm16 cd16 ct16 oc17 kV17 dc17 pm17 cd17 ct17 oc18 kV18 dc18 pm18 cd18 ct18 oc19 kV19 dc19 pm19 cd19 ct19 oc20 kV20 dc20 pm20 cd20 ct20 oc21 kV21 dc21 pm21 cd21 ct21 oc22 kV22 dc22 pm22 cd22 ct22 oc23 kV23 dc23 pm23 cd23 ct23 oc24 kV24 dc24 pm24 cd24 ct24 oc25 kV25 dc25 pm25 cd25 ct25 oc26 kV26 dc26 pm26 cd26 ct26 oc27 kV27 dc27 pm27 cd27 ct27 oc28 kV28 dc28 pm28 cd28 ct28 oc29 kV29 dc29 pm29 cd29 ct29 : Value} {tS tL : Tok}
    (a0 : PySem.W.nsIn K mainGlobals "common" = some (some (.ref f0))) (l0 : K.lookup f0 = some ⟨oc0, od0, .func (PySem.W.fnOf "common" "common" (defArgs s_common) (defBody s_common) (defScope s_common) .none kV0 dc0 pm0 an0 cd0 ct0), sl0⟩) (c0 : PySem.W.codeIn K cd0 "common" = true) (k0 : PySem.W.keepIn K (.ref f0) = true)
    (a1 : PySem.W.nsIn K mainGlobals "is_whole" = some (some (.ref f1))) (l1 : K.lookup f1 = some ⟨oc1, od1, .func (PySem.W.fnOf "is_whole" "is_whole" (defArgs s_is_whole) (defBody s_is_whole) (defScope s_is_whole) .none kV1 dc1 pm1 an1 cd1 ct1), sl1⟩) (c1 : PySem.W.codeIn K cd1 "is_whole" = true) (k1 : PySem.W.keepIn K (.ref f1) = true)
    (a2 : PySem.W.nsIn K mainGlobals "is_worth" = some (some (.ref f2))) (l2 : K.lookup f2 = some ⟨oc2, od2, .func (PySem.W.fnOf "is_worth" "is_worth" (defArgs s_is_worth) (defBody s_is_worth) (defScope s_is_worth) .none kV2 dc2 pm2 an2 cd2 ct2), sl2⟩) (c2 : PySem.W.codeIn K cd2 "is_worth" = true) (k2 : PySem.W.keepIn K (.ref f2) = true)
    (a3 : PySem.W.nsIn K mainGlobals "is_name" = some (some (.ref f3))) (l3 : K.lookup f3 = some ⟨oc3, od3, .func (PySem.W.fnOf "is_name" "is_name" (defArgs s_is_name) (defBody s_is_name) (defScope s_is_name) .none kV3 dc3 pm3 an3 cd3 ct3), sl3⟩) (c3 : PySem.W.codeIn K cd3 "is_name" = true) (k3 : PySem.W.keepIn K (.ref f3) = true)
    (a4 : PySem.W.nsIn K mainGlobals "are_names" = some (some (.ref f4))) (l4 : K.lookup f4 = some ⟨oc4, od4, .func (PySem.W.fnOf "are_names" "are_names" (defArgs s_are_names) (defBody s_are_names) (defScope s_are_names) .none kV4 dc4 pm4 an4 cd4 ct4), sl4⟩) (c4 : PySem.W.codeIn K cd4 "are_names" = true) (k4 : PySem.W.keepIn K (.ref f4) = true)
    (a5 : PySem.W.nsIn K mainGlobals "turns_of" = some (some (.ref f5))) (l5 : K.lookup f5 = some ⟨oc5, od5, .func (PySem.W.fnOf "turns_of" "turns_of" (defArgs s_turns_of) (defBody s_turns_of) (defScope s_turns_of) .none kV5 dc5 pm5 an5 cd5 ct5), sl5⟩) (c5 : PySem.W.codeIn K cd5 "turns_of" = true) (k5 : PySem.W.keepIn K (.ref f5) = true)
    (a6 : PySem.W.nsIn K mainGlobals "mates_of" = some (some (.ref f6))) (l6 : K.lookup f6 = some ⟨oc6, od6, .func (PySem.W.fnOf "mates_of" "mates_of" (defArgs s_mates_of) (defBody s_mates_of) (defScope s_mates_of) .none kV6 dc6 pm6 an6 cd6 ct6), sl6⟩) (c6 : PySem.W.codeIn K cd6 "mates_of" = true) (k6 : PySem.W.keepIn K (.ref f6) = true)
    (a7 : PySem.W.nsIn K mainGlobals "corner_count" = some (some (.ref f7))) (l7 : K.lookup f7 = some ⟨oc7, od7, .func (PySem.W.fnOf "corner_count" "corner_count" (defArgs s_corner_count) (defBody s_corner_count) (defScope s_corner_count) .none kV7 dc7 pm7 an7 cd7 ct7), sl7⟩) (c7 : PySem.W.codeIn K cd7 "corner_count" = true) (k7 : PySem.W.keepIn K (.ref f7) = true)
    (a8 : PySem.W.nsIn K mainGlobals "corners_of" = some (some (.ref f8))) (l8 : K.lookup f8 = some ⟨oc8, od8, .func (PySem.W.fnOf "corners_of" "corners_of" (defArgs s_corners_of) (defBody s_corners_of) (defScope s_corners_of) .none kV8 dc8 pm8 an8 cd8 ct8), sl8⟩) (c8 : PySem.W.codeIn K cd8 "corners_of" = true) (k8 : PySem.W.keepIn K (.ref f8) = true)
    (a9 : PySem.W.nsIn K mainGlobals "corner_behind" = some (some (.ref f9))) (l9 : K.lookup f9 = some ⟨oc9, od9, .func (PySem.W.fnOf "corner_behind" "corner_behind" (defArgs s_corner_behind) (defBody s_corner_behind) (defScope s_corner_behind) .none kV9 dc9 pm9 an9 cd9 ct9), sl9⟩) (c9 : PySem.W.codeIn K cd9 "corner_behind" = true) (k9 : PySem.W.keepIn K (.ref f9) = true)
    (a10 : PySem.W.nsIn K mainGlobals "region_from" = some (some (.ref f10))) (l10 : K.lookup f10 = some ⟨oc10, od10, .func (PySem.W.fnOf "region_from" "region_from" (defArgs s_region_from) (defBody s_region_from) (defScope s_region_from) .none kV10 dc10 pm10 an10 cd10 ct10), sl10⟩) (c10 : PySem.W.codeIn K cd10 "region_from" = true) (k10 : PySem.W.keepIn K (.ref f10) = true)
    (a11 : PySem.W.nsIn K mainGlobals "all_regions" = some (some (.ref f11))) (l11 : K.lookup f11 = some ⟨oc11, od11, .func (PySem.W.fnOf "all_regions" "all_regions" (defArgs s_all_regions) (defBody s_all_regions) (defScope s_all_regions) .none kV11 dc11 pm11 an11 cd11 ct11), sl11⟩) (c11 : PySem.W.codeIn K cd11 "all_regions" = true) (k11 : PySem.W.keepIn K (.ref f11) = true)
    (a12 : PySem.W.nsIn K mainGlobals "hanging_points" = some (some (.ref f12))) (l12 : K.lookup f12 = some ⟨oc12, od12, .func (PySem.W.fnOf "hanging_points" "hanging_points" (defArgs s_hanging_points) (defBody s_hanging_points) (defScope s_hanging_points) .none kV12 dc12 pm12 an12 cd12 ct12), sl12⟩) (c12 : PySem.W.codeIn K cd12 "hanging_points" = true) (k12 : PySem.W.keepIn K (.ref f12) = true)
    (a13 : PySem.W.nsIn K mainGlobals "are_rows" = some (some (.ref f13))) (l13 : K.lookup f13 = some ⟨oc13, od13, .func (PySem.W.fnOf "are_rows" "are_rows" (defArgs s_are_rows) (defBody s_are_rows) (defScope s_are_rows) .none kV13 dc13 pm13 an13 cd13 ct13), sl13⟩) (c13 : PySem.W.codeIn K cd13 "are_rows" = true) (k13 : PySem.W.keepIn K (.ref f13) = true)
    (a14 : PySem.W.nsIn K mainGlobals "are_wires" = some (some (.ref f14))) (l14 : K.lookup f14 = some ⟨oc14, od14, .func (PySem.W.fnOf "are_wires" "are_wires" (defArgs s_are_wires) (defBody s_are_wires) (defScope s_are_wires) .none kV14 dc14 pm14 an14 cd14 ct14), sl14⟩) (c14 : PySem.W.codeIn K cd14 "are_wires" = true) (k14 : PySem.W.keepIn K (.ref f14) = true)
    (a15 : PySem.W.nsIn K mainGlobals "vet" = some (some (.ref f15))) (l15 : K.lookup f15 = some ⟨oc15, od15, .func (PySem.W.fnOf "vet" "vet" (defArgs s_vet) (defBody s_vet) (defScope s_vet) .none kV15 dc15 pm15 an15 cd15 ct15), sl15⟩) (c15 : PySem.W.codeIn K cd15 "vet" = true) (k15 : PySem.W.keepIn K (.ref f15) = true)
    (a16 : PySem.W.nsIn K mainGlobals "regions_of" = some (some (.ref f16))) (l16 : K.lookup f16 = some ⟨oc16, od16, .func (PySem.W.fnOf "regions_of" "regions_of" (defArgs s_regions_of) (defBody s_regions_of) (defScope s_regions_of) .none kV16 dc16 pm16 an16 cd16 ct16), sl16⟩) (c16 : PySem.W.codeIn K cd16 "regions_of" = true) (k16 : PySem.W.keepIn K (.ref f16) = true)
    (a17 : PySem.W.nsIn K mainGlobals "_law_cell_at" = some (some (.ref f17))) (l17 : K.lookup f17 = some ⟨oc17, od17, .func (PySem.W.fnOf "_law_cell_at" "_law_cell_at" (defArgs s_L_cell_at) (defBody s_L_cell_at) (defScope s_L_cell_at) .none kV17 dc17 pm17 an17 cd17 ct17), sl17⟩) (c17 : PySem.W.codeIn K cd17 "_law_cell_at" = true) (k17 : PySem.W.keepIn K (.ref f17) = true)
    (a18 : PySem.W.nsIn K mainGlobals "_law_big" = some (some (.ref f18))) (l18 : K.lookup f18 = some ⟨oc18, od18, .func (PySem.W.fnOf "_law_big" "_law_big" (defArgs s_L_big) (defBody s_L_big) (defScope s_L_big) .none kV18 dc18 pm18 an18 cd18 ct18), sl18⟩) (c18 : PySem.W.codeIn K cd18 "_law_big" = true) (k18 : PySem.W.keepIn K (.ref f18) = true)
    (a19 : PySem.W.nsIn K mainGlobals "_law_mates" = some (some (.ref f19))) (l19 : K.lookup f19 = some ⟨oc19, od19, .func (PySem.W.fnOf "_law_mates" "_law_mates" (defArgs s_L_mates) (defBody s_L_mates) (defScope s_L_mates) .none kV19 dc19 pm19 an19 cd19 ct19), sl19⟩) (c19 : PySem.W.codeIn K cd19 "_law_mates" = true) (k19 : PySem.W.keepIn K (.ref f19) = true)
    (a20 : PySem.W.nsIn K mainGlobals "_law_corner_behind" = some (some (.ref f20))) (l20 : K.lookup f20 = some ⟨oc20, od20, .func (PySem.W.fnOf "_law_corner_behind" "_law_corner_behind" (defArgs s_L_corner_behind) (defBody s_L_corner_behind) (defScope s_L_corner_behind) .none kV20 dc20 pm20 an20 cd20 ct20), sl20⟩) (c20 : PySem.W.codeIn K cd20 "_law_corner_behind" = true) (k20 : PySem.W.keepIn K (.ref f20) = true)
    (a21 : PySem.W.nsIn K mainGlobals "_law_region" = some (some (.ref f21))) (l21 : K.lookup f21 = some ⟨oc21, od21, .func (PySem.W.fnOf "_law_region" "_law_region" (defArgs s_L_region) (defBody s_L_region) (defScope s_L_region) .none kV21 dc21 pm21 an21 cd21 ct21), sl21⟩) (c21 : PySem.W.codeIn K cd21 "_law_region" = true) (k21 : PySem.W.keepIn K (.ref f21) = true)
    (a22 : PySem.W.nsIn K mainGlobals "_law_copy" = some (some (.ref f22))) (l22 : K.lookup f22 = some ⟨oc22, od22, .func (PySem.W.fnOf "_law_copy" "_law_copy" (defArgs s_L_copy) (defBody s_L_copy) (defScope s_L_copy) .none kV22 dc22 pm22 an22 cd22 ct22), sl22⟩) (c22 : PySem.W.codeIn K cd22 "_law_copy" = true) (k22 : PySem.W.keepIn K (.ref f22) = true)
    (a23 : PySem.W.nsIn K mainGlobals "_law_turns" = some (some (.ref f23))) (l23 : K.lookup f23 = some ⟨oc23, od23, .func (PySem.W.fnOf "_law_turns" "_law_turns" (defArgs s_L_turns) (defBody s_L_turns) (defScope s_L_turns) .none kV23 dc23 pm23 an23 cd23 ct23), sl23⟩) (c23 : PySem.W.codeIn K cd23 "_law_turns" = true) (k23 : PySem.W.keepIn K (.ref f23) = true)
    (a24 : PySem.W.nsIn K mainGlobals "_law_regions" = some (some (.ref f24))) (l24 : K.lookup f24 = some ⟨oc24, od24, .func (PySem.W.fnOf "_law_regions" "_law_regions" (defArgs s_L_regions) (defBody s_L_regions) (defScope s_L_regions) .none kV24 dc24 pm24 an24 cd24 ct24), sl24⟩) (c24 : PySem.W.codeIn K cd24 "_law_regions" = true) (k24 : PySem.W.keepIn K (.ref f24) = true)
    (a25 : PySem.W.nsIn K mainGlobals "_law_any_net" = some (some (.ref f25))) (l25 : K.lookup f25 = some ⟨oc25, od25, .func (PySem.W.fnOf "_law_any_net" "_law_any_net" (defArgs s_L_any_net) (defBody s_L_any_net) (defScope s_L_any_net) .none kV25 dc25 pm25 an25 cd25 ct25), sl25⟩) (c25 : PySem.W.codeIn K cd25 "_law_any_net" = true) (k25 : PySem.W.keepIn K (.ref f25) = true)
    (a26 : PySem.W.nsIn K mainGlobals "_law_hang" = some (some (.ref f26))) (l26 : K.lookup f26 = some ⟨oc26, od26, .func (PySem.W.fnOf "_law_hang" "_law_hang" (defArgs s_L_hang) (defBody s_L_hang) (defScope s_L_hang) .none kV26 dc26 pm26 an26 cd26 ct26), sl26⟩) (c26 : PySem.W.codeIn K cd26 "_law_hang" = true) (k26 : PySem.W.keepIn K (.ref f26) = true)
    (a27 : PySem.W.nsIn K mainGlobals "_law_due" = some (some (.ref f27))) (l27 : K.lookup f27 = some ⟨oc27, od27, .func (PySem.W.fnOf "_law_due" "_law_due" (defArgs s_L_due) (defBody s_L_due) (defScope s_L_due) .none kV27 dc27 pm27 an27 cd27 ct27), sl27⟩) (c27 : PySem.W.codeIn K cd27 "_law_due" = true) (k27 : PySem.W.keepIn K (.ref f27) = true)
    (a28 : PySem.W.nsIn K mainGlobals "_law_told" = some (some (.ref f28))) (l28 : K.lookup f28 = some ⟨oc28, od28, .func (PySem.W.fnOf "_law_told" "_law_told" (defArgs s_L_told) (defBody s_L_told) (defScope s_L_told) .none kV28 dc28 pm28 an28 cd28 ct28), sl28⟩) (c28 : PySem.W.codeIn K cd28 "_law_told" = true) (k28 : PySem.W.keepIn K (.ref f28) = true)
    (a29 : PySem.W.nsIn K mainGlobals "law" = some (some (.ref f29))) (l29 : K.lookup f29 = some ⟨oc29, od29, .func (PySem.W.fnOf "law" "law" (defArgs s_law) (defBody s_law) (defScope s_law) .none kV29 dc29 pm29 an29 cd29 ct29), sl29⟩) (c29 : PySem.W.codeIn K cd29 "law" = true) (k29 : PySem.W.keepIn K (.ref f29) = true)
    (zlen : PySem.W.nsIn K mainGlobals "len" = some none)
    (zlist : PySem.W.nsIn K mainGlobals "list" = some none)
    (zrange : PySem.W.nsIn K mainGlobals "range" = some none)
    (zenumerate : PySem.W.nsIn K mainGlobals "enumerate" = some none)
    (zint : PySem.W.nsIn K mainGlobals "int" = some none)
    (zstr : PySem.W.nsIn K mainGlobals "str" = some none)
    (zbool : PySem.W.nsIn K mainGlobals "bool" = some none)
    (ztuple : PySem.W.nsIn K mainGlobals "tuple" = some none)
    (zset : PySem.W.nsIn K mainGlobals "set" = some none)
    (zsorted : PySem.W.nsIn K mainGlobals "sorted" = some none)
    (zisinstance : PySem.W.nsIn K mainGlobals "isinstance" = some none)
    (aS : PySem.W.nsIn K mainGlobals "SIGNS" = some (some (.str signs tS))) (aL : PySem.W.nsIn K mainGlobals "LONGEST" = some (some (.int 8 tL)))
    (gNoNet : PySem.W.nsIn K mainGlobals "NoNet" = some (some (.ref cNoNet)))
    (xNoNet : PySem.W.excIn K cNoNet [.type "ValueError", .type "Exception", .type "BaseException", .type "object"] "ValueError.__new__" = true) (kNoNet : PySem.W.keepIn K (.ref cNoNet) = true) (bNoNet : PySem.W.subIn K (.ref cNoNet) (.type "BaseException") = some true) (tNoNet : PySem.W.typeIn K (.ref cNoNet) = some (.type "type"))
    (gLoose : PySem.W.nsIn K mainGlobals "Loose" = some (some (.ref cLoose)))
    (xLoose : PySem.W.excIn K cLoose [.type "ValueError", .type "Exception", .type "BaseException", .type "object"] "ValueError.__new__" = true) (kLoose : PySem.W.keepIn K (.ref cLoose) = true) (bLoose : PySem.W.subIn K (.ref cLoose) (.type "BaseException") = some true) (tLoose : PySem.W.typeIn K (.ref cLoose) = some (.type "type"))
    (gNoPlane : PySem.W.nsIn K mainGlobals "NoPlane" = some (some (.ref cNoPlane)))
    (xNoPlane : PySem.W.excIn K cNoPlane [.type "ValueError", .type "Exception", .type "BaseException", .type "object"] "ValueError.__new__" = true) (kNoPlane : PySem.W.keepIn K (.ref cNoPlane) = true) (bNoPlane : PySem.W.subIn K (.ref cNoPlane) (.type "BaseException") = some true) (tNoPlane : PySem.W.typeIn K (.ref cNoPlane) = some (.type "type"))
    (uLL : PySem.W.subIn K (.ref cLoose) (.ref cLoose) = some true) (uPL : PySem.W.subIn K (.ref cNoPlane) (.ref cLoose) = some false) (uPP : PySem.W.subIn K (.ref cNoPlane) (.ref cNoPlane) = some true)
    (gaLoose : PySem.W.findIn K (.ref cLoose) "__getattribute__" = some (some (.builtin "BaseException.__getattribute__"))) (ggLoose : PySem.W.findIn K (.ref cLoose) "__getattr__" = some none) (hdLoose : PySem.W.hasDictIn K cLoose = true) (clLoose : PySem.W.findIn K (.ref cLoose) "__class__" = some (some (.builtin "object.__class__"))) (moLoose : PySem.W.mroIn K cLoose (.type "object") = some true)
    (gaNoPlane : PySem.W.findIn K (.ref cNoPlane) "__getattribute__" = some (some (.builtin "BaseException.__getattribute__"))) (ggNoPlane : PySem.W.findIn K (.ref cNoPlane) "__getattr__" = some none) (hdNoPlane : PySem.W.hasDictIn K cNoPlane = true) (clNoPlane : PySem.W.findIn K (.ref cNoPlane) "__class__" = some (some (.builtin "object.__class__"))) (moNoPlane : PySem.W.mroIn K cNoPlane (.type "object") = some true)
    (sp : PySem.W.specialIn K (.builtin "object.__class__") "__get__" = some (some (.builtin "getset_descriptor.__get__"))) (tk : PySem.W.takesIn K (.builtin "object.__class__") = some true)
    (uLN : PySem.W.subIn K (.ref cLoose) (.ref cNoNet) = some false)
    (uLP : PySem.W.subIn K (.ref cLoose) (.ref cNoPlane) = some false)
    (uPN : PySem.W.subIn K (.ref cNoPlane) (.ref cNoNet) = some false)
    (hdNoNet : PySem.W.hasDictIn K cNoNet = true) :
    ∃ fd : FuncData, (∀ (s : Shared) (v : Value), BindsTo s fd ⟨[v], []⟩ [("_law_script", v)]) ∧ ∀ base : Heap, K.In base → base.Ns mainGlobals mg → FnOk l.prog w K mg base CX0 6 fa fd ["_law_script"] (spLaw K) := by
  have e := hfa.symm.trans (PySem.W.mg_of X G a29)
  cases e
  have T : Txt K mg := ⟨PySem.W.mg_none_of X G zlen, PySem.W.mg_none_of X G zlist, PySem.W.mg_none_of X G zrange, PySem.W.mg_none_of X G zenumerate, PySem.W.mg_none_of X G zint, PySem.W.mg_none_of X G zstr, PySem.W.mg_none_of X G zbool, PySem.W.mg_none_of X G ztuple, PySem.W.mg_none_of X G zset, PySem.W.mg_none_of X G zsorted, PySem.W.mg_none_of X G zisinstance, ⟨_, PySem.W.mg_of X G aS⟩, ⟨_, PySem.W.mg_of X G aL⟩⟩
  have TX : TxtX K mg cNoNet cLoose cNoPlane := ⟨PySem.W.mg_of X G gNoNet, PySem.W.mg_of X G gLoose, PySem.W.mg_of X G gNoPlane, xNoNet, xLoose, xNoPlane, kNoNet, kLoose, kNoPlane, bNoNet, bLoose, bNoPlane, tNoNet, tLoose, tNoPlane, PySem.W.exm_ref bLoose hdLoose tLoose uLL, PySem.W.exm_ref bLoose hdLoose tLoose uPL, PySem.W.exm_ref bNoPlane hdNoPlane tNoPlane uPP, ⟨gaLoose, ggLoose, bLoose, hdLoose, clLoose, sp, tk, moLoose⟩, ⟨gaNoPlane, ggNoPlane, bNoPlane, hdNoPlane, clNoPlane, sp, tk, moNoPlane⟩, kit_not uLL hdNoNet tNoNet uLN, kit_not uLL hdNoPlane tNoPlane uLP, kit_not uPP hdNoNet tNoNet uPN, kit_not uPP hdLoose tLoose uPL⟩
  have D_common : Dfn K mg "common" s_common ["one", "other"] := ⟨_, _, fun_mk (st := s_common) l0 c0 k0, PySem.W.mg_of X G a0, (fun_mk (st := s_common) l0 c0 k0).binds fun _ _ _ _ _ _ us hl => match us, hl with | [_, _], _ => rfl⟩
  have D_is_whole : Dfn K mg "is_whole" s_is_whole ["thing"] := ⟨_, _, fun_mk (st := s_is_whole) l1 c1 k1, PySem.W.mg_of X G a1, (fun_mk (st := s_is_whole) l1 c1 k1).binds fun _ _ _ _ _ _ us hl => match us, hl with | [_], _ => rfl⟩
  have D_is_worth : Dfn K mg "is_worth" s_is_worth ["thing"] := ⟨_, _, fun_mk (st := s_is_worth) l2 c2 k2, PySem.W.mg_of X G a2, (fun_mk (st := s_is_worth) l2 c2 k2).binds fun _ _ _ _ _ _ us hl => match us, hl with | [_], _ => rfl⟩
  have D_is_name : Dfn K mg "is_name" s_is_name ["thing"] := ⟨_, _, fun_mk (st := s_is_name) l3 c3 k3, PySem.W.mg_of X G a3, (fun_mk (st := s_is_name) l3 c3 k3).binds fun _ _ _ _ _ _ us hl => match us, hl with | [_], _ => rfl⟩
  have D_are_names : Dfn K mg "are_names" s_are_names ["things"] := ⟨_, _, fun_mk (st := s_are_names) l4 c4 k4, PySem.W.mg_of X G a4, (fun_mk (st := s_are_names) l4 c4 k4).binds fun _ _ _ _ _ _ us hl => match us, hl with | [_], _ => rfl⟩
  have D_turns_of : Dfn K mg "turns_of" s_turns_of ["net"] := ⟨_, _, fun_mk (st := s_turns_of) l5 c5 k5, PySem.W.mg_of X G a5, (fun_mk (st := s_turns_of) l5 c5 k5).binds fun _ _ _ _ _ _ us hl => match us, hl with | [_], _ => rfl⟩
  have D_mates_of : Dfn K mg "mates_of" s_mates_of ["turns"] := ⟨_, _, fun_mk (st := s_mates_of) l6 c6 k6, PySem.W.mg_of X G a6, (fun_mk (st := s_mates_of) l6 c6 k6).binds fun _ _ _ _ _ _ us hl => match us, hl with | [_], _ => rfl⟩
  have D_corner_count : Dfn K mg "corner_count" s_corner_count ["posts", "turns", "point"] := ⟨_, _, fun_mk (st := s_corner_count) l7 c7 k7, PySem.W.mg_of X G a7, (fun_mk (st := s_corner_count) l7 c7 k7).binds fun _ _ _ _ _ _ us hl => match us, hl with | [_, _, _], _ => rfl⟩
  have D_corners_of : Dfn K mg "corners_of" s_corners_of ["net"] := ⟨_, _, fun_mk (st := s_corners_of) l8 c8 k8, PySem.W.mg_of X G a8, (fun_mk (st := s_corners_of) l8 c8 k8).binds fun _ _ _ _ _ _ us hl => match us, hl with | [_], _ => rfl⟩
  have D_corner_behind : Dfn K mg "corner_behind" s_corner_behind ["posts", "turns", "mates", "corner"] := ⟨_, _, fun_mk (st := s_corner_behind) l9 c9 k9, PySem.W.mg_of X G a9, (fun_mk (st := s_corner_behind) l9 c9 k9).binds fun _ _ _ _ _ _ us hl => match us, hl with | [_, _, _, _], _ => rfl⟩
  have D_region_from : Dfn K mg "region_from" s_region_from ["posts", "turns", "mates", "corner"] := ⟨_, _, fun_mk (st := s_region_from) l10 c10 k10, PySem.W.mg_of X G a10, (fun_mk (st := s_region_from) l10 c10 k10).binds fun _ _ _ _ _ _ us hl => match us, hl with | [_, _, _, _], _ => rfl⟩
  have D_all_regions : Dfn K mg "all_regions" s_all_regions ["net"] := ⟨_, _, fun_mk (st := s_all_regions) l11 c11 k11, PySem.W.mg_of X G a11, (fun_mk (st := s_all_regions) l11 c11 k11).binds fun _ _ _ _ _ _ us hl => match us, hl with | [_], _ => rfl⟩
  have D_hanging_points : Dfn K mg "hanging_points" s_hanging_points ["net"] := ⟨_, _, fun_mk (st := s_hanging_points) l12 c12 k12, PySem.W.mg_of X G a12, (fun_mk (st := s_hanging_points) l12 c12 k12).binds fun _ _ _ _ _ _ us hl => match us, hl with | [_], _ => rfl⟩
  have D_are_rows : Dfn K mg "are_rows" s_are_rows ["net"] := ⟨_, _, fun_mk (st := s_are_rows) l13 c13 k13, PySem.W.mg_of X G a13, (fun_mk (st := s_are_rows) l13 c13 k13).binds fun _ _ _ _ _ _ us hl => match us, hl with | [_], _ => rfl⟩
  have D_are_wires : Dfn K mg "are_wires" s_are_wires ["net"] := ⟨_, _, fun_mk (st := s_are_wires) l14 c14 k14, PySem.W.mg_of X G a14, (fun_mk (st := s_are_wires) l14 c14 k14).binds fun _ _ _ _ _ _ us hl => match us, hl with | [_], _ => rfl⟩
  have D_vet : Dfn K mg "vet" s_vet ["net"] := ⟨_, _, fun_mk (st := s_vet) l15 c15 k15, PySem.W.mg_of X G a15, (fun_mk (st := s_vet) l15 c15 k15).binds fun _ _ _ _ _ _ us hl => match us, hl with | [_], _ => rfl⟩
  have D_regions_of : Dfn K mg "regions_of" s_regions_of ["net"] := ⟨_, _, fun_mk (st := s_regions_of) l16 c16 k16, PySem.W.mg_of X G a16, (fun_mk (st := s_regions_of) l16 c16 k16).binds fun _ _ _ _ _ _ us hl => match us, hl with | [_], _ => rfl⟩
  have D_L_cell_at : Dfn K mg "_law_cell_at" s_L_cell_at ["_law_script", "_law_k"] := ⟨_, _, fun_mk (st := s_L_cell_at) l17 c17 k17, PySem.W.mg_of X G a17, (fun_mk (st := s_L_cell_at) l17 c17 k17).binds fun _ _ _ _ _ _ us hl => match us, hl with | [_, _], _ => rfl⟩
  have D_L_big : Dfn K mg "_law_big" s_L_big ["_law_script", "_law_at"] := ⟨_, _, fun_mk (st := s_L_big) l18 c18 k18, PySem.W.mg_of X G a18, (fun_mk (st := s_L_big) l18 c18 k18).binds fun _ _ _ _ _ _ us hl => match us, hl with | [_, _], _ => rfl⟩
  have D_L_mates : Dfn K mg "_law_mates" s_L_mates ["_law_turns_here"] := ⟨_, _, fun_mk (st := s_L_mates) l19 c19 k19, PySem.W.mg_of X G a19, (fun_mk (st := s_L_mates) l19 c19 k19).binds fun _ _ _ _ _ _ us hl => match us, hl with | [_], _ => rfl⟩
  have D_L_corner_behind : Dfn K mg "_law_corner_behind" s_L_corner_behind ["_law_turns_here", "_law_posts", "_law_mates_here", "_law_corner"] := ⟨_, _, fun_mk (st := s_L_corner_behind) l20 c20 k20, PySem.W.mg_of X G a20, (fun_mk (st := s_L_corner_behind) l20 c20 k20).binds fun _ _ _ _ _ _ us hl => match us, hl with | [_, _, _, _], _ => rfl⟩
  have D_L_region : Dfn K mg "_law_region" s_L_region ["_law_turns_here", "_law_posts", "_law_mates_here", "_law_corner"] := ⟨_, _, fun_mk (st := s_L_region) l21 c21 k21, PySem.W.mg_of X G a21, (fun_mk (st := s_L_region) l21 c21 k21).binds fun _ _ _ _ _ _ us hl => match us, hl with | [_, _, _, _], _ => rfl⟩
  have D_L_copy : Dfn K mg "_law_copy" s_L_copy ["_law_net"] := ⟨_, _, fun_mk (st := s_L_copy) l22 c22 k22, PySem.W.mg_of X G a22, (fun_mk (st := s_L_copy) l22 c22 k22).binds fun _ _ _ _ _ _ us hl => match us, hl with | [_], _ => rfl⟩
  have D_L_turns : Dfn K mg "_law_turns" s_L_turns ["_law_net"] := ⟨_, _, fun_mk (st := s_L_turns) l23 c23 k23, PySem.W.mg_of X G a23, (fun_mk (st := s_L_turns) l23 c23 k23).binds fun _ _ _ _ _ _ us hl => match us, hl with | [_], _ => rfl⟩
  have D_L_regions : Dfn K mg "_law_regions" s_L_regions ["_law_net"] := ⟨_, _, fun_mk (st := s_L_regions) l24 c24 k24, PySem.W.mg_of X G a24, (fun_mk (st := s_L_regions) l24 c24 k24).binds fun _ _ _ _ _ _ us hl => match us, hl with | [_], _ => rfl⟩
  have D_L_any_net : Dfn K mg "_law_any_net" s_L_any_net ["_law_script"] := ⟨_, _, fun_mk (st := s_L_any_net) l25 c25 k25, PySem.W.mg_of X G a25, (fun_mk (st := s_L_any_net) l25 c25 k25).binds fun _ _ _ _ _ _ us hl => match us, hl with | [_], _ => rfl⟩
  have D_L_hang : Dfn K mg "_law_hang" s_L_hang ["_law_net"] := ⟨_, _, fun_mk (st := s_L_hang) l26 c26 k26, PySem.W.mg_of X G a26, (fun_mk (st := s_L_hang) l26 c26 k26).binds fun _ _ _ _ _ _ us hl => match us, hl with | [_], _ => rfl⟩
  have D_L_due : Dfn K mg "_law_due" s_L_due ["_law_net"] := ⟨_, _, fun_mk (st := s_L_due) l27 c27 k27, PySem.W.mg_of X G a27, (fun_mk (st := s_L_due) l27 c27 k27).binds fun _ _ _ _ _ _ us hl => match us, hl with | [_], _ => rfl⟩
  have D_L_told : Dfn K mg "_law_told" s_L_told ["_law_net"] := ⟨_, _, fun_mk (st := s_L_told) l28 c28 k28, PySem.W.mg_of X G a28, (fun_mk (st := s_L_told) l28 c28 k28).binds fun _ _ _ _ _ _ us hl => match us, hl with | [_], _ => rfl⟩
  refine ⟨PySem.W.fnOf "law" "law" (defArgs s_law) (defBody s_law) (defScope s_law) .none kV29 dc29 pm29 an29 cd29 ct29, fun s v => .of_eq rfl, fun base _ _ => ?_⟩
  have C_common := ok_common (P := l.prog) (w := w) (base := base) T D_common
  have C_is_whole := ok_is_whole (P := l.prog) (w := w) (base := base) T D_is_whole
  have C_is_worth := ok_is_worth (P := l.prog) (w := w) (base := base) T D_is_worth C_is_whole C_common
  have C_is_name := ok_is_name (P := l.prog) (w := w) (base := base) T D_is_name
  have C_are_names := ok_are_names (P := l.prog) (w := w) (base := base) T D_are_names C_is_name
  have C_turns_of := ok_turns_of (P := l.prog) (w := w) (base := base) T D_turns_of
  have C_mates_of := ok_mates_of (P := l.prog) (w := w) (base := base) T D_mates_of
  have C_corner_count := ok_corner_count (P := l.prog) (w := w) (base := base) T D_corner_count
  have C_corners_of := ok_corners_of (P := l.prog) (w := w) (base := base) T D_corners_of C_turns_of C_corner_count
  have C_corner_behind := ok_corner_behind (P := l.prog) (w := w) (base := base) T D_corner_behind
  have C_region_from := ok_region_from (P := l.prog) (w := w) (base := base) T D_region_from C_corner_behind
  have C_all_regions := ok_all_regions (P := l.prog) (w := w) (base := base) T D_all_regions C_turns_of C_mates_of C_corners_of C_region_from
  have C_hanging_points := ok_hanging_points (P := l.prog) (w := w) (base := base) T D_hanging_points C_turns_of C_mates_of
  have C_are_rows := ok_are_rows (P := l.prog) (w := w) (base := base) T D_are_rows C_are_names
  have C_are_wires := ok_are_wires (P := l.prog) (w := w) (base := base) T D_are_wires C_are_names C_is_worth
  have C_vet := ok_vet (P := l.prog) (w := w) (base := base) T TX D_vet C_are_rows C_are_wires C_hanging_points C_all_regions
  have C_regions_of := ok_regions_of (P := l.prog) (w := w) (base := base) T D_regions_of C_all_regions
  have C_L_cell_at := ok_L_cell_at (P := l.prog) (w := w) (base := base) T D_L_cell_at
  have C_L_big := ok_L_big (P := l.prog) (w := w) (base := base) T D_L_big C_L_cell_at
  have C_L_mates := ok_L_mates (P := l.prog) (w := w) (base := base) T D_L_mates
  have C_L_corner_behind := ok_L_corner_behind (P := l.prog) (w := w) (base := base) T D_L_corner_behind
  have C_L_region := ok_L_region (P := l.prog) (w := w) (base := base) T D_L_region C_L_corner_behind
  have C_L_copy := ok_L_copy (P := l.prog) (w := w) (base := base) T D_L_copy
  have C_L_turns := ok_L_turns (P := l.prog) (w := w) (base := base) T D_L_turns
  have C_L_regions := ok_L_regions (P := l.prog) (w := w) (base := base) T D_L_regions C_L_turns C_L_mates C_L_region
  have C_L_any_net := ok_L_any_net (P := l.prog) (w := w) (base := base) T D_L_any_net C_L_big
  have C_L_hang := ok_L_hang (P := l.prog) (w := w) (base := base) T D_L_hang
  have C_L_due := ok_L_due (P := l.prog) (w := w) (base := base) T D_L_due C_L_hang C_L_regions
  have C_L_told := ok_L_told (P := l.prog) (w := w) (base := base) T TX D_L_told C_vet
  exact ok_law T (fun_mk (st := s_law) l29 c29 k29) C_L_any_net C_L_due C_L_told C_L_copy C_regions_of
theorem walk {l : PySem.W.OpenLaw} {q : Program} {loose : List Str} {XP : (Str → Option Value) → Heap → Prop} {YP : World → Heap → Prop} {d : DefRec} {K : Params → PySem.W.Frag} (hn : l.most = some 63) (hdf : d.params.defaults = [])
    (hY : ∀ (w : World) (h : Heap), YP w h → (K w.params).In h)
    (F : ∀ (w : World) (mg : Str → Option Value) (fa : Addr) (h : Heap), (K w.params).In h → h.Ns mainGlobals mg → mg d.name = some (.ref fa) →
      ∃ fd : FuncData, (∀ (s : Shared) (u : Value), BindsTo s fd ⟨[u], []⟩ [("_law_script", u)]) ∧ ∀ base : Heap, (K w.params).In base → base.Ns mainGlobals mg → FnOk l.prog w (K w.params) mg base CX0 6 fa fd ["_law_script"] (spLaw (K w.params))) :
    PySem.W.WalkO q loose XP YP l.row.toRowW d [] (fun f vs => PySem.call f vs) :=
  L2.walk_of (n := 63) (k := 6) (x := "_law_script") (CX := fun _ => CX0) (sp := fun w => spLaw (K w.params)) hn (by decide) hdf ⟨rfl, by decide, by decide⟩ hY F (fun _ _ a ns _ _ hS => ⟨a, ns, rfl, hS, fun _ => rfl⟩) fun _ _ _ _ _ z => z
end RimW

open PySem PySem.W PyProof.Rows in
set_option maxRecDepth 100000 in
set_option maxHeartbeats 0 in
theorem PySem.Challenge.cw_rimread_k13_whole_turns_judged_holds : PySem.Challenge.rw_rimread_k13_whole_turns_judged.Holds := by
  w_on; o_law; k_head; (case hw => w_witness2)
  k_fill
  refine RimW.walk (l := PySem.Challenge.rw_rimread_k13_whole_turns_judged) rfl rfl (fun w h Y => PySem.W.kIn_of Y) ?F
  case F =>
    intro w mg fa h KX G hmg
    refine' RimW.all_mk KX G hmg ?a0 ?l0 ?c0 ?k0 ?a1 ?l1 ?c1 ?k1 ?a2 ?l2 ?c2 ?k2 ?a3 ?l3 ?c3 ?k3 ?a4 ?l4 ?c4 ?k4 ?a5 ?l5 ?c5 ?k5 ?a6 ?l6 ?c6 ?k6 ?a7 ?l7 ?c7 ?k7 ?a8 ?l8 ?c8 ?k8 ?a9 ?l9 ?c9 ?k9 ?a10 ?l10 ?c10 ?k10 ?a11 ?l11 ?c11 ?k11 ?a12 ?l12 ?c12 ?k12 ?a13 ?l13 ?c13 ?k13 ?a14 ?l14 ?c14 ?k14 ?a15 ?l15 ?c15 ?k15 ?a16 ?l16 ?c16 ?k16 ?a17 ?l17 ?c17 ?k17 ?a18 ?l18 ?c18 ?k18 ?a19 ?l19 ?c19 ?k19 ?a20 ?l20 ?c20 ?k20 ?a21 ?l21 ?c21 ?k21 ?a22 ?l22 ?c22 ?k22 ?a23 ?l23 ?c23 ?k23 ?a24 ?l24 ?c24 ?k24 ?a25 ?l25 ?c25 ?k25 ?a26 ?l26 ?c26 ?k26 ?a27 ?l27 ?c27 ?k27 ?a28 ?l28 ?c28 ?k28 ?a29 ?l29 ?c29 ?k29 ?zlen ?zlist ?zrange ?zenumerate ?zint ?zstr ?zbool ?ztuple ?zset ?zsorted ?zisinstance ?aS ?aL ?gNoNet ?xNoNet ?kNoNet ?bNoNet ?tNoNet ?gLoose ?xLoose ?kLoose ?bLoose ?tLoose ?gNoPlane ?xNoPlane ?kNoPlane ?bNoPlane ?tNoPlane ?uLL ?uPL ?uPP ?gaLoose ?ggLoose ?hdLoose ?clLoose ?moLoose ?gaNoPlane ?ggNoPlane ?hdNoPlane ?clNoPlane ?moNoPlane ?sp ?tk ?uLN ?uLP ?uPN ?hdNoNet
    (case a0 => k_is)
    (case l0 => k_is)
    (case c0 => k_is)
    (case k0 => k_is)
    (case a1 => k_is)
    (case l1 => k_is)
    (case c1 => k_is)
    (case k1 => k_is)
    (case a2 => k_is)
    (case l2 => k_is)
    (case c2 => k_is)
    (case k2 => k_is)
    (case a3 => k_is)
    (case l3 => k_is)
    (case c3 => k_is)
    (case k3 => k_is)
    (case a4 => k_is)
    (case l4 => k_is)
    (case c4 => k_is)
    (case k4 => k_is)
    (case a5 => k_is)
    (case l5 => k_is)
    (case c5 => k_is)
    (case k5 => k_is)
    (case a6 => k_is)
    (case l6 => k_is)
    (case c6 => k_is)
    (case k6 => k_is)
    (case a7 => k_is)
    (case l7 => k_is)
    (case c7 => k_is)
    (case k7 => k_is)
    (case a8 => k_is)
    (case l8 => k_is)
    (case c8 => k_is)
    (case k8 => k_is)
    (case a9 => k_is)
    (case l9 => k_is)
    (case c9 => k_is)
    (case k9 => k_is)
    (case a10 => k_is)
    (case l10 => k_is)
    (case c10 => k_is)
    (case k10 => k_is)
    (case a11 => k_is)
    (case l11 => k_is)
    (case c11 => k_is)
    (case k11 => k_is)
    (case a12 => k_is)
    (case l12 => k_is)
    (case c12 => k_is)
    (case k12 => k_is)
    (case a13 => k_is)
    (case l13 => k_is)
    (case c13 => k_is)
    (case k13 => k_is)
    (case a14 => k_is)
    (case l14 => k_is)
    (case c14 => k_is)
    (case k14 => k_is)
    (case a15 => k_is)
    (case l15 => k_is)
    (case c15 => k_is)
    (case k15 => k_is)
    (case a16 => k_is)
    (case l16 => k_is)
    (case c16 => k_is)
    (case k16 => k_is)
    (case a17 => k_is)
    (case l17 => k_is)
    (case c17 => k_is)
    (case k17 => k_is)
    (case a18 => k_is)
    (case l18 => k_is)
    (case c18 => k_is)
    (case k18 => k_is)
    (case a19 => k_is)
    (case l19 => k_is)
    (case c19 => k_is)
    (case k19 => k_is)
    (case a20 => k_is)
    (case l20 => k_is)
    (case c20 => k_is)
    (case k20 => k_is)
    (case a21 => k_is)
    (case l21 => k_is)
    (case c21 => k_is)
    (case k21 => k_is)
    (case a22 => k_is)
    (case l22 => k_is)
    (case c22 => k_is)
    (case k22 => k_is)
    (case a23 => k_is)
    (case l23 => k_is)
    (case c23 => k_is)
    (case k23 => k_is)
    (case a24 => k_is)
    (case l24 => k_is)
    (case c24 => k_is)
    (case k24 => k_is)
    (case a25 => k_is)
    (case l25 => k_is)
    (case c25 => k_is)
    (case k25 => k_is)
    (case a26 => k_is)
    (case l26 => k_is)
    (case c26 => k_is)
    (case k26 => k_is)
    (case a27 => k_is)
    (case l27 => k_is)
    (case c27 => k_is)
    (case k27 => k_is)
    (case a28 => k_is)
    (case l28 => k_is)
    (case c28 => k_is)
    (case k28 => k_is)
    (case a29 => k_is)
    (case l29 => k_is)
    (case c29 => k_is)
    (case k29 => k_is)
    (case zlen => k_is)
    (case zlist => k_is)
    (case zrange => k_is)
    (case zenumerate => k_is)
    (case zint => k_is)
    (case zstr => k_is)
    (case zbool => k_is)
    (case ztuple => k_is)
    (case zset => k_is)
    (case zsorted => k_is)
    (case zisinstance => k_is)
    (case aS => k_is)
    (case aL => k_is)
    (case gNoNet => k_is)
    (case xNoNet => k_exc)
    (case kNoNet => k_is)
    (case bNoNet => k_is)
    (case tNoNet => k_is)
    (case gLoose => k_is)
    (case xLoose => k_exc)
    (case kLoose => k_is)
    (case bLoose => k_is)
    (case tLoose => k_is)
    (case gNoPlane => k_is)
    (case xNoPlane => k_exc)
    (case kNoPlane => k_is)
    (case bNoPlane => k_is)
    (case tNoPlane => k_is)
    (case uLL => k_is)
    (case uPL => k_is)
    (case uPP => k_is)
    (case gaLoose => k_is)
    (case ggLoose => k_is)
    (case hdLoose => k_is)
    (case clLoose => k_is)
    (case moLoose => k_is)
    (case gaNoPlane => k_is)
    (case ggNoPlane => k_is)
    (case hdNoPlane => k_is)
    (case clNoPlane => k_is)
    (case moNoPlane => k_is)
    (case sp => k_is)
    (case tk => k_is)
    (case uLN => k_is)
    (case uLP => k_is)
    (case uPN => k_is)
    (case hdNoNet => k_is)
#print axioms PySem.Challenge.cw_rimread_k13_whole_turns_judged_holds
